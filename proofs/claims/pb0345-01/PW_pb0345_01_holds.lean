import PyProof.Rows.All
import Wide.All
import OpenK.AllK
import Wide.FinOn
import Lean
import PySem.Challenge.RW_pb0345_01
open PySem PySem.W PySem.Spec PySem.Calls PyProof.Rows
set_option Elab.async false
set_option tactic.hygienic false
set_option maxRecDepth 100000
set_option linter.all false
set_option compiler.extract_closed false
section
namespace Mine
noncomputable def st (i : Nat) : Stmt:=PySem.Challenge.pw_pb0345_01.main.body.getD i (.Pass default)
noncomputable def DN : Stmt → List Stmt
 | .ClassDef _ _ _ b _ _ _ _ _ _ _=>b
 | _=>[]
noncomputable def mt (i j : Nat) : Stmt:=(DN (st i)).getD j (.Pass default)
noncomputable def bD : Stmt → Arguments
 | .FunctionDef _ a _ _ _ _ _ _ _ _=>a
 | _=>default
noncomputable def aT : Stmt → List Stmt
 | .FunctionDef _ _ b _ _ _ _ _ _ _=>b
 | _=>[]
noncomputable def aM : Stmt → Scope
 | .FunctionDef _ _ _ _ _ _ s _ _ _=>s
 | _=>default
noncomputable def en (P : Params) (x : Str) (t : Nat) (v : Value) : DictEntry:=⟨PyData.keyHash P x,.str x t,v⟩
noncomputable def Ed (P : Params) : Obj:={ cls:=.type "dict",data:=.dict #[en P "__name__" 165 (.str "law_pb0345_01" 629),en P "__doc__" 166 .none,en P "__package__" 167 .none,en P "__loader__" 168 (.builtin "__main__.__loader__#opaque"),en P "__spec__" 169 .none,en P "__annotations__" 170 (.ref 6),en P "__builtins__" 171 (.ref 4),en P "__file__" 173 (.str "/claim/cut.py" 172),en P "__cached__" 174 .none,en P "Node" 226 (.ref 32),en P "const" 235 (.ref 43),en P "ProcTree" 270 (.ref 60),en P "nodes_of" 281 (.ref 71),en P "is_scalar" 290 (.ref 78),en P "inner_nodes" 302 (.ref 85),en P "followed" 313 (.ref 92),en P "Follower" 352 (.ref 116),en P "used" 362 (.ref 127),en P "with_store" 372 (.ref 134),en P "place_uses" 382 (.ref 141),en P "value_uses" 392 (.ref 148),en P "call_uses" 406 (.ref 155),en P "std_uses" 417 (.ref 162),en P "branch_uses" 429 (.ref 169),en P "while_uses" 439 (.ref 176),en P "for_uses" 452 (.ref 183),en P "case_uses" 463 (.ref 190),en P "statement_uses" 474 (.ref 197),en P "unset_uses" 480 (.ref 202),en P "Type" 524 (.ref 219),en P "Obj" 569 (.ref 240),en P "Types" 628 (.ref 276),en P "_law_pool" 641 (.ref 287),en P "_law_draw" 649 (.ref 294),en P "_law_place" 656 (.ref 301),en P "_law_var" 664 (.ref 308),en P "_law_value" 674 (.ref 315),en P "_law_test" 686 (.ref 322),en P "_law_block" 692 (.ref 327),en P "_law_arms" 704 (.ref 334),en P "_law_deed" 723 (.ref 341),en P "_law_uses" 734 (.ref 348),en P "_law_stored" 740 (.ref 353),en P "_law_joined" 746 (.ref 358),en P "_law_ways" 760 (.ref 365),en P "_law_turns" 773 (.ref 372),en P "law" 795 (.ref 379)] 47 }
noncomputable def v7 (P : Params) : Obj:={ cls:=.type "tuple",data:=.seq #[.none] }
noncomputable def CD (P : Params) : Obj:={ cls:=.type "code",data:=.fields #[.str "__init__" 201,.str "Node.__init__" 202,.str "/claim/cut.py" 203,.int 4 0,.int 6 0,.int 0 0,.int 0 0,.int 3 0,.ref 23,.bool true,.int 181 0,.ref 24,.none,.ref 25,.ref 26,.ref 27,.int 210 0,.int 4 0,.str "/claim/cut.py" 211] }
noncomputable def yt (P : Params) : Obj:=⟨.type "function",none,.func (fnOf "__init__" "Node.__init__" (bD (mt 1 0)) (aT (mt 1 0)) (aM (mt 1 0)) (.ref 22) .none .none (.str "moduleyard.trees" 187) none (.ref 28) .none),#[]⟩
noncomputable def C0 (P : Params) : Obj:={ cls:=.type "dict",data:=.dict #[en P "__module__" 196 (.str "moduleyard.trees" 187),en P "__firstlineno__" 200 (.int 2 199),en P "__init__" 212 (.ref 29),en P "__static_attributes__" 219 (.ref 30),en P "__dict__" 221 (.ref 33),en P "__weakref__" 223 (.ref 34),en P "__doc__" 224 .none] 4 }
noncomputable def CU (P : Params) : Obj:={ cls:=.type "type",data:=.cls { name := "Node",bases:=[.type "object"],mro:=[.ref 32,.type "object"],ns:=31,qualname := "Node" },slots:=#[none,none,some (.str "Node" 189),some (.str "Node" 197),some (.builtin "object.__new__"),some (.bool true)] }
noncomputable def C7 (P : Params) : Obj:={ cls:=.type "code",data:=.fields #[.str "const" 227,.str "const" 228,.str "/claim/cut.py" 229,.int 11 0,.int 3 0,.int 0 0,.int 0 0,.int 3 0,.ref 37,.bool true,.int 181 0,.ref 38,.none,.ref 39,.ref 40,.ref 41,.int 233 0,.int 11 0,.str "/claim/cut.py" 234] }
noncomputable def z8 (P : Params) : Obj:=⟨.type "function",none,.func (fnOf "const" "const" (bD (st 2)) (aT (st 2)) (aM (st 2)) .none .none .none (.str "moduleyard.trees" 187) none (.ref 42) .none),#[]⟩
noncomputable def CL (P : Params) : Obj:={ cls:=.type "code",data:=.fields #[.str "__init__" 248,.str "ProcTree.__init__" 249,.str "/claim/cut.py" 250,.int 15 0,.int 2 0,.int 0 0,.int 0 0,.int 3 0,.ref 51,.bool true,.int 181 0,.ref 52,.none,.ref 53,.ref 54,.ref 55,.int 253 0,.int 15 0,.str "/claim/cut.py" 254] }
noncomputable def yG (P : Params) : Obj:=⟨.type "function",none,.func (fnOf "__init__" "ProcTree.__init__" (bD (mt 3 0)) (aT (mt 3 0)) (aM (mt 3 0)) .none .none .none (.str "moduleyard.trees" 187) none (.ref 56) .none),#[]⟩
noncomputable def CJ (P : Params) : Obj:={ cls:=.type "dict",data:=.dict #[en P "__module__" 243 (.str "moduleyard.trees" 187),en P "__firstlineno__" 247 (.int 13 246),en P "__init__" 255 (.ref 57),en P "__static_attributes__" 263 (.ref 58),en P "__dict__" 265 (.ref 61),en P "__weakref__" 267 (.ref 62),en P "__doc__" 268 .none] 4 }
noncomputable def CK (P : Params) : Obj:={ cls:=.type "type",data:=.cls { name := "ProcTree",bases:=[.type "object"],mro:=[.ref 60,.type "object"],ns:=59,qualname := "ProcTree" },slots:=#[none,none,some (.str "ProcTree" 236),some (.str "ProcTree" 244),some (.builtin "object.__new__"),some (.bool true)] }
noncomputable def CH (P : Params) : Obj:={ cls:=.type "code",data:=.fields #[.str "nodes_of" 271,.str "nodes_of" 272,.str "/claim/cut.py" 273,.int 23 0,.int 1 0,.int 0 0,.int 0 0,.int 3 0,.ref 65,.bool true,.int 181 0,.ref 66,.none,.ref 67,.ref 68,.ref 69,.int 279 0,.int 23 0,.str "/claim/cut.py" 280] }
noncomputable def yN (P : Params) : Obj:=⟨.type "function",none,.func (fnOf "nodes_of" "nodes_of" (bD (st 4)) (aT (st 4)) (aM (st 4)) .none .none .none (.str "moduleyard.trees" 187) none (.ref 70) .none),#[]⟩
noncomputable def CI (P : Params) : Obj:={ cls:=.type "code",data:=.fields #[.str "is_scalar" 284,.str "is_scalar" 285,.str "/claim/cut.py" 286,.int 36 0,.int 1 0,.int 0 0,.int 0 0,.int 3 0,.ref 72,.bool true,.int 181 0,.ref 73,.none,.ref 74,.ref 75,.ref 76,.int 288 0,.int 36 0,.str "/claim/cut.py" 289] }
noncomputable def x5 (P : Params) : Obj:=⟨.type "function",none,.func (fnOf "is_scalar" "is_scalar" (bD (st 6)) (aT (st 6)) (aM (st 6)) .none .none .none (.str "moduleyard.typerel" 282) none (.ref 77) .none),#[]⟩
noncomputable def CR (P : Params) : Obj:={ cls:=.type "code",data:=.fields #[.str "inner_nodes" 293,.str "inner_nodes" 294,.str "/claim/cut.py" 295,.int 39 0,.int 1 0,.int 0 0,.int 0 0,.int 3 0,.ref 79,.bool true,.int 181 0,.ref 80,.none,.ref 81,.ref 82,.ref 83,.int 300 0,.int 39 0,.str "/claim/cut.py" 301] }
noncomputable def AM (P : Params) : Obj:=⟨.type "function",none,.func (fnOf "inner_nodes" "inner_nodes" (bD (st 8)) (aT (st 8)) (aM (st 8)) .none .none .none (.str "moduleyard.definite" 291) none (.ref 84) .none),#[]⟩
noncomputable def C9 (P : Params) : Obj:={ cls:=.type "code",data:=.fields #[.str "followed" 303,.str "followed" 304,.str "/claim/cut.py" 305,.int 48 0,.int 1 0,.int 0 0,.int 0 0,.int 3 0,.ref 86,.bool true,.int 181 0,.ref 87,.none,.ref 88,.ref 89,.ref 90,.int 311 0,.int 48 0,.str "/claim/cut.py" 312] }
noncomputable def Ao (P : Params) : Obj:=⟨.type "function",none,.func (fnOf "followed" "followed" (bD (st 9)) (aT (st 9)) (aM (st 9)) .none .none .none (.str "moduleyard.definite" 291) none (.ref 91) .none),#[]⟩
noncomputable def zc (P : Params) : Obj:={ cls:=.type "code",data:=.fields #[.str "__init__" 326,.str "Follower.__init__" 327,.str "/claim/cut.py" 328,.int 60 0,.int 2 0,.int 0 0,.int 0 0,.int 3 0,.ref 100,.bool true,.int 181 0,.ref 101,.none,.ref 102,.ref 103,.ref 104,.int 331 0,.int 60 0,.str "/claim/cut.py" 332] }
noncomputable def uM (P : Params) : Obj:=⟨.type "function",none,.func (fnOf "__init__" "Follower.__init__" (bD (mt 10 0)) (aT (mt 10 0)) (aM (mt 10 0)) .none .none .none (.str "moduleyard.definite" 291) none (.ref 105) .none),#[]⟩
noncomputable def yk (P : Params) : Obj:={ cls:=.type "code",data:=.fields #[.str "slot_of" 334,.str "Follower.slot_of" 335,.str "/claim/cut.py" 336,.int 65 0,.int 2 0,.int 0 0,.int 0 0,.int 3 0,.ref 107,.bool true,.int 181 0,.ref 108,.none,.ref 109,.ref 110,.ref 111,.int 339 0,.int 65 0,.str "/claim/cut.py" 340] }
noncomputable def vO (P : Params) : Obj:=⟨.type "function",none,.func (fnOf "slot_of" "Follower.slot_of" (bD (mt 10 1)) (aT (mt 10 1)) (aM (mt 10 1)) .none .none .none (.str "moduleyard.definite" 291) none (.ref 112) .none),#[]⟩
noncomputable def Aq (P : Params) : Obj:={ cls:=.type "dict",data:=.dict #[en P "__module__" 321 (.str "moduleyard.definite" 291),en P "__firstlineno__" 325 (.int 58 324),en P "__init__" 333 (.ref 106),en P "slot_of" 341 (.ref 113),en P "__static_attributes__" 345 (.ref 114),en P "__dict__" 347 (.ref 117),en P "__weakref__" 349 (.ref 118),en P "__doc__" 350 .none] 4 }
noncomputable def AU (P : Params) : Obj:={ cls:=.type "type",data:=.cls { name := "Follower",bases:=[.type "object"],mro:=[.ref 116,.type "object"],ns:=115,qualname := "Follower" },slots:=#[none,none,some (.str "Follower" 314),some (.str "Follower" 322),some (.builtin "object.__new__"),some (.bool true)] }
noncomputable def Aw (P : Params) : Obj:={ cls:=.type "code",data:=.fields #[.str "used" 353,.str "used" 354,.str "/claim/cut.py" 355,.int 69 0,.int 3 0,.int 0 0,.int 0 0,.int 3 0,.ref 121,.bool true,.int 181 0,.ref 122,.none,.ref 123,.ref 124,.ref 125,.int 360 0,.int 69 0,.str "/claim/cut.py" 361] }
noncomputable def tX (P : Params) : Obj:=⟨.type "function",none,.func (fnOf "used" "used" (bD (st 11)) (aT (st 11)) (aM (st 11)) .none .none .none (.str "moduleyard.definite" 291) none (.ref 126) .none),#[]⟩
noncomputable def yf (P : Params) : Obj:={ cls:=.type "code",data:=.fields #[.str "with_store" 363,.str "with_store" 364,.str "/claim/cut.py" 365,.int 73 0,.int 3 0,.int 0 0,.int 0 0,.int 3 0,.ref 128,.bool true,.int 181 0,.ref 129,.none,.ref 130,.ref 131,.ref 132,.int 370 0,.int 73 0,.str "/claim/cut.py" 371] }
noncomputable def vz (P : Params) : Obj:=⟨.type "function",none,.func (fnOf "with_store" "with_store" (bD (st 12)) (aT (st 12)) (aM (st 12)) .none .none .none (.str "moduleyard.definite" 291) none (.ref 133) .none),#[]⟩
noncomputable def z0 (P : Params) : Obj:={ cls:=.type "code",data:=.fields #[.str "place_uses" 373,.str "place_uses" 374,.str "/claim/cut.py" 375,.int 80 0,.int 3 0,.int 0 0,.int 0 0,.int 3 0,.ref 135,.bool true,.int 181 0,.ref 136,.none,.ref 137,.ref 138,.ref 139,.int 380 0,.int 80 0,.str "/claim/cut.py" 381] }
noncomputable def t6 (P : Params) : Obj:=⟨.type "function",none,.func (fnOf "place_uses" "place_uses" (bD (st 13)) (aT (st 13)) (aM (st 13)) .none .none .none (.str "moduleyard.definite" 291) none (.ref 140) .none),#[]⟩
noncomputable def zN (P : Params) : Obj:={ cls:=.type "code",data:=.fields #[.str "value_uses" 383,.str "value_uses" 384,.str "/claim/cut.py" 385,.int 91 0,.int 3 0,.int 0 0,.int 0 0,.int 3 0,.ref 142,.bool true,.int 181 0,.ref 143,.none,.ref 144,.ref 145,.ref 146,.int 390 0,.int 91 0,.str "/claim/cut.py" 391] }
noncomputable def uJ (P : Params) : Obj:=⟨.type "function",none,.func (fnOf "value_uses" "value_uses" (bD (st 14)) (aT (st 14)) (aM (st 14)) .none .none .none (.str "moduleyard.definite" 291) none (.ref 147) .none),#[]⟩
noncomputable def yS (P : Params) : Obj:={ cls:=.type "code",data:=.fields #[.str "call_uses" 393,.str "call_uses" 394,.str "/claim/cut.py" 395,.int 104 0,.int 3 0,.int 0 0,.int 0 0,.int 3 0,.ref 149,.bool true,.int 181 0,.ref 150,.none,.ref 151,.ref 152,.ref 153,.int 404 0,.int 104 0,.str "/claim/cut.py" 405] }
noncomputable def uu (P : Params) : Obj:=⟨.type "function",none,.func (fnOf "call_uses" "call_uses" (bD (st 15)) (aT (st 15)) (aM (st 15)) .none .none .none (.str "moduleyard.definite" 291) none (.ref 154) .none),#[]⟩
noncomputable def yW (P : Params) : Obj:={ cls:=.type "code",data:=.fields #[.str "std_uses" 407,.str "std_uses" 408,.str "/claim/cut.py" 409,.int 119 0,.int 3 0,.int 0 0,.int 0 0,.int 3 0,.ref 156,.bool true,.int 181 0,.ref 157,.none,.ref 158,.ref 159,.ref 160,.int 415 0,.int 119 0,.str "/claim/cut.py" 416] }
noncomputable def vQ (P : Params) : Obj:=⟨.type "function",none,.func (fnOf "std_uses" "std_uses" (bD (st 16)) (aT (st 16)) (aM (st 16)) .none .none .none (.str "moduleyard.definite" 291) none (.ref 161) .none),#[]⟩
noncomputable def yv (P : Params) : Obj:={ cls:=.type "code",data:=.fields #[.str "branch_uses" 418,.str "branch_uses" 419,.str "/claim/cut.py" 420,.int 129 0,.int 3 0,.int 0 0,.int 0 0,.int 3 0,.ref 163,.bool true,.int 181 0,.ref 164,.none,.ref 165,.ref 166,.ref 167,.int 427 0,.int 129 0,.str "/claim/cut.py" 428] }
noncomputable def vn (P : Params) : Obj:=⟨.type "function",none,.func (fnOf "branch_uses" "branch_uses" (bD (st 17)) (aT (st 17)) (aM (st 17)) .none .none .none (.str "moduleyard.definite" 291) none (.ref 168) .none),#[]⟩
noncomputable def AL (P : Params) : Obj:={ cls:=.type "code",data:=.fields #[.str "while_uses" 430,.str "while_uses" 431,.str "/claim/cut.py" 432,.int 139 0,.int 3 0,.int 0 0,.int 0 0,.int 3 0,.ref 170,.bool true,.int 181 0,.ref 171,.none,.ref 172,.ref 173,.ref 174,.int 437 0,.int 139 0,.str "/claim/cut.py" 438] }
noncomputable def uY (P : Params) : Obj:=⟨.type "function",none,.func (fnOf "while_uses" "while_uses" (bD (st 18)) (aT (st 18)) (aM (st 18)) .none .none .none (.str "moduleyard.definite" 291) none (.ref 175) .none),#[]⟩
noncomputable def y7 (P : Params) : Obj:={ cls:=.type "code",data:=.fields #[.str "for_uses" 440,.str "for_uses" 441,.str "/claim/cut.py" 442,.int 144 0,.int 3 0,.int 0 0,.int 0 0,.int 3 0,.ref 177,.bool true,.int 181 0,.ref 178,.none,.ref 179,.ref 180,.ref 181,.int 450 0,.int 144 0,.str "/claim/cut.py" 451] }
noncomputable def vE (P : Params) : Obj:=⟨.type "function",none,.func (fnOf "for_uses" "for_uses" (bD (st 19)) (aT (st 19)) (aM (st 19)) .none .none .none (.str "moduleyard.definite" 291) none (.ref 182) .none),#[]⟩
noncomputable def zE (P : Params) : Obj:={ cls:=.type "code",data:=.fields #[.str "case_uses" 453,.str "case_uses" 454,.str "/claim/cut.py" 455,.int 150 0,.int 3 0,.int 0 0,.int 0 0,.int 3 0,.ref 184,.bool true,.int 181 0,.ref 185,.none,.ref 186,.ref 187,.ref 188,.int 461 0,.int 150 0,.str "/claim/cut.py" 462] }
noncomputable def uk (P : Params) : Obj:=⟨.type "function",none,.func (fnOf "case_uses" "case_uses" (bD (st 20)) (aT (st 20)) (aM (st 20)) .none .none .none (.str "moduleyard.definite" 291) none (.ref 189) .none),#[]⟩
noncomputable def x6 (P : Params) : Obj:={ cls:=.type "code",data:=.fields #[.str "statement_uses" 464,.str "statement_uses" 465,.str "/claim/cut.py" 466,.int 156 0,.int 3 0,.int 0 0,.int 0 0,.int 3 0,.ref 191,.bool true,.int 181 0,.ref 192,.none,.ref 193,.ref 194,.ref 195,.int 472 0,.int 156 0,.str "/claim/cut.py" 473] }
noncomputable def tY (P : Params) : Obj:=⟨.type "function",none,.func (fnOf "statement_uses" "statement_uses" (bD (st 21)) (aT (st 21)) (aM (st 21)) .none .none .none (.str "moduleyard.definite" 291) none (.ref 196) .none),#[]⟩
noncomputable def zO (P : Params) : Obj:={ cls:=.type "code",data:=.fields #[.str "unset_uses" 475,.str "unset_uses" 476,.str "/claim/cut.py" 477,.int 179 0,.int 1 0,.int 0 0,.int 0 0,.int 3 0,.ref 198,.bool true,.int 181 0,.ref 199,.none,.none,.none,.ref 200,.int 478 0,.int 179 0,.str "/claim/cut.py" 479] }
noncomputable def uq (P : Params) : Obj:=⟨.type "function",none,.func (fnOf "unset_uses" "unset_uses" (bD (st 22)) (aT (st 22)) (aM (st 22)) .none .none .none (.str "moduleyard.definite" 291) none (.ref 201) .none),#[]⟩
noncomputable def AG (P : Params) : Obj:={ cls:=.type "code",data:=.fields #[.str "__init__" 495,.str "Type.__init__" 496,.str "/claim/cut.py" 497,.int 188 0,.int 4 0,.int 0 0,.int 0 0,.int 3 0,.ref 210,.bool true,.int 181 0,.ref 211,.none,.ref 212,.ref 213,.ref 214,.int 502 0,.int 188 0,.str "/claim/cut.py" 503] }
noncomputable def ve (P : Params) : Obj:=⟨.type "function",none,.func (fnOf "__init__" "Type.__init__" (bD (mt 24 0)) (aT (mt 24 0)) (aM (mt 24 0)) .none .none .none (.str "moduleyard.types" 481) none (.ref 215) .none),#[]⟩
noncomputable def yD (P : Params) : Obj:={ cls:=.type "dict",data:=.dict #[en P "__module__" 490 (.str "moduleyard.types" 481),en P "__firstlineno__" 494 (.int 186 493),en P "__init__" 504 (.ref 216),en P "__static_attributes__" 517 (.ref 217),en P "__dict__" 519 (.ref 220),en P "__weakref__" 521 (.ref 221),en P "__doc__" 522 .none] 4 }
noncomputable def yz (P : Params) : Obj:={ cls:=.type "type",data:=.cls { name := "Type",bases:=[.type "object"],mro:=[.ref 219,.type "object"],ns:=218,qualname := "Type" },slots:=#[none,none,some (.str "Type" 483),some (.str "Type" 491),some (.builtin "object.__new__"),some (.bool true)] }
noncomputable def AO (P : Params) : Obj:={ cls:=.type "code",data:=.fields #[.str "__init__" 537,.str "Obj.__init__" 538,.str "/claim/cut.py" 539,.int 203 0,.int 5 0,.int 0 0,.int 0 0,.int 3 0,.ref 231,.bool true,.int 181 0,.ref 232,.none,.ref 233,.ref 234,.ref 235,.int 545 0,.int 203 0,.str "/claim/cut.py" 546] }
noncomputable def vg (P : Params) : Obj:=⟨.type "function",none,.func (fnOf "__init__" "Obj.__init__" (bD (mt 25 0)) (aT (mt 25 0)) (aM (mt 25 0)) .none .none .none (.str "moduleyard.types" 481) none (.ref 236) .none),#[]⟩
noncomputable def AI (P : Params) : Obj:={ cls:=.type "dict",data:=.dict #[en P "__module__" 532 (.str "moduleyard.types" 481),en P "__firstlineno__" 536 (.int 201 535),en P "__init__" 547 (.ref 237),en P "__static_attributes__" 562 (.ref 238),en P "__dict__" 564 (.ref 241),en P "__weakref__" 566 (.ref 242),en P "__doc__" 567 .none] 4 }
noncomputable def yq (P : Params) : Obj:={ cls:=.type "type",data:=.cls { name := "Obj",bases:=[.type "object"],mro:=[.ref 240,.type "object"],ns:=239,qualname := "Obj" },slots:=#[none,none,some (.str "Obj" 525),some (.str "Obj" 533),some (.builtin "object.__new__"),some (.bool true)] }
noncomputable def zZ (P : Params) : Obj:={ cls:=.type "code",data:=.fields #[.str "__init__" 582,.str "Types.__init__" 583,.str "/claim/cut.py" 584,.int 220 0,.int 1 0,.int 0 0,.int 0 0,.int 3 0,.ref 252,.bool true,.int 181 0,.ref 253,.none,.ref 254,.ref 255,.ref 256,.int 586 0,.int 220 0,.str "/claim/cut.py" 587] }
noncomputable def vy (P : Params) : Obj:=⟨.type "function",none,.func (fnOf "__init__" "Types.__init__" (bD (mt 26 0)) (aT (mt 26 0)) (aM (mt 26 0)) .none .none .none (.str "moduleyard.types" 481) none (.ref 257) .none),#[]⟩
noncomputable def ot (P : Params) : Obj:={ cls:=.type "tuple",data:=.seq #[.str "" 589,.str "" 590] }
noncomputable def zP (P : Params) : Obj:={ cls:=.type "code",data:=.fields #[.str "new" 591,.str "Types.new" 592,.str "/claim/cut.py" 593,.int 231 0,.int 5 0,.int 0 0,.int 0 0,.int 3 0,.ref 260,.bool true,.int 181 0,.ref 261,.none,.ref 262,.ref 263,.ref 264,.int 600 0,.int 231 0,.str "/claim/cut.py" 601] }
noncomputable def u8 (P : Params) : Obj:=⟨.type "function",none,.func (fnOf "new" "Types.new" (bD (mt 26 1)) (aT (mt 26 1)) (aM (mt 26 1)) (.ref 259) .none .none (.str "moduleyard.types" 481) none (.ref 265) .none),#[]⟩
noncomputable def ym (P : Params) : Obj:={ cls:=.type "dict",data:=.dict #[en P "__module__" 577 (.str "moduleyard.types" 481),en P "__firstlineno__" 581 (.int 218 580),en P "__init__" 588 (.ref 258),en P "new" 602 (.ref 266),en P "string" 611 (.ref 273),en P "__static_attributes__" 621 (.ref 274),en P "__dict__" 623 (.ref 277),en P "__weakref__" 625 (.ref 278),en P "__doc__" 626 .none] 4 }
noncomputable def yE (P : Params) : Obj:={ cls:=.type "type",data:=.cls { name := "Types",bases:=[.type "object"],mro:=[.ref 276,.type "object"],ns:=275,qualname := "Types" },slots:=#[none,none,some (.str "Types" 570),some (.str "Types" 578),some (.builtin "object.__new__"),some (.bool true)] }
noncomputable def yc (P : Params) : Obj:={ cls:=.type "code",data:=.fields #[.str "_law_pool" 631,.str "_law_pool" 632,.str "/claim/cut.py" 633,.int 246 0,.int 1 0,.int 0 0,.int 0 0,.int 3 0,.ref 281,.bool true,.int 181 0,.ref 282,.none,.ref 283,.ref 284,.ref 285,.int 639 0,.int 246 0,.str "/claim/cut.py" 640] }
noncomputable def uI (P : Params) : Obj:=⟨.type "function",none,.func (fnOf "_law_pool" "_law_pool" (bD (st 28)) (aT (st 28)) (aM (st 28)) .none .none .none (.str "law_pb0345_01" 629) none (.ref 286) .none),#[]⟩
noncomputable def x9 (P : Params) : Obj:={ cls:=.type "code",data:=.fields #[.str "_law_draw" 642,.str "_law_draw" 643,.str "/claim/cut.py" 644,.int 258 0,.int 2 0,.int 0 0,.int 0 0,.int 3 0,.ref 288,.bool true,.int 181 0,.ref 289,.none,.ref 290,.ref 291,.ref 292,.int 647 0,.int 258 0,.str "/claim/cut.py" 648] }
noncomputable def vi (P : Params) : Obj:=⟨.type "function",none,.func (fnOf "_law_draw" "_law_draw" (bD (st 29)) (aT (st 29)) (aM (st 29)) .none .none .none (.str "law_pb0345_01" 629) none (.ref 293) .none),#[]⟩
noncomputable def zr (P : Params) : Obj:={ cls:=.type "code",data:=.fields #[.str "_law_place" 650,.str "_law_place" 651,.str "/claim/cut.py" 652,.int 260 0,.int 1 0,.int 0 0,.int 0 0,.int 3 0,.ref 295,.bool true,.int 181 0,.ref 296,.none,.ref 297,.ref 298,.ref 299,.int 654 0,.int 260 0,.str "/claim/cut.py" 655] }
noncomputable def vM (P : Params) : Obj:=⟨.type "function",none,.func (fnOf "_law_place" "_law_place" (bD (st 30)) (aT (st 30)) (aM (st 30)) .none .none .none (.str "law_pb0345_01" 629) none (.ref 300) .none),#[]⟩
noncomputable def y3 (P : Params) : Obj:={ cls:=.type "code",data:=.fields #[.str "_law_var" 657,.str "_law_var" 658,.str "/claim/cut.py" 659,.int 263 0,.int 2 0,.int 0 0,.int 0 0,.int 3 0,.ref 302,.bool true,.int 181 0,.ref 303,.none,.ref 304,.ref 305,.ref 306,.int 662 0,.int 263 0,.str "/claim/cut.py" 663] }
noncomputable def vU (P : Params) : Obj:=⟨.type "function",none,.func (fnOf "_law_var" "_law_var" (bD (st 31)) (aT (st 31)) (aM (st 31)) .none .none .none (.str "law_pb0345_01" 629) none (.ref 307) .none),#[]⟩
noncomputable def zv (P : Params) : Obj:={ cls:=.type "code",data:=.fields #[.str "_law_value" 665,.str "_law_value" 666,.str "/claim/cut.py" 667,.int 265 0,.int 2 0,.int 0 0,.int 0 0,.int 3 0,.ref 309,.bool true,.int 181 0,.ref 310,.none,.ref 311,.ref 312,.ref 313,.int 672 0,.int 265 0,.str "/claim/cut.py" 673] }
noncomputable def uj (P : Params) : Obj:=⟨.type "function",none,.func (fnOf "_law_value" "_law_value" (bD (st 32)) (aT (st 32)) (aM (st 32)) .none .none .none (.str "law_pb0345_01" 629) none (.ref 314) .none),#[]⟩
noncomputable def yr (P : Params) : Obj:={ cls:=.type "code",data:=.fields #[.str "_law_test" 675,.str "_law_test" 676,.str "/claim/cut.py" 677,.int 273 0,.int 2 0,.int 0 0,.int 0 0,.int 3 0,.ref 316,.bool true,.int 181 0,.ref 317,.none,.ref 318,.ref 319,.ref 320,.int 684 0,.int 273 0,.str "/claim/cut.py" 685] }
noncomputable def t5 (P : Params) : Obj:=⟨.type "function",none,.func (fnOf "_law_test" "_law_test" (bD (st 33)) (aT (st 33)) (aM (st 33)) .none .none .none (.str "law_pb0345_01" 629) none (.ref 321) .none),#[]⟩
noncomputable def An (P : Params) : Obj:={ cls:=.type "code",data:=.fields #[.str "_law_block" 687,.str "_law_block" 688,.str "/claim/cut.py" 689,.int 281 0,.int 3 0,.int 0 0,.int 0 0,.int 3 0,.ref 323,.bool true,.int 181 0,.ref 324,.none,.none,.none,.ref 325,.int 690 0,.int 281 0,.str "/claim/cut.py" 691] }
noncomputable def uf (P : Params) : Obj:=⟨.type "function",none,.func (fnOf "_law_block" "_law_block" (bD (st 34)) (aT (st 34)) (aM (st 34)) .none .none .none (.str "law_pb0345_01" 629) none (.ref 326) .none),#[]⟩
noncomputable def yA (P : Params) : Obj:={ cls:=.type "code",data:=.fields #[.str "_law_arms" 693,.str "_law_arms" 694,.str "/claim/cut.py" 695,.int 284 0,.int 4 0,.int 0 0,.int 0 0,.int 3 0,.ref 328,.bool true,.int 181 0,.ref 329,.none,.ref 330,.ref 331,.ref 332,.int 702 0,.int 284 0,.str "/claim/cut.py" 703] }
noncomputable def uS (P : Params) : Obj:=⟨.type "function",none,.func (fnOf "_law_arms" "_law_arms" (bD (st 35)) (aT (st 35)) (aM (st 35)) .none .none .none (.str "law_pb0345_01" 629) none (.ref 333) .none),#[]⟩
noncomputable def yI (P : Params) : Obj:={ cls:=.type "code",data:=.fields #[.str "_law_deed" 705,.str "_law_deed" 706,.str "/claim/cut.py" 707,.int 290 0,.int 3 0,.int 0 0,.int 0 0,.int 3 0,.ref 335,.bool true,.int 181 0,.ref 336,.none,.ref 337,.ref 338,.ref 339,.int 721 0,.int 290 0,.str "/claim/cut.py" 722] }
noncomputable def vN (P : Params) : Obj:=⟨.type "function",none,.func (fnOf "_law_deed" "_law_deed" (bD (st 36)) (aT (st 36)) (aM (st 36)) .none .none .none (.str "law_pb0345_01" 629) none (.ref 340) .none),#[]⟩
noncomputable def zF (P : Params) : Obj:={ cls:=.type "code",data:=.fields #[.str "_law_uses" 724,.str "_law_uses" 725,.str "/claim/cut.py" 726,.int 327 0,.int 3 0,.int 0 0,.int 0 0,.int 3 0,.ref 342,.bool true,.int 181 0,.ref 343,.none,.ref 344,.ref 345,.ref 346,.int 732 0,.int 327 0,.str "/claim/cut.py" 733] }
noncomputable def va (P : Params) : Obj:=⟨.type "function",none,.func (fnOf "_law_uses" "_law_uses" (bD (st 37)) (aT (st 37)) (aM (st 37)) .none .none .none (.str "law_pb0345_01" 629) none (.ref 347) .none),#[]⟩
noncomputable def y4 (P : Params) : Obj:={ cls:=.type "code",data:=.fields #[.str "_law_stored" 735,.str "_law_stored" 736,.str "/claim/cut.py" 737,.int 335 0,.int 2 0,.int 0 0,.int 0 0,.int 3 0,.ref 349,.bool true,.int 181 0,.ref 350,.none,.none,.none,.ref 351,.int 738 0,.int 335 0,.str "/claim/cut.py" 739] }
noncomputable def vm (P : Params) : Obj:=⟨.type "function",none,.func (fnOf "_law_stored" "_law_stored" (bD (st 38)) (aT (st 38)) (aM (st 38)) .none .none .none (.str "law_pb0345_01" 629) none (.ref 352) .none),#[]⟩
noncomputable def zp (P : Params) : Obj:={ cls:=.type "code",data:=.fields #[.str "_law_joined" 741,.str "_law_joined" 742,.str "/claim/cut.py" 743,.int 342 0,.int 2 0,.int 0 0,.int 0 0,.int 3 0,.ref 354,.bool true,.int 181 0,.ref 355,.none,.none,.none,.ref 356,.int 744 0,.int 342 0,.str "/claim/cut.py" 745] }
noncomputable def vj (P : Params) : Obj:=⟨.type "function",none,.func (fnOf "_law_joined" "_law_joined" (bD (st 39)) (aT (st 39)) (aM (st 39)) .none .none .none (.str "law_pb0345_01" 629) none (.ref 357) .none),#[]⟩
noncomputable def yh (P : Params) : Obj:={ cls:=.type "code",data:=.fields #[.str "_law_ways" 747,.str "_law_ways" 748,.str "/claim/cut.py" 749,.int 344 0,.int 3 0,.int 0 0,.int 0 0,.int 3 0,.ref 359,.bool true,.int 181 0,.ref 360,.none,.ref 361,.ref 362,.ref 363,.int 758 0,.int 344 0,.str "/claim/cut.py" 759] }
noncomputable def uG (P : Params) : Obj:=⟨.type "function",none,.func (fnOf "_law_ways" "_law_ways" (bD (st 40)) (aT (st 40)) (aM (st 40)) .none .none .none (.str "law_pb0345_01" 629) none (.ref 364) .none),#[]⟩
noncomputable def yL (P : Params) : Obj:={ cls:=.type "code",data:=.fields #[.str "_law_turns" 761,.str "_law_turns" 762,.str "/claim/cut.py" 763,.int 376 0,.int 3 0,.int 0 0,.int 0 0,.int 3 0,.ref 366,.bool true,.int 181 0,.ref 367,.none,.ref 368,.ref 369,.ref 370,.int 771 0,.int 376 0,.str "/claim/cut.py" 772] }
noncomputable def u4 (P : Params) : Obj:=⟨.type "function",none,.func (fnOf "_law_turns" "_law_turns" (bD (st 41)) (aT (st 41)) (aM (st 41)) .none .none .none (.str "law_pb0345_01" 629) none (.ref 371) .none),#[]⟩
noncomputable def AD (P : Params) : Obj:={ cls:=.type "code",data:=.fields #[.str "law" 774,.str "law" 775,.str "/claim/cut.py" 776,.int 404 0,.int 1 0,.int 0 0,.int 0 0,.int 3 0,.ref 373,.bool true,.int 181 0,.ref 374,.none,.ref 375,.ref 376,.ref 377,.int 793 0,.int 404 0,.str "/claim/cut.py" 794] }
noncomputable def uN (P : Params) : Obj:=⟨.type "function",none,.func (fnOf "law" "law" (bD (st 42)) (aT (st 42)) (aM (st 42)) .none .none .none (.str "law_pb0345_01" 629) none (.ref 378) .none),#[]⟩
noncomputable def kF (P : Params) : Frag:=[(3,Ed P),(22,v7 P),(28,CD P),(29,yt P),(31,C0 P),(32,CU P),(42,C7 P),(43,z8 P),(56,CL P),(57,yG P),(59,CJ P),(60,CK P),(70,CH P),(71,yN P),(77,CI P),(78,x5 P),(84,CR P),(85,AM P),(91,C9 P),(92,Ao P),(105,zc P),(106,uM P),(112,yk P),(113,vO P),(115,Aq P),(116,AU P),(126,Aw P),(127,tX P),(133,yf P),(134,vz P),(140,z0 P),(141,t6 P),(147,zN P),(148,uJ P),(154,yS P),(155,uu P),(161,yW P),(162,vQ P),(168,yv P),(169,vn P),(175,AL P),(176,uY P),(182,y7 P),(183,vE P),(189,zE P),(190,uk P),(196,x6 P),(197,tY P),(201,zO P),(202,uq P),(215,AG P),(216,ve P),(218,yD P),(219,yz P),(236,AO P),(237,vg P),(239,AI P),(240,yq P),(257,zZ P),(258,vy P),(259,ot P),(265,zP P),(266,u8 P),(275,ym P),(276,yE P),(286,yc P),(287,uI P),(293,x9 P),(294,vi P),(300,zr P),(301,vM P),(307,y3 P),(308,vU P),(314,zv P),(315,uj P),(321,yr P),(322,t5 P),(326,An P),(327,uf P),(333,yA P),(334,uS P),(340,yI P),(341,vN P),(347,zF P),(348,va P),(352,y4 P),(353,vm P),(357,zp P),(358,vj P),(364,yh P),(365,uG P),(371,yL P),(372,u4 P),(378,AD P),(379,uN P)]
noncomputable def CM : List Addr:=[3,22,28,29,31,32,42,43,56,57,59,60,70,71,77,78,84,85,91,92,105,106,112,113,115,116,126,127,133,134,140,141,147,148,154,155,161,162,168,169,175,176,182,183,189,190,196,197,201,202,215,216,218,219,236,237,239,240,257,258,259,265,266,275,276,286,287,293,294,300,301,307,308,314,315,321,322,326,327,333,334,340,341,347,348,352,353,357,358,364,365,371,372,378,379]
theorem zX (P : Params) : CM = (kF P).map (·.1):=by kernel_rfl
end Mine
end
section
namespace Mine
noncomputable def mu : Program:={ PySem.Challenge.pw_pb0345_01 with main:={ PySem.Challenge.pw_pb0345_01.main with body:=PySem.Challenge.pw_pb0345_01.main.body.filter fun s=>match s with | .Assign ..=>false | _=>true } }
noncomputable abbrev hk : Hook:=kHook kF CM zX
theorem sdA : namesMeet (OpenLaw.row PySem.Challenge.rw_pb0345_01).prog (OpenLaw.row PySem.Challenge.rw_pb0345_01).prog.main.body (fun _ n=>attrL n) = true:=by kernel_rfl
theorem sdB : namesResolve (OpenLaw.row PySem.Challenge.rw_pb0345_01).prog = true:=by kernel_rfl
theorem sdC : (["vars", "dir", "locals"] : List Str).filter (readsOut (OpenLaw.row PySem.Challenge.rw_pb0345_01).prog (OpenLaw.row PySem.Challenge.rw_pb0345_01).prog.main.body) = []:=by kernel_rfl
theorem sdD : looksOpen (OpenLaw.row PySem.Challenge.rw_pb0345_01).prog = true:=by
 delta looksOpen
 rw [sdB,sdC,sdA]
 kernel_rfl
theorem Gs : OpenRow.wellSaid (OpenLaw.row PySem.Challenge.rw_pb0345_01) = true:=by
 delta OpenRow.wellSaid OpenRow.partSaid
 rw [sdD]
 kernel_rfl
theorem Gb : OpenLaw.wellSaid PySem.Challenge.rw_pb0345_01 = true:=by
 delta OpenLaw.wellSaid
 rw [Gs]
 kernel_rfl
end Mine
end
section
namespace Mine
noncomputable def Er : List Obj → Nat → BT → BT
 | [],_,t=>t
 | o :: l,i,t=>Er l (i + 1) (t.ins i o)
noncomputable def j7 (s : Shared) : SharedT:=⟨Er s.heap.objs.toList 0 .nil,s.heap.objs.size,s.heap.life,s.gens,s.drawn,s.toks,s.os⟩
noncomputable def pS (p : Program) (s s₁ : Shared) : Bool:=staticsOk (importedModules p.main.body) s.heap s₁.heap && namesBound p s₁.heap && gensDone s₁ && laidKept s.heap s₁.heap
theorem xX (t : Thread) : through t = (endAt 0 t).isSome:=by
 obtain ⟨cur,code,pos,stack⟩:=t
 cases stack with
 | nil=>
  cases cur with
  | pure a=>cases a <;> rfl
  | _=>rfl
 | cons a l=>rfl
theorem tB {tb : String → Option Builtin} {p : Program} {w : World} {n₀ : Nat} {ann : Option Value} {r : Shared × Thread} : ∀ {n : Nat} {s : Shared} {t : Thread},segGo tb p w n₀ ann 0 n s t = some r → topGo tb p w n₀ ann n s t = some r:=by
 intro n
 induction n with
 | zero=>intro s t h; exact h
 | succ n ih=>
  intro s t h
  unfold segGo at h
  unfold topGo
  rw [xX]
  cases he : endAt 0 t with
  | some x=>rw [he] at h; cases h
  | none=>
   rw [he] at h
   cases hk : stepOk n₀ ann t with
   | false=>rw [hk] at h; cases h
   | true=>
    rw [hk] at h
    cases hs : step (denote tb) p w s t with
    | halt o s₂=>rw [hs] at h; cases h
    | go s₂ t₂=>rw [hs] at h; exact ih h
theorem AC {p q : Program} {loose : List Str} {Xt : Shared → Bool} {α : Type} {Yf : Shared → α} {Ya : World → α} {M k n₀ : Nat} {ann : Option Value} {s0 sF : World → Shared} (o : ∀ w,fencedOpening treeTable p w (M + k) = some (s0 w))
  (o0 : ∀ w,((s0 w).heap.isNs mainGlobals && (s0 w).gens.size == 0) = true) (o1 : ∀ w,(s0 w).heap.objs.size = n₀) (o2 : ∀ w,(s0 w).heap.nsMap mainGlobals "__annotations__" = ann)
  (r : ∀ w,topRun treeTable p w n₀ ann M (s0 w) (topStub p) = some (sF w))
  (k1 : ∀ w,openSeen q loose (importedModules p.main.body) Xt true (sF w) = openGood q loose)
  (k2 : ∀ w,pS p (s0 w) (sF w) = true) (k3 : ∀ w,Yf (sF w) = Ya w) : LeftO p q loose Xt Yf Ya (M + k):=by
 intro w
 have t : topFrom treeTable p w (M + k) (s0 w) = some (sF w):=by
  unfold topFrom
  rw [o0,o1,o2,topRun_mono k _ _ _ _ (r w)]
  show (match pS p (s0 w) (sF w) with | true=>_ | false=>_) = _
  rw [k2]
 have e : openEnds treeTable p w (M + k) = some (sF w):=by unfold openEnds; rw [o]; exact t
 rw [e]
 exact congrArg some (Prod.ext (k1 w) (k3 w))
noncomputable def jD (w : World) : Shared:=(fencedOpening treeTable PySem.Challenge.pw_pb0345_01 w 5270).getD (start PySem.Challenge.pw_pb0345_01).1
theorem Bx (w : World) : (fencedOpening treeTable PySem.Challenge.pw_pb0345_01 w 5270).isSome = true:=by kernel_rfl
theorem zf (w : World) : ((jD w).heap.isNs mainGlobals && (jD w).gens.size == 0) = true:=by kernel_rfl
theorem zB (w : World) : (jD w).heap.objs.size = 11:=by kernel_rfl
theorem yR (w : World) : (jD w).heap.nsMap mainGlobals "__annotations__" = some (.ref 6):=by kernel_rfl
theorem z7 (w : World) : (j7 (jD w)).abs = jD w:=by kernel_rfl
theorem yy {α : Type} {o : Option α} {a : α} (h : o.isSome = true) : o = some (o.getD a):=by cases o with | none=>cases h | some x=>rfl
noncomputable def tu (l : List Value) : Obj:={ cls:=.type "tuple",data:=.seq l.toArray }
noncomputable def tvl : Nat → List Str → List Value
 | _,[]=>[]
 | t,x :: l=>.str x t :: tvl (t + 1) l
noncomputable def tv (t : Nat) (l : List Str) : Obj:=tu (tvl t l)
noncomputable def fl (l : List Value) : Obj:={ cls:=.none,data:=.fields l.toArray }
noncomputable def oc (c : String) (l : List Value) : Obj:={ cls:=.type c,data:=.fields l.toArray }
noncomputable def fr (l : List (Option Value)) : Obj:={ cls:=.type "frame",slots:=l.toArray }
noncomputable def dc (l : List DictEntry) (n : Nat) : Obj:={ cls:=.type "dict",data:=.dict l.toArray n }
noncomputable def rf (n q : Str) (s : Stmt) : Obj:={ cls:=.none,data:=.func { name:=n,qualname:=q,params:=bD s,body:=.stmts (aT s),scope:=aM s,globals:=0,closure:=[],defaults:=.none,kwdefaults:=.none } }
noncomputable def km (P : Params) (v : Value) (k : Nat) : Obj:={ Ed P with data:=match (Ed P).data with | .dict es _=>.dict (en P "__name__" 165 v :: (es.toList.take k).drop 1).toArray k | d=>d }
noncomputable def crl : List (Int × Nat) → List Value
 | []=>[]
 | (l,a) :: r=>.int l 0 :: .int 0 0 :: .ref a :: crl r
noncomputable def cr (j : Nat) : Obj:=fl (crl (([(2,20),(11,42),(13,49),(23,70),(36,77),(39,84),(48,91),(58,98),(69,126),(73,133),(80,140),(91,147),(104,154),(119,161),(129,168),(139,175),(144,182),(150,189),(156,196),(179,201),(186,208),(201,229),(218,250),(246,286),(258,293),(260,300),(263,307),(265,314),(273,321),(281,326),(284,333),(290,340),(327,347),(335,352),(342,357),(344,364),(376,371),(404,378)] : List (Int × Nat)).take j))
noncomputable def DA (P : Params) (v : Value) (k j : Nat) : List Obj :=
  [boot_o_0 P, boot_o_1 P, boot_o_2 P, km P v k, boot_o_4 P, boot_o_5 P, boot_o_6 P, boot_o_7 P, boot_o_8 P, boot_o_9 P, boot_o_10 P, tu [], cr j, oc "code" [.str "<module>" 182, .str "<module>" 183, .str "/claim/cut.py" 184, .int 1 0, .int 0 0, .int 0 0, .int 0 0, .int 0 0, .ref 11, .bool false, .int 181 0, .ref 12, .none, .none, .none, .none, .int 185 0, .int 1 0, .str "/claim/cut.py" 186], fr [some (.ref 13), some (.ref 3), some (.ref 3), none, some (.str "__main__" 164), none, some (.ref 0)], tu [], oc "builtin_function_or_method" [.builtin "type.__prepare__", .type "type"], dc [en P "__module__" 196 (.str "moduleyard.trees" 187), en P "__qualname__" 198 (.str "Node" 197), en P "__firstlineno__" 200 (.int 2 199), en P "__init__" 212 (.ref 29), en P "__static_attributes__" 219 (.ref 30)] 5, tu [], fl [.int 4 0, .int 4 0, .ref 28], oc "code" [.str "Node" 191, .str "Node" 192, .str "/claim/cut.py" 193, .int 2 0, .int 0 0, .int 0 0, .int 0 0, .int 0 0, .ref 18, .bool false, .int 181 0, .ref 19, .none, .none, .none, .none, .int 194 0, .int 2 0, .str "/claim/cut.py" 195], fr [some (.ref 20), some (.ref 3), some (.ref 17), none, some (.str "moduleyard.trees" 187), none, some (.ref 0)], v7 P, tu [], fl [], tv 204 ["self", "op", "place", "type_of", "kids", "value"], tu [], rf "__init__" "Node.__init__" (mt 1 0), CD P, yt P,
   tv 213 ["kids", "op", "place", "sure", "type", "value"], C0 P, CU P, oc "getset_descriptor" [.str "__dict__" 220, .ref 32, .builtin "function.__dict__", .builtin "function.__dict__#set"], oc "getset_descriptor" [.str "__weakref__" 222, .ref 32, .builtin "ExceptionGroup.__weakref__", .none], oc "super" [.ref 32, .ref 32, .ref 32], oc "builtin_function_or_method" [.builtin "object.__init_subclass__", .ref 32], tu [], fl [], tv 230 ["t", "value", "place"], tu [], rf "const" "const" (st 2), C7 P, z8 P, tu [], oc "builtin_function_or_method" [.builtin "type.__prepare__", .type "type"], dc [en P "__module__" 243 (.str "moduleyard.trees" 187), en P "__qualname__" 245 (.str "ProcTree" 244), en P "__firstlineno__" 247 (.int 13 246), en P "__init__" 255 (.ref 57), en P "__static_attributes__" 263 (.ref 58)] 5, tu [], fl [.int 15 0, .int 4 0, .ref 56], oc "code" [.str "ProcTree" 238, .str "ProcTree" 239, .str "/claim/cut.py" 240, .int 13 0, .int 0 0, .int 0 0, .int 0 0, .int 0 0, .ref 47, .bool false, .int 181 0, .ref 48, .none, .none, .none, .none, .int 241 0, .int 13 0, .str "/claim/cut.py" 242], fr [some (.ref 49), some (.ref 3), some (.ref 46), none, some (.str "moduleyard.trees" 187), none, some (.ref 0)], tu [], fl [], tv 251 ["self", "obj"], tu [], rf "__init__" "ProcTree.__init__" (mt 3 0), CL P, yG P,
   tv 256 ["body", "level", "locals", "obj", "params", "procs", "result"], CJ P, CK P, oc "getset_descriptor" [.str "__dict__" 264, .ref 60, .builtin "function.__dict__", .builtin "function.__dict__#set"], oc "getset_descriptor" [.str "__weakref__" 266, .ref 60, .builtin "ExceptionGroup.__weakref__", .none], oc "super" [.ref 60, .ref 60, .ref 60], oc "builtin_function_or_method" [.builtin "object.__init_subclass__", .ref 60], tu [], fl [], tv 274 ["node", "found", "waiting", "one", "kid"], tu [], rf "nodes_of" "nodes_of" (st 4), CH P, yN P, tu [], fl [], tu [.str "t" 287], tu [], rf "is_scalar" "is_scalar" (st 6), CI P, x5 P, tu [], fl [], tv 296 ["tree", "found", "waiting", "one"], tu [], rf "inner_nodes" "inner_nodes" (st 8), CR P, AM P, tu [], fl [], tv 306 ["tree", "away", "node", "found", "obj"], tu [], rf "followed" "followed" (st 9), C9 P, Ao P, tu [], oc "builtin_function_or_method" [.builtin "type.__prepare__", .type "type"], dc [en P "__module__" 321 (.str "moduleyard.definite" 291), en P "__qualname__" 323 (.str "Follower" 322), en P "__firstlineno__" 325 (.int 58 324), en P "__init__" 333 (.ref 106), en P "slot_of" 341 (.ref 113), en P "__static_attributes__" 345 (.ref 114)] 6, tu [], fl [.int 60 0, .int 4 0, .ref 105, .int 65 0, .int 4 0, .ref 112],
   oc "code" [.str "Follower" 316, .str "Follower" 317, .str "/claim/cut.py" 318, .int 58 0, .int 0 0, .int 0 0, .int 0 0, .int 0 0, .ref 96, .bool false, .int 181 0, .ref 97, .none, .none, .none, .none, .int 319 0, .int 58 0, .str "/claim/cut.py" 320], fr [some (.ref 98), some (.ref 3), some (.ref 95), none, some (.str "moduleyard.definite" 291), none, some (.ref 0)], tu [], fl [], tv 329 ["self", "tree"], tu [], rf "__init__" "Follower.__init__" (mt 10 0), zc P, uM P, tu [], fl [], tv 337 ["self", "node"], tu [], rf "slot_of" "Follower.slot_of" (mt 10 1), yk P, vO P, tv 342 ["found", "level", "slots"], Aq P, AU P, oc "getset_descriptor" [.str "__dict__" 346, .ref 116, .builtin "function.__dict__", .builtin "function.__dict__#set"], oc "getset_descriptor" [.str "__weakref__" 348, .ref 116, .builtin "ExceptionGroup.__weakref__", .none], oc "super" [.ref 116, .ref 116, .ref 116], oc "builtin_function_or_method" [.builtin "object.__init_subclass__", .ref 116], tu [], fl [], tv 356 ["st", "node", "sure", "slot"], tu [], rf "used" "used" (st 11), Aw P, tX P, tu [], fl [], tv 366 ["st", "node", "sure", "slot"], tu [], rf "with_store" "with_store" (st 12), yf P, vz P, tu [], fl [], tv 376 ["st", "node", "sure", "kid"], tu [], rf "place_uses" "place_uses" (st 13), z0 P, t6 P, tu [], fl [], tv 386 ["st", "node", "sure", "kid"], tu [],
   rf "value_uses" "value_uses" (st 14), zN P, uJ P, tu [], fl [], tv 396 ["st", "node", "sure", "head", "params", "handed", "spot", "given"], tu [], rf "call_uses" "call_uses" (st 15), yS P, uu P, tu [], fl [], tv 410 ["st", "node", "sure", "first", "kid"], tu [], rf "std_uses" "std_uses" (st 16), yW P, vQ P, tu [], fl [], tv 421 ["st", "node", "sure", "ends", "place", "end"], tu [], rf "branch_uses" "branch_uses" (st 17), yv P, vn P, tu [], fl [], tv 433 ["st", "node", "sure", "place"], tu [], rf "while_uses" "while_uses" (st 18), AL P, uY P, tu [], fl [], tv 443 ["st", "node", "sure", "head", "first", "last", "block"], tu [], rf "for_uses" "for_uses" (st 19), y7 P, vE P, tu [], fl [], tv 456 ["st", "node", "sure", "end", "block"], tu [], rf "case_uses" "case_uses" (st 20), zE P, uk P, tu [], fl [], tv 467 ["st", "node", "sure", "op", "kid"], tu [], rf "statement_uses" "statement_uses" (st 21), x6 P, tY P, tu [], fl [], rf "unset_uses" "unset_uses" (st 22), zO P, uq P, tu [], oc "builtin_function_or_method" [.builtin "type.__prepare__", .type "type"], dc [en P "__module__" 490 (.str "moduleyard.types" 481), en P "__qualname__" 492 (.str "Type" 491), en P "__firstlineno__" 494 (.int 186 493), en P "__init__" 504 (.ref 216), en P "__static_attributes__" 517 (.ref 217)] 5, tu [],
   fl [.int 188 0, .int 4 0, .ref 215], oc "code" [.str "Type" 485, .str "Type" 486, .str "/claim/cut.py" 487, .int 186 0, .int 0 0, .int 0 0, .int 0 0, .int 0 0, .ref 206, .bool false, .int 181 0, .ref 207, .none, .none, .none, .none, .int 488 0, .int 186 0, .str "/claim/cut.py" 489], fr [some (.ref 208), some (.ref 3), some (.ref 205), none, some (.str "moduleyard.types" 481), none, some (.ref 0)], tu [], fl [], tv 498 ["self", "number", "form", "size"], tu [], rf "__init__" "Type.__init__" (mt 24 0), AG P, ve P, tv 505 ["base", "exno", "fields", "form", "hidden", "label", "length", "level", "module", "number", "params", "size"], yD P, yz P, oc "getset_descriptor" [.str "__dict__" 518, .ref 219, .builtin "function.__dict__", .builtin "function.__dict__#set"], oc "getset_descriptor" [.str "__weakref__" 520, .ref 219, .builtin "ExceptionGroup.__weakref__", .none], oc "super" [.ref 219, .ref 219, .ref 219], oc "builtin_function_or_method" [.builtin "object.__init_subclass__", .ref 219], tu [], oc "builtin_function_or_method" [.builtin "type.__prepare__", .type "type"], dc [en P "__module__" 532 (.str "moduleyard.types" 481), en P "__qualname__" 534 (.str "Obj" 533), en P "__firstlineno__" 536 (.int 201 535), en P "__init__" 547 (.ref 237), en P "__static_attributes__" 562 (.ref 238)] 5, tu [], fl [.int 203 0, .int 4 0, .ref 236],
   oc "code" [.str "Obj" 527, .str "Obj" 528, .str "/claim/cut.py" 529, .int 201 0, .int 0 0, .int 0 0, .int 0 0, .int 0 0, .ref 227, .bool false, .int 181 0, .ref 228, .none, .none, .none, .none, .int 530 0, .int 201 0, .str "/claim/cut.py" 531], fr [some (.ref 229), some (.ref 3), some (.ref 226), none, some (.str "moduleyard.types" 481), none, some (.ref 0)], tu [], fl [], tv 540 ["self", "name", "kind", "type_of", "place"], tu [], rf "__init__" "Obj.__init__" (mt 25 0), AO P, vg P, tv 548 ["exported", "isparam", "kind", "level", "module", "name", "narrowed", "number", "offset", "place", "readonly", "slot", "type", "value"], AI P, yq P, oc "getset_descriptor" [.str "__dict__" 563, .ref 240, .builtin "function.__dict__", .builtin "function.__dict__#set"], oc "getset_descriptor" [.str "__weakref__" 565, .ref 240, .builtin "ExceptionGroup.__weakref__", .none], oc "super" [.ref 240, .ref 240, .ref 240], oc "builtin_function_or_method" [.builtin "object.__init_subclass__", .ref 240], tu [], oc "builtin_function_or_method" [.builtin "type.__prepare__", .type "type"], dc [en P "__module__" 577 (.str "moduleyard.types" 481), en P "__qualname__" 579 (.str "Types" 578), en P "__firstlineno__" 581 (.int 218 580), en P "__init__" 588 (.ref 258), en P "new" 602 (.ref 266), en P "string" 611 (.ref 273), en P "__static_attributes__" 621 (.ref 274)] 7, tu [],
   fl [.int 220 0, .int 4 0, .ref 257, .int 231 0, .int 4 0, .ref 265, .int 240 0, .int 4 0, .ref 272], oc "code" [.str "Types" 572, .str "Types" 573, .str "/claim/cut.py" 574, .int 218 0, .int 0 0, .int 0 0, .int 0 0, .int 0 0, .ref 248, .bool false, .int 181 0, .ref 249, .none, .none, .none, .none, .int 575 0, .int 218 0, .str "/claim/cut.py" 576], fr [some (.ref 250), some (.ref 3), some (.ref 247), none, some (.str "moduleyard.types" 481), none, some (.ref 0)], tu [], fl [], tu [.str "self" 585], tu [], rf "__init__" "Types.__init__" (mt 26 0), zZ P, vy P, ot P, tu [], fl [], tv 594 ["self", "form", "size", "module", "label", "made"], tu [], rf "new" "Types.new" (mt 26 1), zP P, u8 P, tu [], fl [], tv 606 ["self", "length", "made"], tu [], rf "string" "Types.string" (mt 26 2), oc "code" [.str "string" 603, .str "Types.string" 604, .str "/claim/cut.py" 605, .int 240 0, .int 2 0, .int 0 0, .int 0 0, .int 3 0, .ref 267, .bool true, .int 181 0, .ref 268, .none, .ref 269, .ref 270, .ref 271, .int 609 0, .int 240 0, .str "/claim/cut.py" 610], ⟨.type "function", none, .func (fnOf "string" "Types.string" (bD (mt 26 2)) (aT (mt 26 2)) (aM (mt 26 2)) .none .none .none (.str "moduleyard.types" 481) none (.ref 272) .none), #[]⟩, tv 612 ["boolean", "byte", "char", "counter", "integer", "known", "mask", "nil", "none"], ym P, yE P,
   oc "getset_descriptor" [.str "__dict__" 622, .ref 276, .builtin "function.__dict__", .builtin "function.__dict__#set"], oc "getset_descriptor" [.str "__weakref__" 624, .ref 276, .builtin "ExceptionGroup.__weakref__", .none], oc "super" [.ref 276, .ref 276, .ref 276], oc "builtin_function_or_method" [.builtin "object.__init_subclass__", .ref 276], tu [], fl [], tv 634 ["script", "figures", "cell", "left_over", "lap"], tu [], rf "_law_pool" "_law_pool" (st 28), yc P, uI P, tu [], fl [], tv 645 ["pool", "bound_at"], tu [], rf "_law_draw" "_law_draw" (st 29), x9 P, vi P, tu [], fl [], tu [.str "book" 653], tu [], rf "_law_place" "_law_place" (st 30), zr P, vM P, tu [], fl [], tv 660 ["book", "spot"], tu [], rf "_law_var" "_law_var" (st 31), y3 P, vU P, tu [], fl [], tv 668 ["book", "pool", "draw", "left"], tu [], rf "_law_value" "_law_value" (st 32), zv P, uj P, tu [], fl [], tv 678 ["book", "pool", "truth_of", "left", "draw", "right"], tu [], rf "_law_test" "_law_test" (st 33), yr P, t5 P, tu [], fl [], rf "_law_block" "_law_block" (st 34), An P, uf P, tu [], fl [], tv 696 ["book", "pool", "deep", "count", "kids", "lap"], tu [], rf "_law_arms" "_law_arms" (st 35), yA P, uS P, tu [], fl [], tv 708 ["book", "pool", "deep", "draw", "at", "left", "callee", "handed", "kids", "other", "inner", "rows", "lap"], tu [],
   rf "_law_deed" "_law_deed" (st 36), yI P, vN P, tu [], fl [], tv 727 ["node", "states", "hits", "state", "kid"], tu [], rf "_law_uses" "_law_uses" (st 37), zF P, va P, tu [], fl [], rf "_law_stored" "_law_stored" (st 38), y4 P, vm P, tu [], fl [], rf "_law_joined" "_law_joined" (st 39), zp P, vj P, tu [], fl [], tv 750 ["node", "states", "hits", "kids", "kid", "ends", "spot", "last"], tu [], rf "_law_ways" "_law_ways" (st 40), yh P, uG P, tu [], fl [], tv 764 ["node", "states", "hits", "kids", "so_far", "wider", "spot"], tu [], rf "_law_turns" "_law_turns" (st 41), yL P, u4 P, tu [], fl [], tv 777 ["script", "pool", "types", "book", "spot", "one", "signature", "by_name", "callee", "tree", "inner_used", "inner_proc", "hits", "ends", "due", "at"], tu [], rf "law" "law" (st 42), AD P, uN P]
noncomputable def mw (w : World) (v : Value) (n k j t : Nat) : SharedT:=⟨Er ((DA w.params v k j).take n) 0 .nil,n,(jD w).heap.life,#[],(jD w).drawn,t,(jD w).os⟩
noncomputable abbrev nU : Env:={ scope:=PySem.Challenge.pw_pb0345_01.main.scope,locals:=mainNs,globals:=mainNs,cells:=[],code:=.ref 13,frame:=some 14 }
noncomputable def hdB (a n : Nat) : List Stmt:=((behindTheImports PySem.Challenge.pw_pb0345_01).drop a).take n
noncomputable abbrev Fq : List Stmt:=hdB 0 10 ++ (hdB 10 14 ++ (hdB 24 6 ++ (hdB 30 13 ++ [])))
noncomputable abbrev hdC : Code:=.body Fq nU
noncomputable abbrev sG (w : World) (s : SharedT) (t : Thread):=segRunT treeTable PySem.Challenge.pw_pb0345_01 w 11 (some (.ref 6)) 1 1000 s t
noncomputable def Cb (w : World) : SharedT:=((segGoT treeTable PySem.Challenge.pw_pb0345_01 w 11 (some (.ref 6)) 0 12 (j7 (jD w)) (topStub PySem.Challenge.pw_pb0345_01)).getD (j7 (jD w),topStub PySem.Challenge.pw_pb0345_01)).1
theorem Fb (w : World) : segGoT treeTable PySem.Challenge.pw_pb0345_01 w 11 (some (.ref 6)) 0 12 (j7 (jD w)) (topStub PySem.Challenge.pw_pb0345_01) = some (Cb w,⟨denote treeTable hdC,hdC,⟨0,0,0,0⟩,[topFrame ⟨0,0,0,0⟩]⟩):=by kernel_rfl
theorem FL (w : World) : sG w (Cb w) (blockOf Fq nU hdC ⟨0,0,0,0⟩ [topFrame ⟨0,0,0,0⟩]) = some (.next,Cb w,hdC,⟨0,0,0,0⟩):=by kernel_rfl
theorem HD (w : World) : sG w (Cb w) (piecesOf (hdB 0 10) nU hdC ⟨0,0,0,0⟩ [topFrame ⟨0,0,0,0⟩]) = some (.next,mw w (.str "moduleyard.definite" 291) 93 16 7 314,hdC,⟨48,0,57,16⟩):=by kernel_rfl
theorem Hw (w : World) : sG w (mw w (.str "moduleyard.definite" 291) 93 16 7 314) (piecesOf (hdB 10 14) nU hdC ⟨48,0,57,16⟩ [topFrame ⟨0,0,0,0⟩]) = some (.next,mw w (.str "moduleyard.types" 481) 203 29 20 483,hdC,⟨185,0,185,8⟩):=by kernel_rfl
theorem GJ (w : World) : sG w (mw w (.str "moduleyard.types" 481) 203 29 20 483) (piecesOf (hdB 24 6) nU hdC ⟨185,0,185,8⟩ [topFrame ⟨0,0,0,0⟩]) = some (.next,mw w (.str "law_pb0345_01" 629) 295 34 25 650,hdC,⟨258,0,259,53⟩):=by kernel_rfl
theorem Hu (w : World) : sG w (mw w (.str "law_pb0345_01" 629) 295 34 25 650) (piecesOf (hdB 30 13) nU hdC ⟨258,0,259,53⟩ [topFrame ⟨0,0,0,0⟩]) = some (.next,mw w (.str "law_pb0345_01" 629) 380 47 38 796,hdC,⟨404,0,440,34⟩):=by kernel_rfl
theorem E5 (w : World) (s : Shared) (p : Pos) : topRun treeTable PySem.Challenge.pw_pb0345_01 w 11 (some (.ref 6)) 2 s (restOf [] nU hdC p [topFrame ⟨0,0,0,0⟩]) = some s:=by kernel_rfl
theorem Gp (w : World) : topRun treeTable PySem.Challenge.pw_pb0345_01 w 11 (some (.ref 6)) (12 + (1000 + (1000 + (1000 + (1000 + (1000 + 2)))))) (jD w) (topStub PySem.Challenge.pw_pb0345_01) = some (mw w (.str "law_pb0345_01" 629) 380 47 38 796).abs:=by
 have e:=tB (segGo_of (Fb w))
 rw [z7] at e
 exact go_top e (piece_block (segRun_of (FL w)) (piece_app (segRun_of (HD w)) (piece_app (segRun_of (Hw w)) (piece_app (segRun_of (GJ w)) (piece_app (segRun_of (Hu w)) (E5 w _ _))))))
noncomputable abbrev Kp (s : Shared) : Bool:=xlAt mu [] s && recOk (RowW.records (OpenRow.toRowW (OpenLaw.row PySem.Challenge.rw_pb0345_01))) s
theorem yp (w : World) : openSeen mu [] (importedModules PySem.Challenge.pw_pb0345_01.main.body) Kp true (mw w (.str "law_pb0345_01" 629) 380 47 38 796).abs = openGood mu []:=by kernel_rfl
theorem yo (w : World) : pS PySem.Challenge.pw_pb0345_01 (jD w) (mw w (.str "law_pb0345_01" 629) 380 47 38 796).abs = true:=by kernel_rfl
theorem zw (w : World) : Hook.obs hk (mw w (.str "law_pb0345_01" 629) 380 47 38 796).abs = Hook.val hk w:=by kernel_rfl
theorem left1 : LeftO PySem.Challenge.pw_pb0345_01 mu [] (fun s=>xlAt mu [] s && recOk (RowW.records (OpenRow.toRowW (OpenLaw.row PySem.Challenge.rw_pb0345_01))) s) (Hook.obs hk) (Hook.val hk) 5270:=
 AC (M:=12 + (1000 + (1000 + (1000 + (1000 + (1000 + 2)))))) (k:=256) (s0:=jD) (sF:=fun w=>(mw w (.str "law_pb0345_01" 629) 380 47 38 796).abs) (fun w=>yy (Bx w)) zf zB yR Gp yp yo zw
end Mine
end
section
namespace Mine
inductive LX where
 | n (k : Nat)
 | v (i : Nat)
 | a (x y : LX)
 | m (k : Nat) (x : LX)
noncomputable def LX.d (c : List Nat) : LX → Nat
 | .n k=>k
 | .v i=>c.getD i 0
 | .a x y=>x.d c + y.d c
 | .m k x=>k * x.d c
noncomputable def LX.k : LX → Nat
 | .n k=>k
 | .v _=>0
 | .a x y=>x.k + y.k
 | .m k x=>k * x.k
noncomputable def LX.cf (i : Nat) : LX → Nat
 | .n _=>0
 | .v j=>bif Nat.beq i j then 1 else 0
 | .a x y=>x.cf i + y.cf i
 | .m k x=>k * x.cf i
theorem CV {a b : Nat} (h : a ≠ b) : Nat.beq a b = false:=by
 cases e : Nat.beq a b with
 | false=>rfl
 | true=>exact absurd (Nat.eq_of_beq_eq_true e) h
noncomputable def lsm (f : Nat → Nat) : Nat → List Nat → Nat
 | _,[]=>0
 | i,y :: r=>f i * y + lsm f (i + 1) r
theorem rV : ∀ (i : Nat) (c : List Nat),lsm (fun _=>0) i c = 0
 | _,[]=>rfl
 | i,y :: r=>by show 0 * y + _ = 0; rw [rV]; simp
theorem wa (f g : Nat → Nat) : ∀ (i : Nat) (c : List Nat),lsm (fun j=>f j + g j) i c = lsm f i c + lsm g i c
 | _,[]=>rfl
 | i,y :: r=>by show (f i + g i) * y + _ = f i * y + _ + (g i * y + _); rw [wa,Nat.add_mul,Nat.add_add_add_comm]
theorem v6 (k : Nat) (f : Nat → Nat) : ∀ (i : Nat) (c : List Nat),lsm (fun j=>k * f j) i c = k * lsm f i c
 | _,[]=>rfl
 | i,y :: r=>by show k * f i * y + _ = k * (f i * y + _); rw [v6,Nat.mul_add,Nat.mul_assoc]
theorem v5 (j : Nat) : ∀ (i : Nat) (c : List Nat),lsm (fun l=>bif Nat.beq l (i + j) then 1 else 0) i c = c.getD j 0
 | _,[]=>rfl
 | i,y :: r=>by
  show (bif Nat.beq i (i + j) then 1 else 0) * y + lsm _ (i + 1) r = _
  cases j with
  | zero=>
   have h : ∀ (l : Nat) (r : List Nat),i < l → lsm (fun l=>bif Nat.beq l (i + 0) then 1 else 0) l r = 0:=by
    intro l r
    induction r generalizing l with
    | nil=>intro _; rfl
    | cons z r ih=>
     intro hl
     show (bif Nat.beq l (i + 0) then 1 else 0) * z + _ = 0
     rw [ih (l + 1) (Nat.lt_succ_of_lt hl),CV (by rw [Nat.add_zero]; exact Nat.ne_of_gt hl)]
     simp
   rw [h _ _ (Nat.lt_succ_self i)]
   simp
  | succ j=>
   have e : i + (j + 1) = i + 1 + j:=by rw [Nat.add_assoc,Nat.add_comm 1]
   rw [e,v5 j (i + 1) r,CV (by rw [Nat.add_assoc]; exact Nat.ne_of_lt (Nat.lt_add_of_pos_right (Nat.add_pos_left Nat.one_pos _)))]
   simp
theorem LX.eq (c : List Nat) : ∀ x : LX,x.d c = x.k + lsm (fun i=>x.cf i) 0 c
 | .n k=>by show k = k + lsm (fun _=>0) 0 c; rw [rV]; rfl
 | .v i=>by
  show c.getD i 0 = 0 + lsm (fun l=>bif Nat.beq l i then 1 else 0) 0 c
  have:=v5 i 0 c
  rw [Nat.zero_add] at this
  rw [this,Nat.zero_add]
 | .a x y=>by show x.d c + y.d c = x.k + y.k + lsm (fun j=>x.cf j + y.cf j) 0 c; rw [wa,x.eq c,y.eq c,Nat.add_add_add_comm]
 | .m k x=>by show k * x.d c = k * x.k + lsm (fun j=>k * x.cf j) 0 c; rw [v6,x.eq c,Nat.mul_add]
noncomputable def yH (f g : Nat → Nat) : Nat → Nat → Bool
 | _,0=>true
 | i,n + 1=>bif Nat.ble (f i) (g i) then yH f g (i + 1) n else false
theorem vZ (f g : Nat → Nat) : ∀ (i : Nat) (c : List Nat),yH f g i c.length = true → lsm f i c ≤ lsm g i c
 | _,[],_=>Nat.le_refl _
 | i,y :: r,h=>by
  have h : (bif Nat.ble (f i) (g i) then yH f g (i + 1) r.length else false) = true:=h
  cases hb : Nat.ble (f i) (g i) with
  | false=>rw [hb] at h; cases h
  | true=>
   rw [hb] at h
   exact Nat.add_le_add (Nat.mul_le_mul_right _ (Nat.le_of_ble_eq_true hb)) (vZ f g (i + 1) r h)
noncomputable def Dn (n : Nat) : List (Nat × LX × LX) → LX → LX → Bool
 | [],L,R=>bif Nat.ble (R.k + 1) L.k then yH (fun i=>R.cf i) (fun i=>L.cf i) 0 n else false
 | (k,l,r) :: t,L,R=>Dn n t (.a L (.m k l)) (.a R (.m k r))
noncomputable def Df (c : List Nat) : List (Nat × LX × LX) → Prop
 | []=>False
 | (_,l,r) :: t=>l.d c ≤ r.d c → Df c t
theorem FR (c : List Nat) : ∀ (hs : List (Nat × LX × LX)) (L R : LX),L.d c ≤ R.d c → Dn c.length hs L R = true → Df c hs
 | [],L,R,h,e=>by
  have e : (bif Nat.ble (R.k + 1) L.k then yH (fun i=>R.cf i) (fun i=>L.cf i) 0 c.length else false) = true:=e
  cases hb : Nat.ble (R.k + 1) L.k with
  | false=>rw [hb] at e; cases e
  | true=>
   rw [hb] at e
   have h1:=Nat.le_of_ble_eq_true hb
   have h2:=vZ _ _ 0 c e
   rw [L.eq c,R.eq c] at h
   exact Nat.lt_irrefl _ (Nat.lt_of_lt_of_le (Nat.lt_of_lt_of_le (Nat.add_lt_add_right h1 _) (Nat.add_le_add_left (Nat.le_refl _) _)) (Nat.le_trans h (Nat.add_le_add_left h2 _)))
 | (k,l,r) :: t,L,R,h,e=>fun h1=>FR c t (.a L (.m k l)) (.a R (.m k r)) (Nat.add_le_add h (Nat.mul_le_mul_left k h1)) e
theorem far (c : List Nat) (hs : List (Nat × LX × LX)) (e : Dn c.length hs (.n 0) (.n 0) = true) : Df c hs:=FR c hs (.n 0) (.n 0) (Nat.le_refl _) e
theorem sF1 (a b : Nat) : a ≤ a - b + b:=Nat.sub_le_iff_le_add.mp (Nat.le_refl _)
theorem sF3 {a b : Nat} (h : b ≤ a) : a - b + b ≤ a:=Nat.le_of_eq (Nat.sub_add_cancel h)
theorem sF0 {a b : Nat} (h : a ≤ b) : a - b ≤ 0:=Nat.le_of_eq (Nat.sub_eq_zero_of_le h)
theorem dF (a : Nat) {k : Nat} (h : 0 < k) : a + 1 ≤ k * (a / k) + k:=by have:=Nat.lt_mul_div_succ a h; rw [Nat.mul_add,Nat.mul_one] at this; exact this
theorem nl {m n : Nat} (h : ¬ m < n) : n ≤ m:=Nat.le_of_not_lt h
theorem nt {m n : Nat} (h : ¬ n ≤ m) : m < n:=Nat.lt_of_not_le h
theorem na {m n : Nat} (h : m ≤ n) (g : n ≤ m) : m = n:=Nat.le_antisymm h g
theorem qe {m n : Nat} (h : m = n) : m ≤ n:=Nat.le_of_eq h
theorem ge {m n : Nat} (h : m = n) : n ≤ m:=Nat.le_of_eq h.symm
section
variable {a b c d e f g i j k l m n p q r s t u : Nat}
theorem o0 (h0 : a ≤ b) (h1 : b ≤ c) : (b - a) ≤ (c - 0):=nl fun z=>far [b,c,(c - 0),(b - a)] [(1,.v 0,.v 1),(1,.a (.v 2) (.n 1),.v 3),(1,.v 1,.a (.v 2) (.n 0)),(1,.v 3,.v 0)] rfl h1 z (sF1 c 0) (Nat.sub_le b a)
theorem o1 (h0 : a ≤ b) (h1 : (b - a) ≤ (c - (max 0 c))) : a = b:=na (nl fun z=>far [a,b] [(1,.v 0,.v 1),(1,.a (.v 1) (.n 1),.v 0)] rfl h0 z) (nl fun z=>far [a,b,(b - a),c,(max 0 c),(c - (max 0 c))] [(1,.v 2,.v 5),(1,.a (.v 0) (.n 1),.v 1),(1,.v 1,.a (.v 2) (.v 0)),(1,.a (.v 5) (.v 4),.v 3),(1,.v 3,.v 4)] rfl h1 z (sF1 b a) (sF3 (nl fun z16=>far [a,b,(b - a),(c - (max 0 c))] [(1,.v 2,.v 3),(1,.a (.v 0) (.n 1),.v 1),(1,.v 1,.a (.v 2) (.v 0)),(1,.v 3,.n 0)] rfl h1 z (sF1 b a) (sF0 (nl fun z19=>far [c,(max 0 c)] [(1,.a (.v 0) (.n 1),.v 1),(1,.a (.v 1) (.n 1),.v 0)] rfl z16 z19)))) (Nat.le_max_right 0 c))
theorem o2 (h0 : a ≤ b) (h1 : a ≥ b) : a = b:=na (nl fun z=>far [a,b] [(1,.v 0,.v 1),(1,.a (.v 1) (.n 1),.v 0)] rfl h0 z) (nl fun z=>far [a,b] [(1,.v 1,.v 0),(1,.a (.v 0) (.n 1),.v 1)] rfl h1 z)
theorem o3 (h0 : a ≤ b) (h1 : ¬(c ≥ a)) : (c + ((a - c) / 2)) < b:=nt fun z=>far [a,b,c,(a - c),((a - c) / 2)] [(2,.v 0,.v 1),(1,.a (.v 2) (.n 1),.v 0),(2,.v 1,.a (.v 2) (.v 4)),(1,.m 2 (.v 4),.v 3),(1,.a (.v 3) (.v 2),.v 0)] rfl h0 (nt h1) z (Nat.mul_div_le (a - c) 2) (sF3 (nl fun z20=>far [a,c] [(1,.a (.v 1) (.n 1),.v 0),(1,.a (.v 0) (.n 1),.v 1)] rfl (nt h1) z20))
theorem o4 (h0 : ¬(a ≥ b)) : ((a + ((b - a) / 2)) + 1) ≤ b:=nl fun z=>far [a,b,(b - a),((b - a) / 2)] [(1,.a (.v 0) (.n 1),.v 1),(2,.a (.v 1) (.n 1),.a (.a (.v 0) (.v 3)) (.n 1)),(1,.m 2 (.v 3),.v 2),(1,.a (.v 2) (.v 0),.v 1)] rfl (nt h0) z (Nat.mul_div_le (b - a) 2) (sF3 (nl fun z22=>far [a,b] [(1,.a (.v 0) (.n 1),.v 1),(1,.a (.v 1) (.n 1),.v 0)] rfl (nt h0) z22))
theorem o5 (h0 : a < b) (h1 : (c - d) ≤ (b - a)) (h2 : ¬(d ≥ c)) : (c - ((d + ((c - d) / 2)) + 1)) ≤ (b - (a + 1)):=nl fun z=>far [a,b,c,d,(c - d),(b - a),(b - (a + 1)),((c - d) / 2),(c - ((d + ((c - d) / 2)) + 1))] [(1,.v 4,.v 5),(1,.a (.v 6) (.n 1),.v 8),(1,.v 2,.a (.v 4) (.v 3)),(1,.a (.v 5) (.v 0),.v 1),(1,.v 1,.a (.v 6) (.a (.v 0) (.n 1))),(1,.a (.v 8) (.a (.a (.v 3) (.v 7)) (.n 1)),.v 2)] rfl h1 z (sF1 c d) (sF3 (nl fun z29=>far [a,b] [(1,.a (.v 0) (.n 1),.v 1),(1,.a (.v 1) (.n 1),.v 0)] rfl h0 z29)) (sF1 b (a + 1)) (sF3 (nl fun z39=>far [(b - (a + 1)),(c - ((d + ((c - d) / 2)) + 1))] [(1,.a (.v 0) (.n 1),.v 1),(1,.v 1,.n 0)] rfl z (sF0 (nl fun z44=>far [c,d,((c - d) / 2)] [(1,.a (.v 0) (.n 1),.a (.a (.v 1) (.v 2)) (.n 1)),(1,.a (.a (.a (.v 1) (.v 2)) (.n 1)) (.n 1),.v 0)] rfl z39 z44))))
theorem o6 (h0 : a < ((b + ((c - b) / 2)) + 1)) : a ≤ (b + ((c - b) / 2)):=nl fun z=>far [a,b,((c - b) / 2)] [(1,.a (.v 0) (.n 1),.a (.a (.v 1) (.v 2)) (.n 1)),(1,.a (.a (.v 1) (.v 2)) (.n 1),.v 0)] rfl h0 z
theorem o7 : a ≤ (a + ((b - a) / 2)):=nl fun z=>far [a,((b - a) / 2)] [(1,.a (.a (.v 0) (.v 1)) (.n 1),.v 0)] rfl z
theorem o8 (h0 : a ≤ b) (h1 : ¬(c ≥ a)) : (c + ((a - c) / 2)) ≤ b:=nl fun z=>far [a,b,c,(a - c),((a - c) / 2)] [(2,.v 0,.v 1),(1,.a (.v 2) (.n 1),.v 0),(2,.a (.v 1) (.n 1),.a (.v 2) (.v 4)),(1,.m 2 (.v 4),.v 3),(1,.a (.v 3) (.v 2),.v 0)] rfl h0 (nt h1) z (Nat.mul_div_le (a - c) 2) (sF3 (nl fun z49=>far [a,c] [(1,.a (.v 1) (.n 1),.v 0),(1,.a (.v 0) (.n 1),.v 1)] rfl (nt h1) z49))
theorem o9 (h0 : a < b) (h1 : (c - d) ≤ (b - a)) (h2 : ¬(d ≥ c)) : ((d + ((c - d) / 2)) - d) ≤ (b - (a + 1)):=nl fun z=>far [a,b,d,(c - d),(b - a),(b - (a + 1)),((c - d) / 2),((d + ((c - d) / 2)) - d)] [(1,.v 3,.v 4),(2,.a (.v 5) (.n 1),.v 7),(1,.a (.v 4) (.v 0),.v 1),(1,.v 1,.a (.v 5) (.a (.v 0) (.n 1))),(2,.a (.v 7) (.v 2),.a (.v 2) (.v 6)),(1,.m 2 (.v 6),.v 3)] rfl h1 z (sF3 (nl fun z56=>far [a,b] [(1,.a (.v 0) (.n 1),.v 1),(1,.a (.v 1) (.n 1),.v 0)] rfl h0 z56)) (sF1 b (a + 1)) (sF3 (nl fun z66=>far [d,((c - d) / 2)] [(1,.a (.a (.v 0) (.v 1)) (.n 1),.v 0)] rfl z66)) (Nat.mul_div_le (c - d) 2)
theorem o10 : 0 < 1:=nt fun z=>far [] [(1,.n 1,.n 0)] rfl z
theorem o11 (h0 : a < b) (h1 : c < d) (h2 : (a + c) < b) : ((a + c) + 1) ≤ (a + (min d (b - a))):=Nat.add_le_add_left (Nat.le_min.mpr ⟨h1,Nat.le_sub_of_add_le' h2⟩) a
theorem o12 (h0 : a < b) : (a + (min c (b - a))) ≤ b:=nl fun z=>far [a,b,(b - a),(min c (b - a))] [(1,.a (.v 1) (.n 1),.a (.v 0) (.v 3)),(1,.v 3,.v 2),(1,.a (.v 2) (.v 0),.v 1)] rfl z (Nat.min_le_right c (b - a)) (sF3 (nl fun z73=>far [a,b] [(1,.a (.v 0) (.n 1),.v 1),(1,.a (.v 1) (.n 1),.v 0)] rfl h0 z73))
theorem o13 (h0 : a < ((b + c) + 1)) : a ≤ (b + c):=nl fun z=>far [a,b,c] [(1,.a (.v 0) (.n 1),.a (.a (.v 1) (.v 2)) (.n 1)),(1,.a (.a (.v 1) (.v 2)) (.n 1),.v 0)] rfl h0 z
theorem o14 (h0 : a < b) (h1 : (a + (min c (b - a))) ≤ d) (h2 : d < b) : (a + c) ≤ d:=by first | lia | omega
theorem o15 (h0 : a < b) (h1 : (a + (min c (b - a))) ≤ d) (h2 : d < b) : (a + c) < b:=Nat.lt_of_le_of_lt (o14 h0 h1 h2) h2
theorem o16 (h0 : a < b) (h1 : ¬(c ≥ (b - a))) : (a + c) < b:=nt fun z=>far [a,b,c,(b - a)] [(1,.a (.v 2) (.n 1),.v 3),(1,.v 1,.a (.v 0) (.v 2)),(1,.a (.v 3) (.v 0),.v 1)] rfl (nt h1) z (sF3 (nl fun z79=>far [a,b] [(1,.a (.v 0) (.n 1),.v 1),(1,.a (.v 1) (.n 1),.v 0)] rfl h0 z79))
theorem o17 : a < ((2 * a) + 1):=nt fun z=>far [a] [(1,.a (.m 2 (.v 0)) (.n 1),.v 0)] rfl z
theorem o18 (h0 : 0 ≤ a) (h1 : a < b) : (a + 1) < ((2 * b) + 1):=nt fun z=>far [a,b] [(2,.a (.v 0) (.n 1),.v 1),(1,.a (.m 2 (.v 1)) (.n 1),.a (.v 0) (.n 1))] rfl h1 z
theorem o19 : 0 ≤ a:=nl fun z=>far [a] [(1,.a (.v 0) (.n 1),.n 0)] rfl z
theorem o20 (h0 : a < b) (h1 : a ≤ c) : ((c + 1) - (min b (c + 1))) ≤ (c - a):=Nat.succ_sub_succ c a ▸ Nat.sub_le_sub_left (Nat.le_min.mpr ⟨h0,Nat.succ_le_succ h1⟩) (c + 1)
theorem o21 (h0 : a < b) (h1 : c ≤ a) : (a - c) ≤ b:=nl fun z=>far [a,b,(a - c)] [(1,.a (.v 0) (.n 1),.v 1),(1,.a (.v 1) (.n 1),.v 2),(1,.v 2,.v 0)] rfl h0 z (Nat.sub_le a c)
theorem o24 (h0 : a < ((b + 1) - (min c (b + 1)))) : c ≤ b:=Nat.le_of_not_lt fun h=>Nat.not_lt_zero a (by rwa [Nat.min_eq_right h,Nat.sub_self] at h0)
theorem o22 (h0 : a < ((b + 1) - (min c (b + 1)))) : a ≤ (b - c):=Nat.le_sub_of_add_le (Nat.le_of_lt_succ (Nat.add_lt_of_lt_sub (Nat.min_eq_left (Nat.le_succ_of_le (o24 h0)) ▸ h0)))
theorem o23 (h0 : a < b) (h1 : c < d) (h2 : c ≤ a) : (a - d) < b:=nt fun z=>far [a,b,(a - d)] [(1,.a (.v 0) (.n 1),.v 1),(1,.v 1,.v 2),(1,.v 2,.v 0)] rfl h0 z (Nat.sub_le a d)
theorem o25 (h0 : a < b) (h1 : c < d) (h2 : ¬(d ≥ (a + 1))) : (a - d) < b:=nt fun z=>far [a,b,(a - d)] [(1,.a (.v 0) (.n 1),.v 1),(1,.v 1,.v 2),(1,.v 2,.v 0)] rfl h0 z (Nat.sub_le a d)
theorem o26 (h0 : ¬(a ≥ (b + 1))) : a ≤ b:=nl fun z=>far [a,b] [(1,.a (.v 0) (.n 1),.a (.v 1) (.n 1)),(1,.a (.v 1) (.n 1),.v 0)] rfl (nt h0) z
theorem o27 (h0 : (a + 1) = b) : b ≤ (a + 1):=nl fun z=>far [a,b] [(1,.v 1,.a (.v 0) (.n 1)),(1,.a (.a (.v 0) (.n 1)) (.n 1),.v 1)] rfl (ge h0) z
theorem o28 (h0 : a = b) : b ≤ a:=nl fun z=>far [a,b] [(1,.v 1,.v 0),(1,.a (.v 0) (.n 1),.v 1)] rfl (ge h0) z
theorem o29 (h0 : (a + 1) = b) : (b - 1) = a:=na (nl fun z=>far [a,b,(b - 1)] [(1,.v 1,.a (.v 0) (.n 1)),(1,.a (.v 0) (.n 1),.v 2),(1,.a (.v 2) (.n 1),.v 1)] rfl (ge h0) z (sF3 (nl fun z105=>far [a,b] [(1,.a (.v 0) (.n 1),.v 1),(1,.a (.v 1) (.n 1),.n 1)] rfl (qe h0) z105))) (nl fun z=>far [a,b,(b - 1)] [(1,.a (.v 0) (.n 1),.v 1),(1,.a (.v 2) (.n 1),.v 0),(1,.v 1,.a (.v 2) (.n 1))] rfl (qe h0) z (sF1 b 1))
theorem o30 (h0 : a < (min b c)) : a < b:=nt fun z=>far [a,b,(min b c)] [(1,.a (.v 0) (.n 1),.v 2),(1,.v 1,.v 0),(1,.v 2,.v 1)] rfl h0 z (Nat.min_le_left b c)
theorem o31 (h0 : (a + b) ≤ c) (h1 : d < b) : (a + d) < c:=nt fun z=>far [a,b,c,d] [(1,.a (.v 0) (.v 1),.v 2),(1,.a (.v 3) (.n 1),.v 1),(1,.v 2,.a (.v 0) (.v 3))] rfl h0 h1 z
theorem o32 (h0 : (a + b) ≤ c) (h1 : d ≤ e) (h2 : e < b) : (a + d) < c:=nt fun z=>far [a,b,c,d,e] [(1,.a (.v 0) (.v 1),.v 2),(1,.v 3,.v 4),(1,.a (.v 4) (.n 1),.v 1),(1,.v 2,.a (.v 0) (.v 3))] rfl h0 h1 h2 z
theorem o33 (h0 : a ≤ b) : (c + a) ≤ (c + b):=nl fun z=>far [a,b,c] [(1,.v 0,.v 1),(1,.a (.a (.v 2) (.v 1)) (.n 1),.a (.v 2) (.v 0))] rfl h0 z
theorem o34 {a b c d : Nat} {e f g : Int} (h0 : (a + b) < c) (h1 : (a + d) < c) (h2 : e ≤ f) (h3 : f < g) : e < g:=Int.lt_of_le_of_lt h2 h3
theorem o35 {a b c d : Nat} {e f g : Int} (h0 : (a + b) < c) (h1 : (a + d) < c) (h2 : e ≤ f) (h3 : ¬(g < f)) (h4 : g < e) : False:=h3 (Int.lt_of_lt_of_le h4 h2)
theorem o36 (h0 : a ≤ (b + c)) : a < ((b + 1) + c):=nt fun z=>far [a,b,c] [(1,.v 0,.a (.v 1) (.v 2)),(1,.a (.a (.v 1) (.n 1)) (.v 2),.v 0)] rfl h0 z
theorem o37 (h0 : (a + 1) < b) (h1 : c ≤ (b - (a + 1))) (h2 : ¬(((a + 1) + c) = b)) : ((a + 1) + c) < b:=Nat.lt_of_le_of_ne (Nat.add_le_of_le_sub' (Nat.le_of_lt h0) h1) h2
theorem o38 (h0 : a ≤ (b + (c + 1))) (h1 : d > 0) : a ≤ (b + ((c + 1) + d)):=nl fun z=>far [a,b,c,d] [(1,.v 0,.a (.v 1) (.a (.v 2) (.n 1))),(1,.a (.n 0) (.n 1),.v 3),(1,.a (.a (.v 1) (.a (.a (.v 2) (.n 1)) (.v 3))) (.n 1),.v 0)] rfl h0 h1 z
theorem o39 (h0 : (a + 1) < b) : (a + (b - a)) ≤ b:=nl fun z=>far [a,b,(b - a)] [(1,.a (.v 1) (.n 1),.a (.v 0) (.v 2)),(1,.a (.v 2) (.v 0),.v 1)] rfl z (sF3 (nl fun z111=>far [a,b] [(1,.a (.a (.v 0) (.n 1)) (.n 1),.v 1),(1,.a (.v 1) (.n 1),.v 0)] rfl h0 z111))
theorem o40 (h0 : (a + 1) < b) : 0 < (b - a):=nt fun z=>far [a,b,(b - a)] [(1,.a (.a (.v 0) (.n 1)) (.n 1),.v 1),(1,.v 2,.n 0),(1,.v 1,.a (.v 2) (.v 0))] rfl h0 z (sF1 b a)
theorem o41 (h0 : (a + 1) < b) (h1 : c ≤ (b - a)) (h2 : ¬(((a + c) + 1) = b)) (h3 : ¬((a + c) = b)) : ((a + c) + 1) < b:=Nat.lt_of_le_of_ne (Nat.lt_of_le_of_ne (Nat.add_le_of_le_sub' (Nat.le_of_lt (Nat.lt_of_succ_lt h0)) h1) h3) h2
theorem o42 (h0 : a > 0) : (b + (c + 1)) ≤ ((b + a) + (c + 1)):=nl fun z=>far [a,b,c] [(1,.a (.n 0) (.n 1),.v 0),(1,.a (.a (.a (.v 1) (.v 0)) (.a (.v 2) (.n 1))) (.n 1),.a (.v 1) (.a (.v 2) (.n 1)))] rfl h0 z
theorem o43 : ((a + b) + 1) = ((a + 1) + b):=na (nl fun z=>far [a,b] [(1,.a (.a (.a (.v 0) (.n 1)) (.v 1)) (.n 1),.a (.a (.v 0) (.v 1)) (.n 1))] rfl z) (nl fun z=>far [a,b] [(1,.a (.a (.a (.v 0) (.v 1)) (.n 1)) (.n 1),.a (.a (.v 0) (.n 1)) (.v 1))] rfl z)
theorem o44 : (a + b) < ((a + 1) + b):=nt fun z=>far [a,b] [(1,.a (.a (.v 0) (.n 1)) (.v 1),.a (.v 0) (.v 1))] rfl z
theorem o45 (h0 : ((max 0 (a + b)) + c) < (d + e)) (h1 : (d + 1) < a) (h2 : e < b) : False:=far [a,b,(max 0 (a + b)),c,d,e] [(1,.a (.a (.v 2) (.v 3)) (.n 1),.a (.v 4) (.v 5)),(1,.a (.a (.v 4) (.n 1)) (.n 1),.v 0),(1,.a (.v 5) (.n 1),.v 1),(1,.a (.v 0) (.v 1),.v 2)] rfl h0 h1 h2 (Nat.le_max_right 0 (a + b))
theorem o46 (h0 : (a + b) < (c + d)) (h1 : (c + (d + 1)) < (e + f)) : ((a + 1) + b) < (e + f):=nt fun z=>far [a,b,c,d,e,f] [(1,.a (.a (.v 0) (.v 1)) (.n 1),.a (.v 2) (.v 3)),(1,.a (.a (.v 2) (.a (.v 3) (.n 1))) (.n 1),.a (.v 4) (.v 5)),(1,.a (.v 4) (.v 5),.a (.a (.v 0) (.n 1)) (.v 1))] rfl h0 h1 z
theorem o47 (h0 : ((max 0 (a + b)) + (c + d)) ≤ (e + f)) (h1 : (e + 1) < a) (h2 : f < b) : False:=far [a,b,(max 0 (a + b)),c,d,e,f] [(1,.a (.v 2) (.a (.v 3) (.v 4)),.a (.v 5) (.v 6)),(1,.a (.a (.v 5) (.n 1)) (.n 1),.v 0),(1,.a (.v 6) (.n 1),.v 1),(1,.a (.v 0) (.v 1),.v 2)] rfl h0 h1 h2 (Nat.le_max_right 0 (a + b))
theorem o48 (h0 : (a + (b + c)) ≤ (d + e)) (h1 : (d + e) < (f + g)) : ((a + 1) + (b + c)) ≤ (f + g):=nl fun z=>far [a,b,c,d,e,f,g] [(1,.a (.v 0) (.a (.v 1) (.v 2)),.a (.v 3) (.v 4)),(1,.a (.a (.v 3) (.v 4)) (.n 1),.a (.v 5) (.v 6)),(1,.a (.a (.v 5) (.v 6)) (.n 1),.a (.a (.v 0) (.n 1)) (.a (.v 1) (.v 2)))] rfl h0 h1 z
theorem o49 (h0 : 0 < a) (h1 : ¬((0 + 1) = a)) : (0 + 1) < a:=Nat.lt_of_le_of_ne h0 h1
theorem o50 (h0 : 0 < a) (h1 : 0 < b) (h2 : ¬(1 = b)) (h3 : ¬((0 + 1) = a)) : 1 < b:=Nat.lt_of_le_of_ne h1 h2
theorem o51 (h0 : 0 < a) (h1 : 0 < b) (h2 : (max 0 (a + b)) < (c + d)) (h3 : (c + 1) < a) (h4 : d < b) : False:=far [a,b,(max 0 (a + b)),c,d] [(1,.a (.v 2) (.n 1),.a (.v 3) (.v 4)),(1,.a (.a (.v 3) (.n 1)) (.n 1),.v 0),(1,.a (.v 4) (.n 1),.v 1),(1,.a (.v 0) (.v 1),.v 2)] rfl h2 h3 h4 (Nat.le_max_right 0 (a + b))
theorem o52 (h0 : a ≤ b) : (a + (b - a)) = b:=na (nl fun z=>far [a,b,(b - a)] [(1,.a (.v 1) (.n 1),.a (.v 0) (.v 2)),(1,.a (.v 2) (.v 0),.v 1)] rfl z (sF3 (nl fun z117=>far [a,b] [(1,.v 0,.v 1),(1,.a (.v 1) (.n 1),.v 0)] rfl h0 z117))) (nl fun z=>far [a,b,(b - a)] [(1,.a (.a (.v 0) (.v 2)) (.n 1),.v 1),(1,.v 1,.a (.v 2) (.v 0))] rfl z (sF1 b a))
theorem o53 (h0 : 0 < a) (h1 : b < (min a c)) : b ≤ (a - 1):=nl fun z=>far [a,b,(min a c),(a - 1)] [(1,.a (.v 1) (.n 1),.v 2),(1,.a (.v 3) (.n 1),.v 1),(1,.v 2,.v 0),(1,.v 0,.a (.v 3) (.n 1))] rfl h1 z (Nat.min_le_left a c) (sF1 a 1)
theorem o54 (h0 : a < (min 1 b)) : a < 1:=nt fun z=>far [a,(min 1 b)] [(1,.a (.v 0) (.n 1),.v 1),(1,.n 1,.v 0),(1,.v 1,.n 1)] rfl h0 z (Nat.min_le_left 1 b)
theorem o55 (h0 : a < (min 1 b)) : a = 0:=na (nl fun z=>far [a,(min 1 b)] [(1,.a (.v 0) (.n 1),.v 1),(1,.a (.n 0) (.n 1),.v 0),(1,.v 1,.n 1)] rfl h0 z (Nat.min_le_left 1 b)) (nl fun z=>far [a] [(1,.a (.v 0) (.n 1),.n 0)] rfl z)
theorem o56 (h0 : 0 < a) : (a - (a - 1)) = 1:=na (nl fun z=>far [a,(a - 1),(a - (a - 1))] [(1,.a (.n 1) (.n 1),.v 2),(1,.a (.v 2) (.v 1),.v 0),(1,.v 0,.a (.v 1) (.n 1))] rfl z (sF3 (nl fun z123=>far [a,(a - 1),(a - (a - 1))] [(1,.a (.n 1) (.n 1),.v 2),(1,.a (.v 0) (.n 1),.v 1),(1,.a (.v 2) (.v 1),.v 0)] rfl z z123 (sF3 (nl fun z124=>far [a,(a - 1)] [(1,.a (.v 0) (.n 1),.v 1),(1,.v 1,.v 0)] rfl z123 (Nat.sub_le a 1))))) (sF1 a 1)) (nl fun z=>far [a,(a - 1),(a - (a - 1))] [(1,.a (.v 2) (.n 1),.n 1),(1,.v 0,.a (.v 2) (.v 1)),(1,.a (.v 1) (.n 1),.v 0)] rfl z (sF1 a (a - 1)) (sF3 (nl fun z132=>far [a] [(1,.a (.n 0) (.n 1),.v 0),(1,.a (.v 0) (.n 1),.n 1)] rfl h0 z132)))
theorem o57 (h0 : 0 < a) : (a - 1) ≤ a:=nl fun z=>far [a,(a - 1)] [(1,.a (.v 0) (.n 1),.v 1),(1,.v 1,.v 0)] rfl z (Nat.sub_le a 1)
theorem o58 : a ≤ (a + b):=nl fun z=>far [a,b] [(1,.a (.a (.v 0) (.v 1)) (.n 1),.v 0)] rfl z
theorem o59 (h0 : a ≤ b) (h1 : c < (b - a)) : (a + c) < b:=nt fun z=>far [a,b,c,(b - a)] [(1,.a (.v 2) (.n 1),.v 3),(1,.v 1,.a (.v 0) (.v 2)),(1,.a (.v 3) (.v 0),.v 1)] rfl h1 z (sF3 (nl fun z137=>far [a,b] [(1,.v 0,.v 1),(1,.a (.v 1) (.n 1),.v 0)] rfl h0 z137))
theorem o60 (h0 : 0 < a) (h1 : (a + b) ≤ c) : ((a - 1) + b) < c:=nt fun z=>far [a,b,c,(a - 1)] [(1,.a (.v 0) (.v 1),.v 2),(1,.v 2,.a (.v 3) (.v 1)),(1,.a (.v 3) (.n 1),.v 0)] rfl h1 z (sF3 (nl fun z139=>far [a] [(1,.a (.n 0) (.n 1),.v 0),(1,.a (.v 0) (.n 1),.n 1)] rfl h0 z139))
theorem o61 (h0 : 1 < a) (h1 : (b + a) ≤ c) : (b + (a - 1)) < c:=nt fun z=>far [a,b,c,(a - 1)] [(1,.a (.v 1) (.v 0),.v 2),(1,.v 2,.a (.v 1) (.v 3)),(1,.a (.v 3) (.n 1),.v 0)] rfl h1 z (sF3 (nl fun z141=>far [a] [(1,.a (.n 1) (.n 1),.v 0),(1,.a (.v 0) (.n 1),.n 1)] rfl h0 z141))
theorem o62 (h0 : ¬((a - 1) = 1)) (h1 : 1 < a) : 1 < (a - 1):=Nat.lt_of_le_of_ne (Nat.le_sub_of_add_le h1) (Ne.symm h0)
theorem o63 (h0 : 1 < a) (h1 : a ≤ b) : (0 + (a - 1)) ≤ b:=nl fun z=>far [a,b,(a - 1)] [(1,.v 0,.v 1),(1,.a (.v 1) (.n 1),.a (.n 0) (.v 2)),(1,.v 2,.v 0)] rfl h1 z (Nat.sub_le a 1)
theorem o64 (h0 : 1 < a) : ((a - 1) - 1) < (a - 1):=nt fun z=>far [(a - 1),((a - 1) - 1)] [(1,.v 0,.v 1),(1,.a (.v 1) (.n 1),.v 0)] rfl z (sF3 (nl fun z150=>far [a,(a - 1)] [(1,.a (.n 1) (.n 1),.v 0),(1,.a (.v 1) (.n 1),.n 1),(1,.v 0,.a (.v 1) (.n 1))] rfl h0 z150 (sF1 a 1)))
theorem o65 (h0 : 1 < a) (h1 : a ≤ b) (h2 : ((a - 1) - c) > 0) (h3 : ¬(c = 1)) (h4 : ¬(c = 0)) : (c - 1) < b:=nt fun z=>far [a,b,(a - 1),c,((a - 1) - c),(c - 1)] [(1,.v 0,.v 1),(1,.a (.n 0) (.n 1),.v 4),(1,.v 1,.v 5),(1,.a (.v 4) (.v 3),.v 2),(1,.v 2,.v 0),(1,.v 5,.v 3)] rfl h1 h2 z (sF3 (nl fun z153=>far [((a - 1) - c)] [(1,.a (.n 0) (.n 1),.v 0),(1,.v 0,.n 0)] rfl h2 (sF0 (nl fun z155=>far [(a - 1),c] [(1,.a (.v 0) (.n 1),.v 1),(1,.a (.v 1) (.n 1),.v 0)] rfl z153 z155)))) (Nat.sub_le a 1) (Nat.sub_le c 1)
theorem o66 (h0 : ¬(a = 1)) (h1 : ¬(a = 0)) : 1 < a:=Nat.lt_of_le_of_ne (Nat.pos_of_ne_zero h1) (Ne.symm h0)
theorem o67 (h0 : 1 < a) (h1 : a ≤ b) (h2 : (c - 1) < b) : c ≤ b:=nl fun z=>far [b,c,(c - 1)] [(1,.a (.v 2) (.n 1),.v 0),(1,.a (.v 0) (.n 1),.v 1),(1,.v 1,.a (.v 2) (.n 1))] rfl h2 z (sF1 c 1)
theorem o68 (h0 : (a + b) ≤ (c + 1)) (h1 : 1 < b) (h2 : ((b - 1) - d) > 0) (h3 : ¬(d = 1)) (h4 : ¬(d = 0)) : (a + d) ≤ c:=nl fun z=>far [a,b,c,(b - 1),d,((b - 1) - d)] [(1,.a (.v 0) (.v 1),.a (.v 2) (.n 1)),(1,.a (.n 0) (.n 1),.v 5),(1,.a (.v 2) (.n 1),.a (.v 0) (.v 4)),(1,.a (.v 5) (.v 4),.v 3),(1,.v 3,.v 1)] rfl h0 h2 z (sF3 (nl fun z168=>far [((b - 1) - d)] [(1,.a (.n 0) (.n 1),.v 0),(1,.v 0,.n 0)] rfl h2 (sF0 (nl fun z170=>far [(b - 1),d] [(1,.a (.v 0) (.n 1),.v 1),(1,.a (.v 1) (.n 1),.v 0)] rfl z168 z170)))) (Nat.sub_le b 1)
theorem o69 (h0 : ¬(a = 0)) : (a - 1) < a:=Nat.sub_lt (Nat.pos_of_ne_zero h0) Nat.one_pos
theorem o70 (h0 : 1 < a) (h1 : b ≤ (a - 1)) (h2 : ¬(((a - 1) - b) > 0)) : b = (a - 1):=na (nl fun z=>far [b,(a - 1)] [(1,.v 0,.v 1),(1,.a (.v 1) (.n 1),.v 0)] rfl h1 z) (nl fun z=>far [b,(a - 1),((a - 1) - b)] [(1,.v 2,.n 0),(1,.a (.v 0) (.n 1),.v 1),(1,.v 1,.a (.v 2) (.v 0))] rfl (nl h2) z (sF1 (a - 1) b))
theorem o71 (h0 : 1 < a) (h1 : a ≤ b) : ((a - 1) - 1) < b:=nt fun z=>far [a,b,(a - 1),((a - 1) - 1)] [(1,.v 0,.v 1),(1,.v 1,.v 3),(1,.a (.v 3) (.n 1),.v 2),(1,.v 2,.v 0)] rfl h1 z (sF3 (nl fun z192=>far [a,b,(a - 1),((a - 1) - 1)] [(1,.a (.n 1) (.n 1),.v 0),(1,.v 0,.v 1),(1,.v 1,.v 3),(1,.a (.v 2) (.n 1),.n 1),(1,.v 3,.v 2)] rfl h0 h1 z z192 (Nat.sub_le (a - 1) 1))) (Nat.sub_le a 1)
theorem o72 (h0 : 1 < a) (h1 : a ≤ b) (h2 : ¬(((a - 1) - (a - 1)) > 0)) : (a - 1) ≤ b:=nl fun z=>far [a,b,(a - 1)] [(1,.v 0,.v 1),(1,.a (.v 1) (.n 1),.v 2),(1,.v 2,.v 0)] rfl h1 z (Nat.sub_le a 1)
theorem o73 (h0 : (a + b) ≤ (c + 1)) (h1 : 1 < b) (h2 : ¬(((b - 1) - (b - 1)) > 0)) : (a + (b - 1)) ≤ c:=nl fun z=>far [a,b,c,(b - 1)] [(1,.a (.v 0) (.v 1),.a (.v 2) (.n 1)),(1,.a (.v 2) (.n 1),.a (.v 0) (.v 3)),(1,.a (.v 3) (.n 1),.v 1)] rfl h0 z (sF3 (nl fun z207=>far [b] [(1,.a (.n 1) (.n 1),.v 0),(1,.a (.v 0) (.n 1),.n 1)] rfl h1 z207))
theorem o74 (h0 : 1 < a) (h1 : ¬(((a - 1) - (a - 1)) > 0)) : ((a - 1) - 1) < (a - 1):=nt fun z=>far [(a - 1),((a - 1) - 1)] [(1,.v 0,.v 1),(1,.a (.v 1) (.n 1),.v 0)] rfl z (sF3 (nl fun z218=>far [a,(a - 1)] [(1,.a (.n 1) (.n 1),.v 0),(1,.a (.v 1) (.n 1),.n 1),(1,.v 0,.a (.v 1) (.n 1))] rfl h0 z218 (sF1 a 1)))
theorem o75 (h0 : 1 < a) (h1 : a ≤ b) : (a - 1) < b:=nt fun z=>far [a,b,(a - 1)] [(1,.v 0,.v 1),(1,.v 1,.v 2),(1,.a (.v 2) (.n 1),.v 0)] rfl h1 z (sF3 (nl fun z222=>far [a] [(1,.a (.n 1) (.n 1),.v 0),(1,.a (.v 0) (.n 1),.n 1)] rfl h0 z222))
theorem o76 (h0 : a ≤ b) : (0 + a) ≤ b:=nl fun z=>far [a,b] [(1,.v 0,.v 1),(1,.a (.v 1) (.n 1),.a (.n 0) (.v 0))] rfl h0 z
theorem o77 (h0 : 0 < a) : (a - 1) < a:=nt fun z=>far [a,(a - 1)] [(1,.v 0,.v 1),(1,.a (.v 1) (.n 1),.v 0)] rfl z (sF3 (nl fun z224=>far [a] [(1,.a (.n 0) (.n 1),.v 0),(1,.a (.v 0) (.n 1),.n 1)] rfl h0 z224))
theorem o78 (h0 : 0 < a) (h1 : a ≤ b) (h2 : c ≤ a) : (c - 1) < b:=nt fun z=>far [a,b,c,(c - 1)] [(1,.v 0,.v 1),(1,.v 2,.v 0),(1,.v 1,.v 3),(1,.a (.v 3) (.n 1),.v 2)] rfl h1 h2 z (sF3 (nl fun z226=>far [a,b,c,(c - 1)] [(1,.a (.n 0) (.n 1),.v 0),(1,.v 0,.v 1),(1,.v 1,.v 3),(1,.a (.v 2) (.n 1),.n 1),(1,.v 3,.v 2)] rfl h0 h1 z z226 (Nat.sub_le c 1)))
theorem o79 (h0 : a ≤ b) (h1 : c ≤ a) : c ≤ b:=nl fun z=>far [a,b,c] [(1,.v 0,.v 1),(1,.v 2,.v 0),(1,.a (.v 1) (.n 1),.v 2)] rfl h0 h1 z
theorem o80 (h0 : (a + b) ≤ (c + 1)) (h1 : d ≤ a) : (d + b) ≤ (c + 1):=nl fun z=>far [a,b,c,d] [(1,.a (.v 0) (.v 1),.a (.v 2) (.n 1)),(1,.v 3,.v 0),(1,.a (.a (.v 2) (.n 1)) (.n 1),.a (.v 3) (.v 1))] rfl h0 h1 z
theorem o81 (h0 : a ≤ b) (h1 : ¬((b - a) > 0)) : a = b:=na (nl fun z=>far [a,b] [(1,.v 0,.v 1),(1,.a (.v 1) (.n 1),.v 0)] rfl h0 z) (nl fun z=>far [a,b,(b - a)] [(1,.v 2,.n 0),(1,.a (.v 0) (.n 1),.v 1),(1,.v 1,.a (.v 2) (.v 0))] rfl (nl h1) z (sF1 b a))
theorem o82 (h0 : 0 < a) (h1 : a ≤ b) : (a - 1) < b:=nt fun z=>far [a,b,(a - 1)] [(1,.v 0,.v 1),(1,.v 1,.v 2),(1,.a (.v 2) (.n 1),.v 0)] rfl h1 z (sF3 (nl fun z232=>far [a] [(1,.a (.n 0) (.n 1),.v 0),(1,.a (.v 0) (.n 1),.n 1)] rfl h0 z232))
theorem o83 (h0 : (a - 1) < b) (h1 : (a - 1) = 1) : 0 < b:=nt fun z=>far [(a - 1),b] [(1,.a (.v 0) (.n 1),.v 1),(1,.n 1,.v 0),(1,.v 1,.n 0)] rfl h0 (ge h1) z
theorem o84 (h0 : 1 < a) (h1 : ¬((a - 1) = 1)) : 1 < (a - 1):=Nat.lt_of_le_of_ne (Nat.le_sub_of_add_le h0) (Ne.symm h1)
theorem o85 (h0 : ((a + b) + c) < d) (h1 : d ≤ (max 0 a)) : False:=absurd (Nat.zero_max a ▸ h1) (Nat.not_le_of_lt (Nat.lt_of_le_of_lt (Nat.le_trans (Nat.le_add_right a b) (Nat.le_add_right _ c)) h0))
theorem o86 : (a + b) ≤ (((a + b) - 1) + 1):=nl fun z=>far [a,b,((a + b) - 1)] [(1,.a (.a (.v 2) (.n 1)) (.n 1),.a (.v 0) (.v 1)),(1,.a (.v 0) (.v 1),.a (.v 2) (.n 1))] rfl z (sF1 (a + b) 1)
theorem o87 (h0 : (a + b) < c) (h1 : (d + e) < c) : ((d + e) - 1) ≤ c:=nl fun z=>far [c,d,e,((d + e) - 1)] [(1,.a (.a (.v 1) (.v 2)) (.n 1),.v 0),(1,.a (.v 0) (.n 1),.v 3),(1,.v 3,.a (.v 1) (.v 2))] rfl h1 z (Nat.sub_le (d + e) 1)
theorem o88 (h0 : (a + b) < c) (h1 : (d + e) < ((a + b) - 1)) : (d + e) < c:=nt fun z=>far [a,b,c,d,e,((a + b) - 1)] [(1,.a (.a (.v 0) (.v 1)) (.n 1),.v 2),(1,.a (.a (.v 3) (.v 4)) (.n 1),.v 5),(1,.v 2,.a (.v 3) (.v 4)),(1,.v 5,.a (.v 0) (.v 1))] rfl h0 h1 z (Nat.sub_le (a + b) 1)
theorem o89 (h0 : ((a + b) + c) ≤ (d + e)) (h1 : (f + g) < (b + c)) : (((a + 1) + f) + g) ≤ (d + e):=nl fun z=>far [a,b,c,d,e,f,g] [(1,.a (.a (.v 0) (.v 1)) (.v 2),.a (.v 3) (.v 4)),(1,.a (.a (.v 5) (.v 6)) (.n 1),.a (.v 1) (.v 2)),(1,.a (.a (.v 3) (.v 4)) (.n 1),.a (.a (.a (.v 0) (.n 1)) (.v 5)) (.v 6))] rfl h0 h1 z
theorem o90 (h0 : 0 < a) (h1 : ¬(a = 1)) : 1 < a:=Nat.lt_of_le_of_ne h0 (Ne.symm h1)
theorem o91 (h0 : (a - 1) < a) : ((0 + (a - 1)) + b) < (a + b):=nt fun z=>far [a,(a - 1),b] [(1,.a (.v 1) (.n 1),.v 0),(1,.a (.v 0) (.v 2),.a (.a (.n 0) (.v 1)) (.v 2))] rfl h0 z
theorem o92 (h0 : a = (b + c)) : (a + 1) = (b + (c + 1)):=na (nl fun z=>far [a,b,c] [(1,.v 0,.a (.v 1) (.v 2)),(1,.a (.a (.v 1) (.a (.v 2) (.n 1))) (.n 1),.a (.v 0) (.n 1))] rfl (qe h0) z) (nl fun z=>far [a,b,c] [(1,.a (.v 1) (.v 2),.v 0),(1,.a (.a (.v 0) (.n 1)) (.n 1),.a (.v 1) (.a (.v 2) (.n 1)))] rfl (ge h0) z)
theorem o93 (h0 : a ≤ b) (h1 : b < c) : a < c:=nt fun z=>far [a,b,c] [(1,.v 0,.v 1),(1,.a (.v 1) (.n 1),.v 2),(1,.v 2,.v 0)] rfl h0 h1 z
theorem o96 (h0 : a ≤ b) (h1 : c < (min a b)) : c < a:=nt fun z=>far [a,c,(min a b)] [(1,.a (.v 1) (.n 1),.v 2),(1,.v 0,.v 1),(1,.v 2,.v 0)] rfl h1 z (Nat.min_le_left a b)
theorem o97 : a ≤ (a + 1):=nl fun z=>far [a] [(1,.a (.a (.v 0) (.n 1)) (.n 1),.v 0)] rfl z
theorem o98 (h0 : (a + b) = c) (h1 : (b - d) = 0) : b ≤ d:=nl fun z=>far [b,d,(b - d)] [(1,.v 2,.n 0),(1,.a (.v 1) (.n 1),.v 0),(1,.v 0,.a (.v 2) (.v 1))] rfl (qe h1) z (sF1 b d)
theorem o99 (h0 : 0 < a) (h1 : (b + a) = c) : (a - 1) < a:=nt fun z=>far [a,(a - 1)] [(1,.v 0,.v 1),(1,.a (.v 1) (.n 1),.v 0)] rfl z (sF3 (nl fun z248=>far [a] [(1,.a (.n 0) (.n 1),.v 0),(1,.a (.v 0) (.n 1),.n 1)] rfl h0 z248))
theorem Hg (h0 : 0 < a) (h1 : (b + a) = c) (h2 : d ≤ a) : (((b + d) + (a - d)) - 1) = (b + (a - 1)):=na (nl fun z=>far [a,b,d,(a - 1),(a - d),(((b + d) + (a - d)) - 1)] [(1,.a (.a (.v 1) (.v 3)) (.n 1),.v 5),(1,.v 0,.a (.v 3) (.n 1)),(1,.a (.v 5) (.n 1),.a (.a (.v 1) (.v 2)) (.v 4)),(1,.a (.v 4) (.v 2),.v 0)] rfl z (sF1 a 1) (sF3 (nl fun z254=>far [b,d,(a - 1),(a - d),(((b + d) + (a - d)) - 1)] [(1,.a (.a (.v 0) (.v 2)) (.n 1),.v 4),(1,.a (.a (.a (.v 0) (.v 1)) (.v 3)) (.n 1),.n 1),(1,.v 4,.a (.a (.v 0) (.v 1)) (.v 3))] rfl z z254 (Nat.sub_le ((b + d) + (a - d)) 1))) (sF3 (nl fun z258=>far [a,d] [(1,.v 1,.v 0),(1,.a (.v 0) (.n 1),.v 1)] rfl h2 z258))) (nl fun z=>far [a,b,d,(a - d),(((b + d) + (a - d)) - 1),(a - 1)] [(1,.a (.v 4) (.n 1),.a (.v 1) (.v 5)),(1,.a (.a (.v 1) (.v 2)) (.v 3),.a (.v 4) (.n 1)),(1,.v 0,.a (.v 3) (.v 2)),(1,.a (.v 5) (.n 1),.v 0)] rfl z (sF1 ((b + d) + (a - d)) 1) (sF1 a d) (sF3 (nl fun z270=>far [a] [(1,.a (.n 0) (.n 1),.v 0),(1,.a (.v 0) (.n 1),.n 1)] rfl h0 z270)))
theorem Jo (h0 : 0 < a) (h1 : (b + a) = c) (h2 : d < a) : d ≤ (a - 1):=nl fun z=>far [a,d,(a - 1)] [(1,.a (.v 1) (.n 1),.v 0),(1,.a (.v 2) (.n 1),.v 1),(1,.v 0,.a (.v 2) (.n 1))] rfl h2 z (sF1 a 1)
theorem GX (h0 : (a + b) = c) (h1 : d ≤ b) : ((a + b) - (a + d)) ≤ (b - d):=nl fun z=>far [a,b,d,(b - d),((a + b) - (a + d))] [(1,.a (.v 3) (.n 1),.v 4),(1,.v 1,.a (.v 3) (.v 2)),(1,.a (.v 4) (.a (.v 0) (.v 2)),.a (.v 0) (.v 1))] rfl z (sF1 b d) (sF3 (nl fun z279=>far [a,b,d] [(1,.v 2,.v 1),(1,.a (.a (.v 0) (.v 1)) (.n 1),.a (.v 0) (.v 2))] rfl h1 z279))
theorem Jx (h0 : (a + b) = c) (h1 : d ≤ b) : (b - d) ≤ ((a + b) - (a + d)):=nl fun z=>far [a,b,d,((a + b) - (a + d)),(b - d)] [(1,.a (.v 3) (.n 1),.v 4),(1,.a (.v 0) (.v 1),.a (.v 3) (.a (.v 0) (.v 2))),(1,.a (.v 4) (.v 2),.v 1)] rfl z (sF1 (a + b) (a + d)) (sF3 (nl fun z285=>far [b,d] [(1,.v 1,.v 0),(1,.a (.v 0) (.n 1),.v 1)] rfl h1 z285))
theorem G8 (h0 : a ≤ b) : (min a b) = a:=Nat.min_eq_left h0
theorem GO (h0 : 0 < a) (h1 : (b + a) = c) (h2 : d ≤ a) (h3 : ¬((a - d) = 0)) (h4 : ¬(e = 0)) (h5 : f = e) : (d + ((a - d) - 1)) = (a - 1):=(Nat.add_sub_assoc (Nat.pos_of_ne_zero h3) d).symm.trans (congrArg (· - 1) (Nat.add_sub_of_le h2))
theorem Jc (h0 : (a + b) = c) (h1 : d ≤ b) (h2 : ¬(e = 0)) (h3 : f = e) : 0 < e:=Nat.pos_of_ne_zero h2
theorem Jd (h0 : (a + b) = c) (h1 : d ≤ b) : (min d b) = d:=Nat.min_eq_left h1
theorem HN (h0 : (a + b) = c) (h1 : d ≤ b) (h2 : ¬((b - d) = 0)) (h3 : ¬(e = 0)) (h4 : f = (b - d)) (h5 : g = e) : 0 < f:=h4 ▸ Nat.pos_of_ne_zero h2
theorem Gz (h0 : (a + b) = c) (h1 : d ≤ b) (h2 : ¬(e = 0)) (h3 : f = e) : 0 < f:=h3 ▸ Nat.pos_of_ne_zero h2
theorem I8 (h0 : a = (b - c)) (h1 : d = e) (h2 : ¬((b - c) ≤ e)) : 0 < a:=nt fun z=>far [a,(b - c),e] [(1,.v 1,.v 0),(1,.a (.v 2) (.n 1),.v 1),(1,.v 0,.n 0)] rfl (ge h0) (nt h2) z
theorem JU (h0 : (a + b) ≤ c) (h1 : d < a) : b ≤ c:=nl fun z=>far [a,b,c,d] [(1,.a (.v 0) (.v 1),.v 2),(1,.a (.v 3) (.n 1),.v 0),(1,.a (.v 2) (.n 1),.v 1)] rfl h0 h1 z
theorem Ho (h0 : (a + b) ≤ c) (h1 : d < a) (h2 : d = (c - b)) : False:=far [a,b,c,d,(c - b)] [(1,.a (.v 0) (.v 1),.v 2),(1,.a (.v 3) (.n 1),.v 0),(1,.v 4,.v 3),(1,.v 2,.a (.v 4) (.v 1))] rfl h0 h1 (ge h2) (sF1 c b)
theorem Kt (h0 : (a + b) ≤ c) (h1 : d < a) (h2 : ((c - b) < d ∧ d ≤ c)) : False:=far [a,b,c,d,(c - b)] [(1,.a (.v 0) (.v 1),.v 2),(1,.a (.v 3) (.n 1),.v 0),(1,.a (.v 4) (.n 1),.v 3),(1,.v 2,.a (.v 4) (.v 1))] rfl h0 h1 h2.1 (sF1 c b)
theorem GH (h0 : a ≤ b) (h1 : c < a) (h2 : (b ≤ c ∧ c < d)) : False:=far [a,b,c] [(1,.v 0,.v 1),(1,.a (.v 2) (.n 1),.v 0),(1,.v 1,.v 2)] rfl h0 h1 h2.1
theorem Iw (h0 : a ≤ b) (h1 : b ≤ c) (h2 : c < (a + (min (max d 1) e))) (h3 : d = 0) : b = c:=by subst h3; exact Nat.le_antisymm h1 (Nat.le_trans (Nat.le_of_lt_succ (Nat.lt_of_lt_of_le h2 (Nat.add_le_add_left (Nat.min_le_left _ _) a))) h0)
theorem Kw (h0 : a ≤ b) (h1 : c < (d + (min (max a 1) b))) (h2 : ¬(a = 0)) : c < (d + a):=Nat.lt_of_lt_of_le h1 (Nat.add_le_add_left (Nat.le_trans (Nat.min_le_left ..) (Nat.max_le.mpr ⟨Nat.le_refl a,Nat.pos_of_ne_zero h2⟩)) d)
theorem JM : (min (max (max a 1) b) b) = b:=Nat.min_eq_right (Nat.le_max_right _ b)
theorem Is (h0 : a < b) : (min a b) = a:=Nat.min_eq_left (Nat.le_of_lt h0)
theorem FI : a ≤ a:=nl fun z=>far [a] [(1,.a (.v 0) (.n 1),.v 0)] rfl z
theorem Jw : (a - 0) ≤ (a - 0):=nl fun z=>far [(a - 0)] [(1,.a (.v 0) (.n 1),.v 0)] rfl z
theorem HV (h0 : (a + b) < c) (h1 : d ≤ b) (h2 : ¬(e ≥ d)) : (a + ((e + d) / 2)) < c:=nt fun z=>far [a,b,c,d,e,((e + d) / 2)] [(2,.a (.a (.v 0) (.v 1)) (.n 1),.v 2),(2,.v 3,.v 1),(1,.a (.v 4) (.n 1),.v 3),(2,.v 2,.a (.v 0) (.v 5)),(1,.m 2 (.v 5),.a (.v 4) (.v 3))] rfl h0 h1 (nt h2) z (Nat.mul_div_le (e + d) 2)
theorem JF (h0 : ¬(a ≥ b)) : a ≤ ((a + b) / 2):=nl fun z=>far [a,b,((a + b) / 2)] [(1,.a (.v 0) (.n 1),.v 1),(2,.a (.v 2) (.n 1),.v 0),(1,.a (.a (.v 0) (.v 1)) (.n 1),.a (.m 2 (.v 2)) (.n 2))] rfl (nt h0) z (dF (a + b) (Nat.succ_pos 1))
theorem Ig (h0 : a ≤ b) (h1 : ¬(c ≥ a)) : ((c + a) / 2) ≤ b:=nl fun z=>far [a,b,c,((c + a) / 2)] [(2,.v 0,.v 1),(1,.a (.v 2) (.n 1),.v 0),(2,.a (.v 1) (.n 1),.v 3),(1,.m 2 (.v 3),.a (.v 2) (.v 0))] rfl h0 (nt h1) z (Nat.mul_div_le (c + a) 2)
theorem KL (h0 : a < b) (h1 : (c - d) ≤ (b - a)) (h2 : ¬(d ≥ c)) : (((d + c) / 2) - d) ≤ (b - (a + 1)):=nl fun z=>far [a,b,c,d,(c - d),(b - a),(b - (a + 1)),((d + c) / 2),(((d + c) / 2) - d)] [(1,.v 4,.v 5),(2,.a (.v 6) (.n 1),.v 8),(1,.v 2,.a (.v 4) (.v 3)),(1,.a (.v 5) (.v 0),.v 1),(1,.v 1,.a (.v 6) (.a (.v 0) (.n 1))),(2,.a (.v 8) (.v 3),.v 7),(1,.m 2 (.v 7),.a (.v 3) (.v 2))] rfl h1 z (sF1 c d) (sF3 (nl fun z332=>far [a,b] [(1,.a (.v 0) (.n 1),.v 1),(1,.a (.v 1) (.n 1),.v 0)] rfl h0 z332)) (sF1 b (a + 1)) (sF3 (nl fun z342=>far [d,(b - (a + 1)),((d + c) / 2),(((d + c) / 2) - d)] [(1,.a (.v 1) (.n 1),.v 3),(1,.a (.v 2) (.n 1),.v 0),(1,.a (.v 3) (.v 0),.v 2)] rfl z z342 (sF3 (nl fun z346=>far [c,d,((d + c) / 2)] [(1,.a (.v 1) (.n 1),.v 0),(2,.a (.v 2) (.n 1),.v 1),(1,.a (.a (.v 1) (.v 0)) (.n 1),.a (.m 2 (.v 2)) (.n 2))] rfl (nt h2) z342 (dF (d + c) (Nat.succ_pos 1)))))) (Nat.mul_div_le (d + c) 2)
theorem Kb (h0 : ¬(a ≥ b)) : c ≤ (c + ((a + b) / 2)):=nl fun z=>far [c,((a + b) / 2)] [(1,.a (.a (.v 0) (.v 1)) (.n 1),.v 0)] rfl z
theorem JV (h0 : ¬(a ≥ b)) : (((a + b) / 2) + 1) ≤ b:=nl fun z=>far [a,b,((a + b) / 2)] [(1,.a (.v 0) (.n 1),.v 1),(2,.a (.v 1) (.n 1),.a (.v 2) (.n 1)),(1,.m 2 (.v 2),.a (.v 0) (.v 1))] rfl (nt h0) z (Nat.mul_div_le (a + b) 2)
theorem IH (h0 : a < b) (h1 : (c - d) ≤ (b - a)) (h2 : ¬(d ≥ c)) : (c - (((d + c) / 2) + 1)) ≤ (b - (a + 1)):=nl fun z=>far [a,b,c,d,(c - d),(b - a),(b - (a + 1)),((d + c) / 2),(c - (((d + c) / 2) + 1))] [(1,.v 4,.v 5),(2,.a (.v 6) (.n 1),.v 8),(1,.v 2,.a (.v 4) (.v 3)),(1,.a (.v 5) (.v 0),.v 1),(1,.v 1,.a (.v 6) (.a (.v 0) (.n 1))),(2,.a (.v 8) (.a (.v 7) (.n 1)),.v 2),(1,.a (.a (.v 3) (.v 2)) (.n 1),.a (.m 2 (.v 7)) (.n 2))] rfl h1 z (sF1 c d) (sF3 (nl fun z352=>far [a,b] [(1,.a (.v 0) (.n 1),.v 1),(1,.a (.v 1) (.n 1),.v 0)] rfl h0 z352)) (sF1 b (a + 1)) (sF3 (nl fun z362=>far [c,(b - (a + 1)),((d + c) / 2),(c - (((d + c) / 2) + 1))] [(1,.a (.v 1) (.n 1),.v 3),(1,.a (.v 0) (.n 1),.a (.v 2) (.n 1)),(1,.a (.v 3) (.a (.v 2) (.n 1)),.v 0)] rfl z z362 (sF3 (nl fun z366=>far [c,d,((d + c) / 2)] [(1,.a (.v 1) (.n 1),.v 0),(2,.a (.v 0) (.n 1),.a (.v 2) (.n 1)),(1,.m 2 (.v 2),.a (.v 1) (.v 0))] rfl (nt h2) z362 (Nat.mul_div_le (d + c) 2))))) (dF (d + c) (Nat.succ_pos 1))
theorem GN (h0 : a < (b + (((c + d) / 2) + 1))) : a ≤ (b + ((c + d) / 2)):=nl fun z=>far [a,b,((c + d) / 2)] [(1,.a (.v 0) (.n 1),.a (.v 1) (.a (.v 2) (.n 1))),(1,.a (.a (.v 1) (.v 2)) (.n 1),.v 0)] rfl h0 z
theorem JO (h0 : a ≤ b) (h1 : ¬(c ≥ a)) : (d + ((c + a) / 2)) < (d + b):=nt fun z=>far [a,b,c,d,((c + a) / 2)] [(2,.v 0,.v 1),(1,.a (.v 2) (.n 1),.v 0),(2,.a (.v 3) (.v 1),.a (.v 3) (.v 4)),(1,.m 2 (.v 4),.a (.v 2) (.v 0))] rfl h0 (nt h1) z (Nat.mul_div_le (c + a) 2)
theorem Kz (h0 : a ≤ b) : (c + ((c + b) - (c + a))) ≤ (c + b):=nl fun z=>far [a,b,c,((c + b) - (c + a))] [(1,.a (.a (.v 2) (.v 1)) (.n 1),.a (.v 2) (.v 3)),(1,.a (.v 3) (.a (.v 2) (.v 0)),.a (.v 2) (.v 1))] rfl z (sF3 (nl fun z367=>far [a,b,c] [(1,.v 0,.v 1),(1,.a (.a (.v 2) (.v 1)) (.n 1),.a (.v 2) (.v 0))] rfl h0 z367))
theorem IY (h0 : a < b) : (min (a + 1) b) = (a + 1):=Nat.min_eq_left h0
theorem E3 (h0 : a ≤ b) : ((c + b) - (c + a)) ≤ (c + b):=nl fun z=>far [b,c,((c + b) - (c + a))] [(1,.a (.a (.v 1) (.v 0)) (.n 1),.v 2),(1,.v 2,.a (.v 1) (.v 0))] rfl z (Nat.sub_le (c + b) (c + a))
theorem HK (h0 : a ≤ b) : ((c + b) - ((c + b) - (c + a))) = (c + a):=na (nl fun z=>far [a,b,c,((c + b) - (c + a)),((c + b) - ((c + b) - (c + a)))] [(1,.a (.a (.v 2) (.v 0)) (.n 1),.v 4),(1,.a (.v 4) (.v 3),.a (.v 2) (.v 1)),(1,.a (.v 2) (.v 1),.a (.v 3) (.a (.v 2) (.v 0)))] rfl z (sF3 (nl fun z371=>far [a,b,c,((c + b) - (c + a)),((c + b) - ((c + b) - (c + a)))] [(1,.a (.a (.v 2) (.v 0)) (.n 1),.v 4),(1,.a (.a (.v 2) (.v 1)) (.n 1),.v 3),(1,.a (.v 4) (.v 3),.a (.v 2) (.v 1))] rfl z z371 (sF3 (nl fun z372=>far [b,c,((c + b) - (c + a))] [(1,.a (.a (.v 1) (.v 0)) (.n 1),.v 2),(1,.v 2,.a (.v 1) (.v 0))] rfl z371 (Nat.sub_le (c + b) (c + a)))))) (sF1 (c + b) (c + a))) (nl fun z=>far [a,b,c,((c + b) - (c + a)),((c + b) - ((c + b) - (c + a)))] [(1,.a (.v 4) (.n 1),.a (.v 2) (.v 0)),(1,.a (.v 2) (.v 1),.a (.v 4) (.v 3)),(1,.a (.v 3) (.a (.v 2) (.v 0)),.a (.v 2) (.v 1))] rfl z (sF1 (c + b) ((c + b) - (c + a))) (sF3 (nl fun z380=>far [a,b,c] [(1,.v 0,.v 1),(1,.a (.a (.v 2) (.v 1)) (.n 1),.a (.v 2) (.v 0))] rfl h0 z380)))
theorem KY (h0 : a ≤ b) (h1 : b < (c + (d + 1))) (h2 : ¬(a = (c + e))) (h3 : ¬(((c + e) < a ∧ a ≤ (c + d)))) (h4 : b = (c + e)) : a < (c + e):=Nat.lt_of_le_of_ne (Nat.le_of_not_lt fun h=>h3 ⟨h,Nat.le_of_lt_succ (Nat.lt_of_le_of_lt h0 h1)⟩) h2
theorem K1 (h0 : a = (b + c)) (h1 : ((b + c) < d ∧ d ≤ (b + e))) : (b + c) ≤ (d - 1):=nl fun z=>far [b,c,d,(d - 1)] [(1,.a (.a (.v 0) (.v 1)) (.n 1),.v 2),(1,.a (.v 3) (.n 1),.a (.v 0) (.v 1)),(1,.v 2,.a (.v 3) (.n 1))] rfl h1.1 z (sF1 d 1)
theorem KU (h0 : a < (b + (c + 1))) (h1 : d = (b + e)) (h2 : ((b + e) < a ∧ a ≤ (b + c))) : (a - 1) < (b + c):=nt fun z=>far [a,b,c,(a - 1)] [(1,.a (.v 0) (.n 1),.a (.v 1) (.a (.v 2) (.n 1))),(1,.a (.v 1) (.v 2),.v 3),(1,.a (.v 3) (.n 1),.v 0)] rfl h0 z (sF3 (nl fun z385=>far [a,b,e] [(1,.a (.a (.v 1) (.v 2)) (.n 1),.v 0),(1,.a (.v 0) (.n 1),.n 1)] rfl h2.1 z385))
theorem FA (h0 : a < (b + (c + 1))) (h1 : ¬(a < (b + c))) : a = (b + c):=na (nl fun z=>far [a,b,c] [(1,.a (.v 0) (.n 1),.a (.v 1) (.a (.v 2) (.n 1))),(1,.a (.a (.v 1) (.v 2)) (.n 1),.v 0)] rfl h0 z) (nl fun z=>far [a,b,c] [(1,.a (.v 1) (.v 2),.v 0),(1,.a (.v 0) (.n 1),.a (.v 1) (.v 2))] rfl (nl h1) z)
theorem F9 (h0 : 1 ≤ a) (h1 : b ≤ (c + a)) (h2 : ¬(b = (c + a))) : b ≤ ((c + a) - 1):=Nat.le_sub_one_of_lt (Nat.lt_of_le_of_ne h1 h2)
theorem EY (h0 : 1 ≤ a) (h1 : b ≤ (c + a)) : ((c + a) - 1) < (c + a):=nt fun z=>far [a,c,((c + a) - 1)] [(1,.a (.v 1) (.v 0),.v 2),(1,.a (.v 2) (.n 1),.a (.v 1) (.v 0))] rfl z (sF3 (nl fun z389=>far [a,c] [(1,.n 1,.v 0),(1,.a (.a (.v 1) (.v 0)) (.n 1),.n 1)] rfl h0 z389))
theorem F1 (h0 : a ≤ b) (h1 : b ≤ c) (h2 : c < (a + 1)) : b = c:=na (nl fun z=>far [b,c] [(1,.v 0,.v 1),(1,.a (.v 1) (.n 1),.v 0)] rfl h1 z) (nl fun z=>far [a,b,c] [(1,.v 0,.v 1),(1,.a (.v 2) (.n 1),.a (.v 0) (.n 1)),(1,.a (.v 1) (.n 1),.v 2)] rfl h0 h2 z)
theorem xW (h0 : (a + b) ≤ c) (h1 : d ≤ b) : (a + d) ≤ c:=nl fun z=>far [a,b,c,d] [(1,.a (.v 0) (.v 1),.v 2),(1,.v 3,.v 1),(1,.a (.v 2) (.n 1),.a (.v 0) (.v 3))] rfl h0 h1 z
theorem JH (h0 : a ≤ b) (h1 : b ≤ c) (h2 : c < (a + d)) : (a ≤ b ∧ b < (a + d)):=⟨h0,Nat.lt_of_le_of_lt h1 h2⟩
theorem JY (h0 : a ≤ b) (h1 : b ≤ c) (h2 : c < (a + d)) : (a ≤ c ∧ c < (a + d)):=⟨Nat.le_trans h0 h1,h2⟩
theorem IJ (h0 : a < (b + c)) : b ≤ (((b + (b + c)) - 1) - a):=nl fun z=>far [a,b,c,((b + (b + c)) - 1),(((b + (b + c)) - 1) - a)] [(1,.a (.v 0) (.n 1),.a (.v 1) (.v 2)),(1,.a (.v 4) (.n 1),.v 1),(1,.v 3,.a (.v 4) (.v 0)),(1,.a (.v 1) (.a (.v 1) (.v 2)),.a (.v 3) (.n 1))] rfl h0 z (sF1 ((b + (b + c)) - 1) a) (sF1 (b + (b + c)) 1)
theorem Ia (h0 : a ≤ b) (h1 : b < (c + d)) : (((c + (c + d)) - 1) - b) ≤ (((c + (c + d)) - 1) - a):=nl fun z=>far [a,b,((c + (c + d)) - 1),(((c + (c + d)) - 1) - a),(((c + (c + d)) - 1) - b)] [(1,.v 0,.v 1),(1,.a (.v 3) (.n 1),.v 4),(1,.v 2,.a (.v 3) (.v 0)),(1,.a (.v 4) (.v 1),.v 2)] rfl h0 z (sF1 ((c + (c + d)) - 1) a) (sF3 (nl fun z405=>far [b,((c + (c + d)) - 1),(((c + (c + d)) - 1) - a),(((c + (c + d)) - 1) - b)] [(1,.a (.v 2) (.n 1),.v 3),(1,.a (.v 1) (.n 1),.v 0),(1,.a (.v 3) (.v 0),.v 1)] rfl z z405 (sF3 (nl fun z408=>far [b,c,d,((c + (c + d)) - 1)] [(1,.a (.v 0) (.n 1),.a (.v 1) (.v 2)),(1,.a (.v 3) (.n 1),.v 0),(1,.a (.v 1) (.a (.v 1) (.v 2)),.a (.v 3) (.n 1))] rfl h1 z405 (sF1 (c + (c + d)) 1)))))
theorem Hv (h0 : a ≤ b) (h1 : c < (a + d)) : (((a + (a + d)) - 1) - b) < (a + d):=nt fun z=>far [a,b,d,((a + (a + d)) - 1),(((a + (a + d)) - 1) - b)] [(1,.v 0,.v 1),(1,.a (.v 0) (.v 2),.v 4),(1,.a (.v 4) (.v 1),.v 3),(1,.a (.v 3) (.n 1),.a (.v 0) (.a (.v 0) (.v 2)))] rfl h0 z (sF3 (nl fun z409=>far [a,c,d,(((a + (a + d)) - 1) - b)] [(1,.a (.v 1) (.n 1),.a (.v 0) (.v 2)),(1,.a (.v 0) (.v 2),.v 3),(1,.v 3,.n 0)] rfl h1 z (sF0 (nl fun z411=>far [b,((a + (a + d)) - 1)] [(1,.a (.v 1) (.n 1),.v 0),(1,.a (.v 0) (.n 1),.v 1)] rfl z409 z411)))) (sF3 (nl fun z413=>far [a,c,d,((a + (a + d)) - 1),(((a + (a + d)) - 1) - b)] [(1,.a (.v 1) (.n 1),.a (.v 0) (.v 2)),(1,.a (.v 0) (.v 2),.v 4),(1,.a (.a (.v 0) (.a (.v 0) (.v 2))) (.n 1),.n 1),(1,.v 4,.v 3),(1,.v 3,.a (.v 0) (.a (.v 0) (.v 2)))] rfl h1 z z413 (Nat.sub_le ((a + (a + d)) - 1) b) (Nat.sub_le (a + (a + d)) 1)))
theorem ET (h0 : 1 ≤ a) (h1 : a ≤ b) : 1 ≤ b:=nl fun z=>far [a,b] [(1,.n 1,.v 0),(1,.v 0,.v 1),(1,.a (.v 1) (.n 1),.n 1)] rfl h0 h1 z
theorem HC (h0 : (a + b) ≤ c) (h1 : 1 ≤ d) (h2 : d ≤ e) (h3 : e < b) : ((a + e) - 1) < c:=nt fun z=>far [a,b,c,e,((a + e) - 1)] [(1,.a (.v 0) (.v 1),.v 2),(1,.a (.v 3) (.n 1),.v 1),(1,.v 2,.v 4),(1,.v 4,.a (.v 0) (.v 3))] rfl h0 h3 z (Nat.sub_le (a + e) 1)
theorem Ea (h0 : a < b) : a ≤ b:=nl fun z=>far [a,b] [(1,.a (.v 0) (.n 1),.v 1),(1,.a (.v 1) (.n 1),.v 0)] rfl h0 z
theorem D2 : (0 + 1) ≤ (a + 1):=nl fun z=>far [a] [(1,.a (.a (.v 0) (.n 1)) (.n 1),.a (.n 0) (.n 1))] rfl z
theorem GR (h0 : ((a + (b + 1)) - (0 + 1)) ≤ c) (h1 : c < (a + (b + 1))) : c = ((a + (b + 1)) - 1):=na (nl fun z=>far [a,b,c,((a + (b + 1)) - 1)] [(1,.a (.v 2) (.n 1),.a (.v 0) (.a (.v 1) (.n 1))),(1,.a (.v 3) (.n 1),.v 2),(1,.a (.v 0) (.a (.v 1) (.n 1)),.a (.v 3) (.n 1))] rfl h1 z (sF1 (a + (b + 1)) 1)) (nl fun z=>far [a,b,((a + (b + 1)) - (0 + 1)),c,((a + (b + 1)) - 1)] [(1,.v 2,.v 3),(1,.a (.v 3) (.n 1),.v 4),(1,.a (.v 0) (.a (.v 1) (.n 1)),.a (.v 2) (.a (.n 0) (.n 1))),(1,.a (.v 4) (.n 1),.a (.v 0) (.a (.v 1) (.n 1)))] rfl h0 z (sF1 (a + (b + 1)) (0 + 1)) (sF3 (nl fun z427=>far [a,b] [(1,.a (.a (.v 0) (.a (.v 1) (.n 1))) (.n 1),.n 1)] rfl z427)))
theorem Kc (h0 : (a + 1) ≤ b) (h1 : a > 0) : 1 ≤ b:=nl fun z=>far [a,b] [(1,.a (.v 0) (.n 1),.v 1),(1,.a (.n 0) (.n 1),.v 0),(1,.a (.v 1) (.n 1),.n 1)] rfl h0 h1 z
theorem FD (h0 : (a + 1) ≤ b) : c ≤ ((c + b) - (a + 1)):=nl fun z=>far [a,b,c,((c + b) - (a + 1))] [(1,.a (.v 0) (.n 1),.v 1),(1,.a (.v 3) (.n 1),.v 2),(1,.a (.v 2) (.v 1),.a (.v 3) (.a (.v 0) (.n 1)))] rfl h0 z (sF1 (c + b) (a + 1))
theorem Hl (h0 : (a + 1) ≤ b) (h1 : ¬(a > 0)) : 1 ≤ b:=nl fun z=>far [a,b] [(1,.a (.v 0) (.n 1),.v 1),(1,.a (.v 1) (.n 1),.n 1)] rfl h0 z
theorem Gu (h0 : (a + b) ≤ c) (h1 : d < b) : (a + d) ≤ c:=nl fun z=>far [a,b,c,d] [(1,.a (.v 0) (.v 1),.v 2),(1,.a (.v 3) (.n 1),.v 1),(1,.a (.v 2) (.n 1),.a (.v 0) (.v 3))] rfl h0 h1 z
theorem Ga (h0 : (a + b) ≤ c) (h1 : d < b) (h2 : (e + 1) ≤ d) : ((a + d) - 1) < c:=nt fun z=>far [a,b,c,d,((a + d) - 1)] [(1,.a (.v 0) (.v 1),.v 2),(1,.a (.v 3) (.n 1),.v 1),(1,.v 2,.v 4),(1,.v 4,.a (.v 0) (.v 3))] rfl h0 h1 z (Nat.sub_le (a + d) 1)
theorem EX (h0 : (a + 1) ≤ b) : 1 ≤ b:=nl fun z=>far [a,b] [(1,.a (.v 0) (.n 1),.v 1),(1,.a (.v 1) (.n 1),.n 1)] rfl h0 z
theorem EI (h0 : (a + 1) ≤ b) (h1 : ((c + (b + 1)) - (0 + 1)) ≤ d) (h2 : d < (c + (b + 1))) : d = ((c + (b + 1)) - 1):=na (nl fun z=>far [b,c,d,((c + (b + 1)) - 1)] [(1,.a (.v 2) (.n 1),.a (.v 1) (.a (.v 0) (.n 1))),(1,.a (.v 3) (.n 1),.v 2),(1,.a (.v 1) (.a (.v 0) (.n 1)),.a (.v 3) (.n 1))] rfl h2 z (sF1 (c + (b + 1)) 1)) (nl fun z=>far [b,c,((c + (b + 1)) - (0 + 1)),d,((c + (b + 1)) - 1)] [(1,.v 2,.v 3),(1,.a (.v 3) (.n 1),.v 4),(1,.a (.v 1) (.a (.v 0) (.n 1)),.a (.v 2) (.a (.n 0) (.n 1))),(1,.a (.v 4) (.n 1),.a (.v 1) (.a (.v 0) (.n 1)))] rfl h1 z (sF1 (c + (b + 1)) (0 + 1)) (sF3 (nl fun z443=>far [a,b,c] [(1,.a (.v 0) (.n 1),.v 1),(1,.a (.a (.v 2) (.a (.v 1) (.n 1))) (.n 1),.n 1)] rfl h0 z443)))
theorem Iz {a b : Int} (h0 : ¬(a < b)) (h1 : ¬(b < a)) : a = b:=Int.le_antisymm (Int.not_lt.mp h1) (Int.not_lt.mp h0)
theorem Ip (h0 : (a + 1) ≤ b) : ((a + 1) + 1) ≤ (b + 1):=nl fun z=>far [a,b] [(1,.a (.v 0) (.n 1),.v 1),(1,.a (.a (.v 1) (.n 1)) (.n 1),.a (.a (.v 0) (.n 1)) (.n 1))] rfl h0 z
theorem IT (h0 : (a + 1) ≤ b) : ((c + (b + 1)) - 1) = (c + b):=na (nl fun z=>far [b,c,((c + (b + 1)) - 1)] [(1,.a (.a (.v 1) (.v 0)) (.n 1),.v 2),(1,.a (.v 2) (.n 1),.a (.v 1) (.a (.v 0) (.n 1)))] rfl z (sF3 (nl fun z446=>far [a,b,c] [(1,.a (.v 0) (.n 1),.v 1),(1,.a (.a (.v 2) (.a (.v 1) (.n 1))) (.n 1),.n 1)] rfl h0 z446))) (nl fun z=>far [b,c,((c + (b + 1)) - 1)] [(1,.a (.v 2) (.n 1),.a (.v 1) (.v 0)),(1,.a (.v 1) (.a (.v 0) (.n 1)),.a (.v 2) (.n 1))] rfl z (sF1 (c + (b + 1)) 1))
theorem HR (h0 : (a + 1) ≤ b) (h1 : ((c + (b + 1)) - ((a + 1) + 1)) ≤ d) (h2 : d < (c + (b + 1))) (h3 : ¬(d = (c + b))) : ((c + b) - (a + 1)) ≤ d:=nl fun z=>far [a,b,c,((c + (b + 1)) - ((a + 1) + 1)),d,((c + b) - (a + 1))] [(1,.v 3,.v 4),(1,.a (.v 4) (.n 1),.v 5),(1,.a (.v 2) (.a (.v 1) (.n 1)),.a (.v 3) (.a (.a (.v 0) (.n 1)) (.n 1))),(1,.a (.v 5) (.a (.v 0) (.n 1)),.a (.v 2) (.v 1))] rfl h1 z (sF1 (c + (b + 1)) ((a + 1) + 1)) (sF3 (nl fun z453=>far [a,b,c] [(1,.a (.v 0) (.n 1),.v 1),(1,.a (.a (.v 2) (.v 1)) (.n 1),.a (.v 0) (.n 1))] rfl h0 z453))
theorem IP (h0 : a < (b + (c + 1))) (h1 : ¬(a = (b + c))) : a < (b + c):=Nat.lt_of_le_of_ne (Nat.le_of_lt_succ h0) h1
theorem Jq (h0 : (a + b) ≤ c) (h1 : 1 ≤ d) (h2 : d < b) : ((a + d) - 1) < c:=nt fun z=>far [a,b,c,d,((a + d) - 1)] [(1,.a (.v 0) (.v 1),.v 2),(1,.a (.v 3) (.n 1),.v 1),(1,.v 2,.v 4),(1,.v 4,.a (.v 0) (.v 3))] rfl h0 h2 z (Nat.sub_le (a + d) 1)
theorem IU (h0 : (a + b) ≤ c) (h1 : 1 ≤ b) : a < c:=nt fun z=>far [a,b,c] [(1,.a (.v 0) (.v 1),.v 2),(1,.n 1,.v 1),(1,.v 2,.v 0)] rfl h0 h1 z
theorem IW (h0 : (a + b) ≤ c) (h1 : d ≤ b) (h2 : d > 1) : ((a + d) - 1) < c:=nt fun z=>far [a,b,c,d,((a + d) - 1)] [(1,.a (.v 0) (.v 1),.v 2),(1,.v 3,.v 1),(1,.v 2,.v 4),(1,.a (.v 4) (.n 1),.a (.v 0) (.v 3))] rfl h0 h1 z (sF3 (nl fun z458=>far [a,d] [(1,.a (.n 1) (.n 1),.v 1),(1,.a (.a (.v 0) (.v 1)) (.n 1),.n 1)] rfl h2 z458))
theorem HF (h0 : a < (b + c)) : a ≤ ((b + c) - 1):=nl fun z=>far [a,b,c,((b + c) - 1)] [(1,.a (.v 0) (.n 1),.a (.v 1) (.v 2)),(1,.a (.v 3) (.n 1),.v 0),(1,.a (.v 1) (.v 2),.a (.v 3) (.n 1))] rfl h0 z (sF1 (b + c) 1)
theorem JG (h0 : a > 1) : ((b + a) - 1) < (b + a):=nt fun z=>far [a,b,((b + a) - 1)] [(1,.a (.v 1) (.v 0),.v 2),(1,.a (.v 2) (.n 1),.a (.v 1) (.v 0))] rfl z (sF3 (nl fun z462=>far [a,b] [(1,.a (.n 1) (.n 1),.v 0),(1,.a (.a (.v 1) (.v 0)) (.n 1),.n 1)] rfl h0 z462))
theorem IM (h0 : a ≤ b) (h1 : ¬(a = b)) : (a + 1) ≤ b:=Nat.lt_of_le_of_ne h0 h1
theorem H5 (h0 : a ≤ b) (h1 : b < (c + d)) : a < (c + d):=nt fun z=>far [a,b,c,d] [(1,.v 0,.v 1),(1,.a (.v 1) (.n 1),.a (.v 2) (.v 3)),(1,.a (.v 2) (.v 3),.v 0)] rfl h0 h1 z
theorem ED (h0 : a ≤ b) (h1 : b ≤ c) : a ≤ c:=nl fun z=>far [a,b,c] [(1,.v 0,.v 1),(1,.v 1,.v 2),(1,.a (.v 2) (.n 1),.v 0)] rfl h0 h1 z
theorem KN (h0 : 1 ≤ a) (h1 : ¬(a > 1)) : a = 1:=na (nl fun z=>far [a] [(1,.v 0,.n 1),(1,.a (.n 1) (.n 1),.v 0)] rfl (nl h1) z) (nl fun z=>far [a] [(1,.n 1,.v 0),(1,.a (.v 0) (.n 1),.n 1)] rfl h0 z)
theorem JB (h0 : 1 ≤ a) (h1 : ¬(1 = a)) : (1 + 1) ≤ a:=Nat.lt_of_le_of_ne h0 h1
theorem Jh (h0 : (a + 1) < b) : (min a b) = a:=Nat.min_eq_left (Nat.le_of_lt (Nat.lt_of_succ_lt h0))
theorem Ih (h0 : (a + 1) < b) : a < b:=nt fun z=>far [a,b] [(1,.a (.a (.v 0) (.n 1)) (.n 1),.v 1),(1,.v 1,.v 0)] rfl h0 z
theorem HP : ((a + (b + 1)) + 1) = (a + ((b + 1) + 1)):=na (nl fun z=>far [a,b] [(1,.a (.a (.v 0) (.a (.a (.v 1) (.n 1)) (.n 1))) (.n 1),.a (.a (.v 0) (.a (.v 1) (.n 1))) (.n 1))] rfl z) (nl fun z=>far [a,b] [(1,.a (.a (.a (.v 0) (.a (.v 1) (.n 1))) (.n 1)) (.n 1),.a (.v 0) (.a (.a (.v 1) (.n 1)) (.n 1)))] rfl z)
theorem H7 (h0 : 0 = (a + b)) : a = 0:=na (nl fun z=>far [a,b] [(1,.a (.v 0) (.v 1),.n 0),(1,.a (.n 0) (.n 1),.v 0)] rfl (ge h0) z) (nl fun z=>far [a] [(1,.a (.v 0) (.n 1),.n 0)] rfl z)
theorem IC (h0 : a < b) : (c + a) ≤ (c + b):=nl fun z=>far [a,b,c] [(1,.a (.v 0) (.n 1),.v 1),(1,.a (.a (.v 2) (.v 1)) (.n 1),.a (.v 2) (.v 0))] rfl h0 z
theorem Hh (h0 : a < (min b c)) : (d + a) < (d + b):=nt fun z=>far [a,b,(min b c),d] [(1,.a (.v 0) (.n 1),.v 2),(1,.a (.v 3) (.v 1),.a (.v 3) (.v 0)),(1,.v 2,.v 1)] rfl h0 z (Nat.min_le_left b c)
theorem Iv (h0 : (a + b) ≤ c) (h1 : d < (min b e)) : (a + d) < c:=nt fun z=>far [a,b,c,d,(min b e)] [(1,.a (.v 0) (.v 1),.v 2),(1,.a (.v 3) (.n 1),.v 4),(1,.v 2,.a (.v 0) (.v 3)),(1,.v 4,.v 1)] rfl h0 h1 z (Nat.min_le_left b e)
theorem I0 (h0 : (a + b) ≤ c) (h1 : d < (min b e)) (h2 : f < (min b e)) : (a + f) < c:=nt fun z=>far [a,b,c,(min b e),f] [(1,.a (.v 0) (.v 1),.v 2),(1,.a (.v 4) (.n 1),.v 3),(1,.v 2,.a (.v 0) (.v 4)),(1,.v 3,.v 1)] rfl h0 h2 z (Nat.min_le_left b e)
theorem HB (h0 : (a + b) ≤ c) (h1 : d = c) : (a + b) ≤ d:=nl fun z=>far [a,b,c,d] [(1,.a (.v 0) (.v 1),.v 2),(1,.v 2,.v 3),(1,.a (.v 3) (.n 1),.a (.v 0) (.v 1))] rfl h0 (ge h1) z
theorem KC (h0 : (a + b) ≤ c) (h1 : d = c) : (min b (d - a)) = b:=Nat.min_eq_left (h1 ▸ Nat.le_sub_of_add_le' h0)
theorem Gr (h0 : ¬(a < b)) : b ≤ a:=nl fun z=>far [b,a] [(1,.v 0,.v 1),(1,.a (.v 1) (.n 1),.v 0)] rfl (nl h0) z
theorem Kk (h0 : 1 ≤ a) (h1 : 0 = a) : False:=far [a] [(1,.n 1,.v 0),(1,.v 0,.n 0)] rfl h0 (ge h1)
theorem IG (h0 : (max 0 a) ≤ b) (h1 : (b + c) = a) : c = 0:=na (nl fun z=>far [a,(max 0 a),b,c] [(1,.v 1,.v 2),(1,.a (.v 2) (.v 3),.v 0),(1,.a (.n 0) (.n 1),.v 3),(1,.v 0,.v 1)] rfl h0 (qe h1) z (Nat.le_max_right 0 a)) (nl fun z=>far [c] [(1,.a (.v 0) (.n 1),.n 0)] rfl z)
theorem G9 (h0 : (a + b) = c) (h1 : a ≥ c) : b = 0:=na (nl fun z=>far [a,b,c] [(1,.a (.v 0) (.v 1),.v 2),(1,.v 2,.v 0),(1,.a (.n 0) (.n 1),.v 1)] rfl (qe h0) h1 z) (nl fun z=>far [b] [(1,.a (.v 0) (.n 1),.n 0)] rfl z)
theorem I4 (h0 : (a + b) = c) (h1 : ¬(a ≥ c)) (h2 : d = c) : (a + (c - a)) ≤ d:=nl fun z=>far [a,c,d,(c - a)] [(1,.v 1,.v 2),(1,.a (.v 2) (.n 1),.a (.v 0) (.v 3)),(1,.a (.v 3) (.v 0),.v 1)] rfl (ge h2) z (sF3 (nl fun z468=>far [a,c] [(1,.a (.v 0) (.n 1),.v 1),(1,.a (.v 1) (.n 1),.v 0)] rfl (nt h1) z468))
theorem I5 (h0 : (a + b) = c) (h1 : ¬(a ≥ c)) : 1 ≤ (c - a):=nl fun z=>far [a,c,(c - a)] [(1,.a (.v 0) (.n 1),.v 1),(1,.a (.v 2) (.n 1),.n 1),(1,.v 1,.a (.v 2) (.v 0))] rfl (nt h1) z (sF1 c a)
theorem IR (h0 : (a + b) = c) (h1 : ¬(a ≥ c)) (h2 : d = c) : (a + (min (c - a) e)) ≤ d:=nl fun z=>far [a,c,d,(c - a),(min (c - a) e)] [(1,.v 1,.v 2),(1,.a (.v 2) (.n 1),.a (.v 0) (.v 4)),(1,.v 4,.v 3),(1,.a (.v 3) (.v 0),.v 1)] rfl (ge h2) z (Nat.min_le_left (c - a) e) (sF3 (nl fun z472=>far [a,c] [(1,.a (.v 0) (.n 1),.v 1),(1,.a (.v 1) (.n 1),.v 0)] rfl (nt h1) z472))
theorem KA (h0 : a ≤ (b - c)) (h1 : a < d) : a ≤ (min (b - c) d):=Nat.le_min.mpr ⟨h0,Nat.le_of_lt h1⟩
theorem Ky (h0 : 1 ≤ a) (h1 : a ≤ (b - c)) (h2 : a < d) : 1 ≤ (min (b - c) d):=Nat.le_min.mpr ⟨Nat.le_trans h0 h1,Nat.le_trans h0 (Nat.le_of_lt h2)⟩
theorem HS (h0 : (a + b) = c) (h1 : ¬(a ≥ c)) : (a + (min (c - a) d)) ≤ c:=nl fun z=>far [a,c,(c - a),(min (c - a) d)] [(1,.a (.v 1) (.n 1),.a (.v 0) (.v 3)),(1,.v 3,.v 2),(1,.a (.v 2) (.v 0),.v 1)] rfl z (Nat.min_le_left (c - a) d) (sF3 (nl fun z480=>far [a,c] [(1,.a (.v 0) (.n 1),.v 1),(1,.a (.v 1) (.n 1),.v 0)] rfl (nt h1) z480))
theorem Il (h0 : (a + b) = c) (h1 : ¬(a ≥ c)) (h2 : d ≤ (c - a)) : (a + d) ≤ c:=nl fun z=>far [a,c,d,(c - a)] [(1,.v 2,.v 3),(1,.a (.v 1) (.n 1),.a (.v 0) (.v 2)),(1,.a (.v 3) (.v 0),.v 1)] rfl h2 z (sF3 (nl fun z482=>far [a,c] [(1,.a (.v 0) (.n 1),.v 1),(1,.a (.v 1) (.n 1),.v 0)] rfl (nt h1) z482))
theorem Kn (h0 : a = b) (h1 : a ≤ 1) : b ≤ 1:=nl fun z=>far [a,b] [(1,.v 1,.v 0),(1,.v 0,.n 1),(1,.a (.n 1) (.n 1),.v 1)] rfl (ge h0) h1 z
theorem Iu (h0 : (a + b) ≤ c) (h1 : d = b) (h2 : (e + 1) = b) : ((a + 1) + e) ≤ c:=nl fun z=>far [a,b,c,e] [(1,.a (.v 0) (.v 1),.v 2),(1,.a (.v 3) (.n 1),.v 1),(1,.a (.v 2) (.n 1),.a (.a (.v 0) (.n 1)) (.v 3))] rfl h0 (qe h2) z
theorem JW (h0 : ((max 0 a) + b) ≤ a) : b ≤ 1:=nl fun z=>far [a,(max 0 a),b] [(1,.a (.v 1) (.v 2),.v 0),(1,.a (.n 1) (.n 1),.v 2),(1,.v 0,.v 1)] rfl h0 z (Nat.le_max_right 0 a)
theorem EP (h0 : a ≤ b) (h1 : c = a) : a ≤ (b + 1):=nl fun z=>far [a,b] [(1,.v 0,.v 1),(1,.a (.a (.v 1) (.n 1)) (.n 1),.v 0)] rfl h0 z
theorem KJ (h0 : a = b) (h1 : a < 2) (h2 : c ≤ d) (h3 : d < b) : c = d:=na (nl fun z=>far [c,d] [(1,.v 0,.v 1),(1,.a (.v 1) (.n 1),.v 0)] rfl h2 z) (nl fun z=>far [a,b,c,d] [(1,.v 1,.v 0),(1,.a (.v 0) (.n 1),.n 2),(1,.a (.v 3) (.n 1),.v 1),(1,.a (.v 2) (.n 1),.v 3)] rfl (ge h0) h1 h3 z)
theorem DB (h0 : ¬(a < b)) (h1 : a < (b + 1)) : a = b:=na (nl fun z=>far [b,a] [(1,.a (.v 1) (.n 1),.a (.v 0) (.n 1)),(1,.a (.v 0) (.n 1),.v 1)] rfl h1 z) (nl fun z=>far [b,a] [(1,.v 0,.v 1),(1,.a (.v 1) (.n 1),.v 0)] rfl (nl h0) z)
theorem IN : 0 < (((a + 1) : Nat) : Int):=Int.natCast_pos.mpr (Nat.succ_pos a)
theorem FP : ((((a + 1) : Nat) : Int) - 1) = ((a : Nat) : Int):=Int.add_sub_cancel (a : Int) 1
theorem Ji {a b c : Int} : (a + (b + c)) = ((a + c) + b):=by rw [Int.add_comm b c,Int.add_assoc]
theorem H4 {a b : Int} (h0 : a < b) : 0 ≤ ((b - a) - 1):=Int.le_sub_one_of_lt (Int.sub_pos_of_lt h0)
theorem Hj {a : Int} (h0 : a > 0) : 0 ≤ a:=Int.le_of_lt h0
theorem KM {a b : Int} (h0 : a > b) : 0 ≤ ((a - b) - 1):=Int.le_sub_one_of_lt (Int.sub_pos_of_lt h0)
theorem Ke {a : Int} (h0 : ¬(a > 0)) : 0 ≤ (-a):=Int.neg_nonneg_of_nonpos (Int.not_lt.mp h0)
theorem KH (h0 : ¬(((a + b) < c ∨ c < a))) (h1 : d = a) : c ≤ (d + b):=h1 ▸ Nat.le_of_not_lt fun z=>h0 (.inl z)
theorem Jp (h0 : ¬(((a + b) < c ∨ c < a))) (h1 : d = a) : d ≤ c:=h1 ▸ Nat.le_of_not_lt fun z=>h0 (.inr z)
theorem GI (h0 : ¬(((a + b) < c ∨ c < a))) (h1 : d = a) : (d + (b - (b - (c - d)))) = c:=by subst h1; exact (congrArg (d + ·) (Nat.sub_sub_self (Nat.sub_le_iff_le_add'.mpr (Nat.not_lt.mp fun h=>h0 (.inl h))))).trans (Nat.add_sub_of_le (Nat.not_lt.mp fun h=>h0 (.inr h)))
theorem FE (h0 : (a + (b + 1)) < c) : ((a + 1) + b) < c:=nt fun z=>far [a,b,c] [(1,.a (.a (.v 0) (.a (.v 1) (.n 1))) (.n 1),.v 2),(1,.v 2,.a (.a (.v 0) (.n 1)) (.v 1))] rfl h0 z
theorem ER (h0 : (a + (8 * (b + 1))) < c) : ((a + 3) + (8 * b)) < c:=nt fun z=>far [a,b,c] [(1,.a (.a (.v 0) (.m 8 (.a (.v 1) (.n 1)))) (.n 1),.v 2),(1,.v 2,.a (.a (.v 0) (.n 3)) (.m 8 (.v 1)))] rfl h0 z
theorem IQ (h0 : a = b) (h1 : (c ≤ b ∧ b ≤ c)) : a = c:=na (nl fun z=>far [a,b,c] [(1,.v 0,.v 1),(1,.v 1,.v 2),(1,.a (.v 2) (.n 1),.v 0)] rfl (qe h0) h1.2 z) (nl fun z=>far [a,b,c] [(1,.v 1,.v 0),(1,.v 2,.v 1),(1,.a (.v 0) (.n 1),.v 2)] rfl (ge h0) h1.1 z)
theorem G7 : a ≤ ((a + 1) + 1):=nl fun z=>far [a] [(1,.a (.a (.a (.v 0) (.n 1)) (.n 1)) (.n 1),.v 0)] rfl z
theorem Ku {a : Int} (h0 : (-1000000) ≤ a) (h1 : a ≤ 1000000) (h2 : ¬(0 ≤ a)) : a < 0:=Int.not_le.mp h2
theorem JK (h0 : a ≤ 1000) : a ≤ (16777216 + 1):=nl fun z=>far [a] [(1,.v 0,.n 1000),(1,.a (.a (.n 16777216) (.n 1)) (.n 1),.v 0)] rfl h0 z
theorem IE (h0 : a = b) : a ≤ ((b - 1) + 1):=nl fun z=>far [a,b,(b - 1)] [(1,.v 0,.v 1),(1,.a (.a (.v 2) (.n 1)) (.n 1),.v 0),(1,.v 1,.a (.v 2) (.n 1))] rfl (qe h0) z (sF1 b 1)
theorem Jj (h0 : a = b) (h1 : c = d) (h2 : (b + d) ≤ 1000000) (h3 : (a + c) > 16777216) : False:=far [a,b,c,d] [(1,.v 0,.v 1),(1,.v 2,.v 3),(1,.a (.v 1) (.v 3),.n 1000000),(1,.a (.n 16777216) (.n 1),.a (.v 0) (.v 2))] rfl (qe h0) (qe h1) h2 h3
theorem IV (h0 : a = b) (h1 : c = d) (h2 : (b + d) ≤ 1000000) : a ≤ 16777216:=nl fun z=>far [a,b,d] [(1,.v 0,.v 1),(1,.a (.v 1) (.v 2),.n 1000000),(1,.a (.n 16777216) (.n 1),.v 0)] rfl (qe h0) h2 z
theorem Hr (h0 : a = b) (h1 : c = d) (h2 : (b + d) ≤ 1000000) : (a + c) ≤ (16777216 + 1):=nl fun z=>far [a,b,c,d] [(1,.v 0,.v 1),(1,.v 2,.v 3),(1,.a (.v 1) (.v 3),.n 1000000),(1,.a (.a (.n 16777216) (.n 1)) (.n 1),.a (.v 0) (.v 2))] rfl (qe h0) (qe h1) h2 z
theorem I2 (h0 : (a + b) ≤ 1000000) (h1 : c = a) (h2 : d = b) : (c + d) ≤ 16777216:=nl fun z=>far [a,b,c,d] [(1,.a (.v 0) (.v 1),.n 1000000),(1,.v 2,.v 0),(1,.v 3,.v 1),(1,.a (.n 16777216) (.n 1),.a (.v 2) (.v 3))] rfl h0 (qe h1) (qe h2) z
theorem FH (h0 : (a + 1) ≤ 64) : a ≤ 64:=nl fun z=>far [a] [(1,.a (.v 0) (.n 1),.n 64),(1,.a (.n 64) (.n 1),.v 0)] rfl h0 z
theorem Eh (h0 : (a + 72) < b) (h1 : c ≤ 64) : ((a + 1) + (min c d)) < b:=nt fun z=>far [a,b,c,(min c d)] [(1,.a (.a (.v 0) (.n 72)) (.n 1),.v 1),(1,.v 2,.n 64),(1,.v 1,.a (.a (.v 0) (.n 1)) (.v 3)),(1,.v 3,.v 2)] rfl h0 h1 z (Nat.min_le_left c d)
theorem Gg {a : Int} (h0 : 0 ≤ a) (h1 : a < 0) : False:=absurd h1 (Int.not_lt.mpr h0)
theorem Kg : (a - (min b a)) ≤ (a - (min b a)):=nl fun z=>far [(a - (min b a))] [(1,.a (.v 0) (.n 1),.v 0)] rfl z
theorem Kx (h0 : (a + (b + 1)) ≤ c) : (a + b) ≤ c:=nl fun z=>far [a,b,c] [(1,.a (.v 0) (.a (.v 1) (.n 1)),.v 2),(1,.a (.v 2) (.n 1),.a (.v 0) (.v 1))] rfl h0 z
theorem IK (h0 : (a + (b + 1)) ≤ c) : ((a + 1) + b) ≤ c:=nl fun z=>far [a,b,c] [(1,.a (.v 0) (.a (.v 1) (.n 1)),.v 2),(1,.a (.v 2) (.n 1),.a (.a (.v 0) (.n 1)) (.v 1))] rfl h0 z
theorem Ii (h0 : a = (b + 1)) : b < a:=nt fun z=>far [a,b] [(1,.a (.v 1) (.n 1),.v 0),(1,.v 0,.v 1)] rfl (ge h0) z
theorem Jz (h0 : a = (b + 1)) (h1 : c = (a + 1)) : a < c:=nt fun z=>far [a,c] [(1,.a (.v 0) (.n 1),.v 1),(1,.v 1,.v 0)] rfl (ge h1) z
theorem Ko : (((2 * a) + 9) + 2) ≤ ((2 * (a + 1)) + 9):=nl fun z=>far [a] [(1,.a (.a (.m 2 (.a (.v 0) (.n 1))) (.n 9)) (.n 1),.a (.a (.m 2 (.v 0)) (.n 9)) (.n 2))] rfl z
theorem K0 (h0 : ¬(((63 : Nat) : Int) < ((a : Nat) : Int))) : a ≤ 63:=Int.ofNat_le.mp (Int.not_lt.mp h0)
theorem J8 {a : Int} (h0 : 0 ≤ a) (h1 : a < 4) : a = (max a 0):=(Int.max_eq_left h0).symm
theorem Ft {a b : Int} : a ≤ (b + (a - b)):=Int.le_of_eq (by rw [Int.add_comm,Int.sub_add_cancel])
theorem HM {a b c : Int} (h0 : a < b) (h1 : b ≤ c) : a ≤ c:=Int.le_trans (Int.le_of_lt h0) h1
theorem Fd (h0 : (a + 1) ≤ (b + 1)) : a ≤ b:=nl fun z=>far [a,b] [(1,.a (.v 0) (.n 1),.a (.v 1) (.n 1)),(1,.a (.v 1) (.n 1),.v 0)] rfl h0 z
theorem Kf : (a - 1) ≤ a:=nl fun z=>far [a,(a - 1)] [(1,.a (.v 0) (.n 1),.v 1),(1,.v 1,.v 0)] rfl z (Nat.sub_le a 1)
theorem j9 (h0 : a ≤ 1000000) (h1 : b ≤ a) : b ≤ 1000000:=nl fun z=>far [a,b] [(1,.v 0,.n 1000000),(1,.v 1,.v 0),(1,.a (.n 1000000) (.n 1),.v 1)] rfl h0 h1 z
theorem JN (h0 : a ≤ b) (h1 : b ≤ 1000000) : a ≤ 1000000:=nl fun z=>far [a,b] [(1,.v 0,.v 1),(1,.v 1,.n 1000000),(1,.a (.n 1000000) (.n 1),.v 0)] rfl h0 h1 z
theorem qz (h0 : a ≤ b) (h1 : c ≤ a) (h2 : d ≤ c) : d ≤ b:=nl fun z=>far [a,b,c,d] [(1,.v 0,.v 1),(1,.v 2,.v 0),(1,.v 3,.v 2),(1,.a (.v 1) (.n 1),.v 3)] rfl h0 h1 h2 z
theorem EH {a : Int} : a < (a + 1):=Int.lt_succ a
theorem HJ {a : Int} : (a + 1) < (((a + 1) + 1) + 1):=Int.lt_trans (Int.lt_succ _) (Int.lt_succ _)
theorem II {a : Int} : (((a + 1) - a) + ((((a + 1) + 1) + 1) - (a + 1))) ≤ 3:=by first | lia | omega
theorem mC {a : Int} : a ≤ (a + 1):=Int.le_of_lt (Int.lt_succ a)
theorem FQ {a : Int} : ((a + 1) - a) ≤ 3:=by first | lia | omega
theorem KK (h0 : 3 ≤ a) : a = ((a - 3) + 3):=na (nl fun z=>far [a,(a - 3)] [(1,.a (.a (.v 1) (.n 3)) (.n 1),.v 0),(1,.v 0,.a (.v 1) (.n 3))] rfl z (sF1 a 3)) (nl fun z=>far [a,(a - 3)] [(1,.a (.v 0) (.n 1),.a (.v 1) (.n 3)),(1,.a (.v 1) (.n 3),.v 0)] rfl z (sF3 (nl fun z535=>far [a] [(1,.n 3,.v 0),(1,.a (.v 0) (.n 1),.n 3)] rfl h0 z535)))
theorem oJ (h0 : 1 ≤ a) : a = ((a - 1) + 1):=na (nl fun z=>far [a,(a - 1)] [(1,.a (.a (.v 1) (.n 1)) (.n 1),.v 0),(1,.v 0,.a (.v 1) (.n 1))] rfl z (sF1 a 1)) (nl fun z=>far [a,(a - 1)] [(1,.a (.v 0) (.n 1),.a (.v 1) (.n 1)),(1,.a (.v 1) (.n 1),.v 0)] rfl z (sF3 (nl fun z539=>far [a] [(1,.n 1,.v 0),(1,.a (.v 0) (.n 1),.n 1)] rfl h0 z539)))
theorem JI (h0 : 2 ≤ a) : a = ((a - 2) + 2):=na (nl fun z=>far [a,(a - 2)] [(1,.a (.a (.v 1) (.n 2)) (.n 1),.v 0),(1,.v 0,.a (.v 1) (.n 2))] rfl z (sF1 a 2)) (nl fun z=>far [a,(a - 2)] [(1,.a (.v 0) (.n 1),.a (.v 1) (.n 2)),(1,.a (.v 1) (.n 2),.v 0)] rfl z (sF3 (nl fun z543=>far [a] [(1,.n 2,.v 0),(1,.a (.v 0) (.n 1),.n 2)] rfl h0 z543)))
theorem Kh (h0 : 4 ≤ a) : a = ((a - 2) + 2):=na (nl fun z=>far [a,(a - 2)] [(1,.a (.a (.v 1) (.n 2)) (.n 1),.v 0),(1,.v 0,.a (.v 1) (.n 2))] rfl z (sF1 a 2)) (nl fun z=>far [a,(a - 2)] [(1,.a (.v 0) (.n 1),.a (.v 1) (.n 2)),(1,.a (.v 1) (.n 2),.v 0)] rfl z (sF3 (nl fun z547=>far [a] [(1,.n 4,.v 0),(1,.a (.v 0) (.n 1),.n 2)] rfl h0 z547)))
theorem Cp (h0 : 4 ≤ (a + 2)) : 1 ≤ (a + 1):=nl fun z=>far [a] [(1,.n 4,.a (.v 0) (.n 2)),(1,.a (.a (.v 0) (.n 1)) (.n 1),.n 1)] rfl h0 z
theorem BE (h0 : 4 ≤ (a + 2)) : 3 ≤ (a + 1):=nl fun z=>far [a] [(1,.n 4,.a (.v 0) (.n 2)),(1,.a (.a (.v 0) (.n 1)) (.n 1),.n 3)] rfl h0 z
theorem oE (h0 : a ≤ 1000000) (h1 : b ≤ a) (h2 : c ≤ b) : c ≤ 1000000:=nl fun z=>far [a,b,c] [(1,.v 0,.n 1000000),(1,.v 1,.v 0),(1,.v 2,.v 1),(1,.a (.n 1000000) (.n 1),.v 2)] rfl h0 h1 h2 z
theorem IO : (1 + 1) ≤ 3:=nl fun z=>far [] [(1,.a (.n 3) (.n 1),.a (.n 1) (.n 1))] rfl z
theorem Ki {a b : Int} : (((3 + 3) + (a - a)) + ((b + 1) - b)) ≤ 15:=by first | lia | omega
theorem w3 (h0 : a ≤ 1000000) (h1 : b ≤ a) (h2 : c ≤ b) (h3 : d ≤ c) : d ≤ 1000000:=nl fun z=>far [a,b,c,d] [(1,.v 0,.n 1000000),(1,.v 1,.v 0),(1,.v 2,.v 1),(1,.v 3,.v 2),(1,.a (.n 1000000) (.n 1),.v 3)] rfl h0 h1 h2 h3 z
theorem yn (h0 : a ≤ 1000000) (h1 : b ≤ a) (h2 : c ≤ b) (h3 : d ≤ c) (h4 : e ≤ d) : e ≤ 1000000:=nl fun z=>far [a,b,c,d,e] [(1,.v 0,.n 1000000),(1,.v 1,.v 0),(1,.v 2,.v 1),(1,.v 3,.v 2),(1,.v 4,.v 3),(1,.a (.n 1000000) (.n 1),.v 4)] rfl h0 h1 h2 h3 h4 z
theorem HA {a b c : Int} : ((((3 + 3) + (a - a)) + ((b + 1) - b)) + (((3 + 3) + ((c + 1) - c)) + ((a + 1) - a))) ≤ 15:=by first | lia | omega
theorem BO (h0 : a ≤ b) (h1 : c ≤ a) (h2 : d ≤ c) (h3 : e ≤ d) (h4 : f ≤ e) : f ≤ b:=nl fun z=>far [a,b,c,d,e,f] [(1,.v 0,.v 1),(1,.v 2,.v 0),(1,.v 3,.v 2),(1,.v 4,.v 3),(1,.v 5,.v 4),(1,.a (.v 1) (.n 1),.v 5)] rfl h0 h1 h2 h3 h4 z
theorem KB (h0 : (9 + (5 * a)) ≤ b) (h1 : a ≤ 3) : b = ((b - 2) + 2):=na (nl fun z=>far [b,(b - 2)] [(1,.a (.a (.v 1) (.n 2)) (.n 1),.v 0),(1,.v 0,.a (.v 1) (.n 2))] rfl z (sF1 b 2)) (nl fun z=>far [b,(b - 2)] [(1,.a (.v 0) (.n 1),.a (.v 1) (.n 2)),(1,.a (.v 1) (.n 2),.v 0)] rfl z (sF3 (nl fun z551=>far [a,b] [(1,.a (.n 9) (.m 5 (.v 0)),.v 1),(1,.a (.v 1) (.n 1),.n 2)] rfl h0 z551)))
theorem lD : 1 ≤ (a + 1):=nl fun z=>far [a] [(1,.a (.a (.v 0) (.n 1)) (.n 1),.n 1)] rfl z
theorem Hc {a : Nat} {b c : Int} : (((2 * ((a : Nat) : Int)) + ((b + 1) - b)) + (c - c)) ≤ ((2 * ((a : Nat) : Int)) + 1):=by first | lia | omega
theorem D4 (h0 : (9 + (5 * a)) ≤ (b + 2)) : (8 + (5 * a)) ≤ (b + 1):=nl fun z=>far [a,b] [(1,.a (.n 9) (.m 5 (.v 0)),.a (.v 1) (.n 2)),(1,.a (.a (.v 1) (.n 1)) (.n 1),.a (.n 8) (.m 5 (.v 0)))] rfl h0 z
theorem Hx : ((a : Nat) : Int) ≤ (2 * ((a : Nat) : Int)):=by first | lia | omega
theorem Hk : (((a : Nat) : Int) + ((a : Nat) : Int)) ≤ (2 * ((a : Nat) : Int)):=Int.le_of_eq (Int.two_mul _).symm
theorem GY (h0 : (10 + (5 * a)) ≤ b) (h1 : a ≤ 2) : b = ((b - 2) + 2):=na (nl fun z=>far [b,(b - 2)] [(1,.a (.a (.v 1) (.n 2)) (.n 1),.v 0),(1,.v 0,.a (.v 1) (.n 2))] rfl z (sF1 b 2)) (nl fun z=>far [b,(b - 2)] [(1,.a (.v 0) (.n 1),.a (.v 1) (.n 2)),(1,.a (.v 1) (.n 2),.v 0)] rfl z (sF3 (nl fun z555=>far [a,b] [(1,.a (.n 10) (.m 5 (.v 0)),.v 1),(1,.a (.v 1) (.n 1),.n 2)] rfl h0 z555)))
theorem Ie (h0 : a ≤ 2) (h1 : (10 + (5 * a)) ≤ (b + 2)) : 4 ≤ (b + 1):=nl fun z=>far [a,b] [(1,.a (.n 10) (.m 5 (.v 0)),.a (.v 1) (.n 2)),(1,.a (.a (.v 1) (.n 1)) (.n 1),.n 4)] rfl h1 z
theorem AH (h0 : a ≤ 100) : a ≤ 1000000:=nl fun z=>far [a] [(1,.v 0,.n 100),(1,.a (.n 1000000) (.n 1),.v 0)] rfl h0 z
theorem JP : ((2 - ((a : Nat) : Int)) + 1) = (3 - ((a : Nat) : Int)):=by first | lia | omega
theorem Hz (h0 : (10 + (5 * a)) ≤ (b + 2)) : (9 + (5 * a)) ≤ (b + 1):=nl fun z=>far [a,b] [(1,.a (.n 10) (.m 5 (.v 0)),.a (.v 1) (.n 2)),(1,.a (.a (.v 1) (.n 1)) (.n 1),.a (.n 9) (.m 5 (.v 0)))] rfl h0 z
theorem It (h0 : a ≤ 2) : a ≤ 3:=nl fun z=>far [a] [(1,.v 0,.n 2),(1,.a (.n 3) (.n 1),.v 0)] rfl h0 z
theorem Kd (h0 : a ≤ 100) : a ≤ 999999:=nl fun z=>far [a] [(1,.v 0,.n 100),(1,.a (.n 999999) (.n 1),.v 0)] rfl h0 z
theorem H9 : (15 + ((2 * ((a : Nat) : Int)) + 1)) ≤ (2 * (15 + ((2 * ((a : Nat) : Int)) + 1))):=by first | lia | omega
theorem Hq : ((15 + ((2 * ((a : Nat) : Int)) + 1)) + (15 + ((2 * ((a : Nat) : Int)) + 1))) ≤ (2 * (15 + ((2 * ((a : Nat) : Int)) + 1))):=by first | lia | omega
theorem H8 {a : Int} (h0 : 0 < a) (h1 : a ≤ 9) (h2 : a = 0) : False:=absurd (h2 ▸ h0) (by decide)
theorem Jm {a b : Int} (h0 : 0 < a) (h1 : a ≤ 9) (h2 : b < a) : b < 9:=Int.lt_of_lt_of_le h2 h1
theorem HQ : (((31 + (3 * ((2 * a) + 1))) : Nat) : Int) = (31 + (3 * ((2 * ((a : Nat) : Int)) + 1))):=rfl
theorem Jr : 6 ≤ (31 + (3 * ((2 * a) + 1))):=nl fun z=>far [a] [(1,.a (.a (.n 31) (.m 3 (.a (.m 2 (.v 0)) (.n 1)))) (.n 1),.n 6)] rfl z
theorem KE (h0 : (8 + (5 * a)) ≤ b) (h1 : a ≤ 3) : b = ((b - 2) + 2):=na (nl fun z=>far [b,(b - 2)] [(1,.a (.a (.v 1) (.n 2)) (.n 1),.v 0),(1,.v 0,.a (.v 1) (.n 2))] rfl z (sF1 b 2)) (nl fun z=>far [b,(b - 2)] [(1,.a (.v 0) (.n 1),.a (.v 1) (.n 2)),(1,.a (.v 1) (.n 2),.v 0)] rfl z (sF3 (nl fun z559=>far [a,b] [(1,.a (.n 8) (.m 5 (.v 0)),.v 1),(1,.a (.v 1) (.n 1),.n 2)] rfl h0 z559)))
theorem Dq (h0 : a ≤ 3) (h1 : (8 + (5 * a)) ≤ (b + 2)) : 2 ≤ (b + 1):=nl fun z=>far [a,b] [(1,.a (.n 8) (.m 5 (.v 0)),.a (.v 1) (.n 2)),(1,.a (.a (.v 1) (.n 1)) (.n 1),.n 2)] rfl h1 z
theorem DJ (h0 : a ≤ 3) (h1 : (8 + (5 * a)) ≤ (b + 2)) : 3 ≤ (b + 1):=nl fun z=>far [a,b] [(1,.a (.n 8) (.m 5 (.v 0)),.a (.v 1) (.n 2)),(1,.a (.a (.v 1) (.n 1)) (.n 1),.n 3)] rfl h1 z
theorem t9 : 1 ≤ 3:=nl fun z=>far [] [(1,.a (.n 3) (.n 1),.n 1)] rfl z
theorem DX {a : Int} : a < ((a + 1) + 1):=Int.lt_trans (Int.lt_succ _) (Int.lt_succ _)
theorem Hn {a : Int} : a < (((a + 1) + 1) + 1):=Int.lt_trans (Int.lt_succ _) (Int.lt_trans (Int.lt_succ _) (Int.lt_succ _))
theorem HY : (3 - (((a + 1) : Nat) : Int)) = (2 - ((a : Nat) : Int)):=by first | lia | omega
theorem GW : ((3 - (((a + 1) : Nat) : Int)) + 1) = (3 - ((a : Nat) : Int)):=by first | lia | omega
theorem F4 (h0 : (8 + (5 * (a + 1))) ≤ (b + 2)) : (10 + (5 * a)) ≤ (b + 1):=nl fun z=>far [a,b] [(1,.a (.n 8) (.m 5 (.a (.v 0) (.n 1))),.a (.v 1) (.n 2)),(1,.a (.a (.v 1) (.n 1)) (.n 1),.a (.n 10) (.m 5 (.v 0)))] rfl h0 z
theorem Gf (h0 : (a + 1) ≤ 3) : a ≤ 2:=nl fun z=>far [a] [(1,.a (.v 0) (.n 1),.n 3),(1,.a (.n 2) (.n 1),.v 0)] rfl h0 z
theorem yx (h0 : (8 + (5 * (a + 1))) ≤ (b + 2)) : (9 + (5 * a)) ≤ (b + 1):=nl fun z=>far [a,b] [(1,.a (.n 8) (.m 5 (.a (.v 0) (.n 1))),.a (.v 1) (.n 2)),(1,.a (.a (.v 1) (.n 1)) (.n 1),.a (.n 9) (.m 5 (.v 0)))] rfl h0 z
theorem zd (h0 : (a + 1) ≤ 3) : a ≤ 3:=nl fun z=>far [a] [(1,.a (.v 0) (.n 1),.n 3),(1,.a (.n 3) (.n 1),.v 0)] rfl h0 z
theorem Fg (h0 : a ≤ 4) : a ≤ 1000000:=nl fun z=>far [a] [(1,.v 0,.n 4),(1,.a (.n 1000000) (.n 1),.v 0)] rfl h0 z
theorem Jv {a : Nat} {b c : Int} : ((((2 * (15 + ((2 * ((a : Nat) : Int)) + 1))) + ((2 * ((a : Nat) : Int)) + 1)) + (b - b)) + ((c + 1) - c)) ≤ (31 + (3 * ((2 * ((a : Nat) : Int)) + 1))):=by first | lia | omega
theorem Gq {a : Nat} {b c : Int} : (((2 * (15 + ((2 * ((a : Nat) : Int)) + 1))) + (b - b)) + ((c + 1) - c)) ≤ (31 + (3 * ((2 * ((a : Nat) : Int)) + 1))):=by first | lia | omega
theorem Fj (h0 : a ≤ b) (h1 : c ≤ a) (h2 : d ≤ c) (h3 : e ≤ d) : e ≤ b:=nl fun z=>far [a,b,c,d,e] [(1,.v 0,.v 1),(1,.v 2,.v 0),(1,.v 3,.v 2),(1,.v 4,.v 3),(1,.a (.v 1) (.n 1),.v 4)] rfl h0 h1 h2 h3 z
theorem KT {a : Int} (h0 : a = 4) (h1 : a = 3) : False:=absurd (h0 ▸ h1) (by decide)
theorem Kq (h0 : (a + 1) ≤ 3) (h1 : (8 + (5 * (a + 1))) ≤ (b + 2)) : 4 ≤ (b + 1):=nl fun z=>far [a,b] [(1,.a (.n 8) (.m 5 (.a (.v 0) (.n 1))),.a (.v 1) (.n 2)),(1,.a (.a (.v 1) (.n 1)) (.n 1),.n 4)] rfl h1 z
theorem GL {a : Nat} {b c : Int} : (((((2 * ((a : Nat) : Int)) + 1) + 15) + (b - b)) + ((c + 1) - c)) ≤ (31 + (3 * ((2 * ((a : Nat) : Int)) + 1))):=by first | lia | omega
theorem Ib (h0 : (a + 1) ≤ 3) (h1 : (8 + (5 * (a + 1))) ≤ (b + 2)) : 2 ≤ (b + 1):=nl fun z=>far [a,b] [(1,.a (.n 8) (.m 5 (.a (.v 0) (.n 1))),.a (.v 1) (.n 2)),(1,.a (.a (.v 1) (.n 1)) (.n 1),.n 2)] rfl h1 z
theorem DH (h0 : (a + 1) ≤ 3) (h1 : (8 + (5 * (a + 1))) ≤ (b + 2)) : 3 ≤ (b + 1):=nl fun z=>far [a,b] [(1,.a (.n 8) (.m 5 (.a (.v 0) (.n 1))),.a (.v 1) (.n 2)),(1,.a (.a (.v 1) (.n 1)) (.n 1),.n 3)] rfl h1 z
theorem Hy {b : Nat} {a : Int} : ((((a + 1) + 1) - a) + (3 + (3 + ((2 * ((b : Nat) : Int)) + 1)))) ≤ (31 + (3 * ((2 * ((b : Nat) : Int)) + 1))):=by first | lia | omega
theorem Jn (h0 : a ≤ 10) : (a + 1) ≤ 1000000:=nl fun z=>far [a] [(1,.v 0,.n 10),(1,.a (.n 1000000) (.n 1),.a (.v 0) (.n 1))] rfl h0 z
theorem Hi {a : Nat} {b c : Int} : (((3 + ((2 * ((2 * ((a : Nat) : Int)) + 1)) + ((2 * ((a : Nat) : Int)) + 1))) + (b - b)) + ((c + 1) - c)) ≤ (31 + (3 * ((2 * ((a : Nat) : Int)) + 1))):=by first | lia | omega
theorem H0 (h0 : a ≤ 10) : (a + 1) ≤ 11:=nl fun z=>far [a] [(1,.v 0,.n 10),(1,.a (.n 11) (.n 1),.a (.v 0) (.n 1))] rfl h0 z
theorem Ix {a : Nat} {b c : Int} : (((3 + (2 * ((2 * ((a : Nat) : Int)) + 1))) + (b - b)) + ((c + 1) - c)) ≤ (31 + (3 * ((2 * ((a : Nat) : Int)) + 1))):=by first | lia | omega
theorem HH (h0 : a ≤ 10) : a ≤ 11:=nl fun z=>far [a] [(1,.v 0,.n 10),(1,.a (.n 11) (.n 1),.v 0)] rfl h0 z
theorem FU (h0 : a ≤ 1) : a ≤ 100:=nl fun z=>far [a] [(1,.v 0,.n 1),(1,.a (.n 100) (.n 1),.v 0)] rfl h0 z
theorem JA : ((2 * ((a : Nat) : Int)) + 1) ≤ (2 * ((2 * ((a : Nat) : Int)) + 1)):=by first | lia | omega
theorem Hf (h0 : a ≤ (b + 1)) (h1 : b ≤ 1) : a ≤ 100:=nl fun z=>far [a,b] [(1,.v 0,.a (.v 1) (.n 1)),(1,.v 1,.n 1),(1,.a (.n 100) (.n 1),.v 0)] rfl h0 h1 z
theorem JE : (((2 * ((a : Nat) : Int)) + 1) + ((2 * ((a : Nat) : Int)) + 1)) ≤ (2 * ((2 * ((a : Nat) : Int)) + 1)):=by first | lia | omega
theorem BA (h0 : (a + 1) = (b + 1)) : b = a:=na (nl fun z=>far [a,b] [(1,.a (.v 1) (.n 1),.a (.v 0) (.n 1)),(1,.a (.v 0) (.n 1),.v 1)] rfl (ge h0) z) (nl fun z=>far [a,b] [(1,.a (.v 0) (.n 1),.a (.v 1) (.n 1)),(1,.a (.v 1) (.n 1),.v 0)] rfl (qe h0) z)
theorem GZ {a b c : Int} (h0 : a ≤ b) (h1 : b ≤ c) : a ≤ c:=Int.le_trans h0 h1
theorem HX {a b : Int} : (a ≤ b ∨ b ≤ a):=Int.le_total a b
theorem EC (h0 : (a + 1) ≤ b) : b = ((b - 1) + 1):=na (nl fun z=>far [b,(b - 1)] [(1,.a (.a (.v 1) (.n 1)) (.n 1),.v 0),(1,.v 0,.a (.v 1) (.n 1))] rfl z (sF1 b 1)) (nl fun z=>far [b,(b - 1)] [(1,.a (.v 0) (.n 1),.a (.v 1) (.n 1)),(1,.a (.v 1) (.n 1),.v 0)] rfl z (sF3 (nl fun z563=>far [a,b] [(1,.a (.v 0) (.n 1),.v 1),(1,.a (.v 1) (.n 1),.n 1)] rfl h0 z563)))
theorem Ik (h0 : ((a + 1) + 1) ≤ b) : b = ((b - 1) + 1):=na (nl fun z=>far [b,(b - 1)] [(1,.a (.a (.v 1) (.n 1)) (.n 1),.v 0),(1,.v 0,.a (.v 1) (.n 1))] rfl z (sF1 b 1)) (nl fun z=>far [b,(b - 1)] [(1,.a (.v 0) (.n 1),.a (.v 1) (.n 1)),(1,.a (.v 1) (.n 1),.v 0)] rfl z (sF3 (nl fun z567=>far [a,b] [(1,.a (.a (.v 0) (.n 1)) (.n 1),.v 1),(1,.a (.v 1) (.n 1),.n 1)] rfl h0 z567)))
theorem E7 (h0 : ((a + 1) + 1) ≤ (b + 1)) : (a + 1) ≤ b:=nl fun z=>far [a,b] [(1,.a (.a (.v 0) (.n 1)) (.n 1),.a (.v 1) (.n 1)),(1,.a (.v 1) (.n 1),.a (.v 0) (.n 1))] rfl h0 z
theorem yB (h0 : a ≤ 16) : a ≤ 1000000:=nl fun z=>far [a] [(1,.v 0,.n 16),(1,.a (.n 1000000) (.n 1),.v 0)] rfl h0 z
theorem Hm (h0 : a ≤ 16) (h1 : b ≤ 16) (h2 : c ≤ b) : (a + c) ≤ 1000000:=nl fun z=>far [a,b,c] [(1,.v 0,.n 16),(1,.v 1,.n 16),(1,.v 2,.v 1),(1,.a (.n 1000000) (.n 1),.a (.v 0) (.v 2))] rfl h0 h1 h2 z
theorem Gi (h0 : a ≤ 4) (h1 : b ≤ a) : (b + 1) ≤ 1000000:=nl fun z=>far [a,b] [(1,.v 0,.n 4),(1,.v 1,.v 0),(1,.a (.n 1000000) (.n 1),.a (.v 1) (.n 1))] rfl h0 h1 z
theorem J9 (h0 : (a + (b + 1)) ≤ 1000) : (a + b) ≤ 1000:=nl fun z=>far [a,b] [(1,.a (.v 0) (.a (.v 1) (.n 1)),.n 1000),(1,.a (.n 1000) (.n 1),.a (.v 0) (.v 1))] rfl h0 z
theorem EJ (h0 : (a + (b + 1)) ≤ 1000) : a ≤ 1000000:=nl fun z=>far [a,b] [(1,.a (.v 0) (.a (.v 1) (.n 1)),.n 1000),(1,.a (.n 1000000) (.n 1),.v 0)] rfl h0 z
theorem Fp (h0 : (a + (b + 1)) ≤ 1000) : ((a + 1) + b) ≤ 1000:=nl fun z=>far [a,b] [(1,.a (.v 0) (.a (.v 1) (.n 1)),.n 1000),(1,.a (.n 1000) (.n 1),.a (.a (.v 0) (.n 1)) (.v 1))] rfl h0 z
theorem JX (h0 : a ≤ 16) : a ≤ 1000:=nl fun z=>far [a] [(1,.v 0,.n 16),(1,.a (.n 1000) (.n 1),.v 0)] rfl h0 z
theorem HW (h0 : a ≤ 1000000) : ((-1000000) ≤ ((a : Nat) : Int) ∧ ((a : Nat) : Int) ≤ 1000000):=⟨Int.le_trans (by decide) (Int.natCast_nonneg a),Int.ofNat_le.mpr h0⟩
theorem Jf (h0 : a ≤ 1000000) : 0 ≤ ((a : Nat) : Int):=Int.natCast_nonneg a
theorem Ht (h0 : 0 ≤ (-1)) : False:=absurd h0 (by decide)
theorem Ja : (-(((a + 1) : Nat) : Int)) ≤ (-1):=by first | lia | omega
theorem KF (h0 : ((3 * a) + 8) ≤ b) : b = ((b - 1) + 1):=na (nl fun z=>far [b,(b - 1)] [(1,.a (.a (.v 1) (.n 1)) (.n 1),.v 0),(1,.v 0,.a (.v 1) (.n 1))] rfl z (sF1 b 1)) (nl fun z=>far [b,(b - 1)] [(1,.a (.v 0) (.n 1),.a (.v 1) (.n 1)),(1,.a (.v 1) (.n 1),.v 0)] rfl z (sF3 (nl fun z571=>far [a,b] [(1,.a (.m 3 (.v 0)) (.n 8),.v 1),(1,.a (.v 1) (.n 1),.n 1)] rfl h0 z571)))
theorem ID (h0 : ((3 * a) + 8) ≤ (b + 1)) : ((3 * a) + 7) ≤ b:=nl fun z=>far [a,b] [(1,.a (.m 3 (.v 0)) (.n 8),.a (.v 1) (.n 1)),(1,.a (.v 1) (.n 1),.a (.m 3 (.v 0)) (.n 7))] rfl h0 z
theorem Ju : (((2 * a) + 1) + 1) = (2 * (a + 1)):=na (nl fun z=>far [a] [(1,.a (.m 2 (.a (.v 0) (.n 1))) (.n 1),.a (.a (.m 2 (.v 0)) (.n 1)) (.n 1))] rfl z) (nl fun z=>far [a] [(1,.a (.a (.a (.m 2 (.v 0)) (.n 1)) (.n 1)) (.n 1),.m 2 (.a (.v 0) (.n 1)))] rfl z)
theorem Im : (2 * ((a : Nat) : Int)) = (((2 * a) : Nat) : Int):=rfl
theorem Bi (h0 : a = (2 * b)) : a ≤ (2 * b):=nl fun z=>far [a,b] [(1,.v 0,.m 2 (.v 1)),(1,.a (.m 2 (.v 1)) (.n 1),.v 0)] rfl (qe h0) z
theorem BG (h0 : a = (2 * b)) : a ≤ ((2 * b) + 1):=nl fun z=>far [a,b] [(1,.v 0,.m 2 (.v 1)),(1,.a (.a (.m 2 (.v 1)) (.n 1)) (.n 1),.v 0)] rfl (qe h0) z
theorem AZ : (((2 * a) + 1) - (2 * a)) = 1:=na (nl fun z=>far [a,(((2 * a) + 1) - (2 * a))] [(1,.a (.n 1) (.n 1),.v 1),(1,.a (.v 1) (.m 2 (.v 0)),.a (.m 2 (.v 0)) (.n 1))] rfl z (sF3 (nl fun z573=>far [a] [(1,.a (.a (.m 2 (.v 0)) (.n 1)) (.n 1),.m 2 (.v 0))] rfl z573))) (nl fun z=>far [a,(((2 * a) + 1) - (2 * a))] [(1,.a (.v 1) (.n 1),.n 1),(1,.a (.m 2 (.v 0)) (.n 1),.a (.v 1) (.m 2 (.v 0)))] rfl z (sF1 ((2 * a) + 1) (2 * a)))
theorem Dm (h0 : a ≤ 10) (h1 : b = (2 * c)) (h2 : a = ((b + ((d + 1) + 1)) + e)) : (2 * c) ≤ 1000000:=nl fun z=>far [a,b,c,d,e] [(1,.v 0,.n 10),(1,.m 2 (.v 2),.v 1),(1,.a (.a (.v 1) (.a (.a (.v 3) (.n 1)) (.n 1))) (.v 4),.v 0),(1,.a (.n 1000000) (.n 1),.m 2 (.v 2))] rfl h0 (ge h1) (ge h2) z
theorem Du (h0 : ((3 * a) + 8) ≤ b) : (3 + 1) ≤ b:=nl fun z=>far [a,b] [(1,.a (.m 3 (.v 0)) (.n 8),.v 1),(1,.a (.v 1) (.n 1),.a (.n 3) (.n 1))] rfl h0 z
theorem Br : ((((2 * a) : Nat) : Int) + 1) = ((((2 * a) + 1) : Nat) : Int):=rfl
theorem DL (h0 : a ≤ 10) (h1 : b = (2 * c)) (h2 : a = ((b + ((d + 1) + 1)) + e)) : ((2 * c) + 1) ≤ 1000000:=nl fun z=>far [a,b,c,d,e] [(1,.v 0,.n 10),(1,.m 2 (.v 2),.v 1),(1,.a (.a (.v 1) (.a (.a (.v 3) (.n 1)) (.n 1))) (.v 4),.v 0),(1,.a (.n 1000000) (.n 1),.a (.m 2 (.v 2)) (.n 1))] rfl h0 (ge h1) (ge h2) z
theorem Bt (h0 : ((3 * a) + 8) ≤ b) : 1 ≤ b:=nl fun z=>far [a,b] [(1,.a (.m 3 (.v 0)) (.n 8),.v 1),(1,.a (.v 1) (.n 1),.n 1)] rfl h0 z
theorem Bu : ((2 * a) + 2) = (2 * (a + 1)):=na (nl fun z=>far [a] [(1,.a (.m 2 (.a (.v 0) (.n 1))) (.n 1),.a (.m 2 (.v 0)) (.n 2))] rfl z) (nl fun z=>far [a] [(1,.a (.a (.m 2 (.v 0)) (.n 2)) (.n 1),.m 2 (.a (.v 0) (.n 1)))] rfl z)
theorem FO (h0 : 17 ≤ (0 + a)) (h1 : a ≤ 16) : False:=far [a] [(1,.n 17,.a (.n 0) (.v 0)),(1,.v 0,.n 16)] rfl h0 h1
theorem EQ (h0 : 17 ≤ ((a + 1) + b)) (h1 : b ≤ c) (h2 : ¬(((c : Nat) : Int) = ((b : Nat) : Int))) : 17 ≤ (a + c):=by first | lia | omega
theorem JL (h0 : a ≤ 10) (h1 : b = (2 * c)) (h2 : a = (b + ((d + 1) + 1))) : (2 * c) ≤ 1000000:=nl fun z=>far [a,b,c,d] [(1,.v 0,.n 10),(1,.m 2 (.v 2),.v 1),(1,.a (.v 1) (.a (.a (.v 3) (.n 1)) (.n 1)),.v 0),(1,.a (.n 1000000) (.n 1),.m 2 (.v 2))] rfl h0 (ge h1) (ge h2) z
theorem Jl (h0 : a ≤ 10) (h1 : b = (2 * c)) (h2 : a = (b + ((d + 1) + 1))) : ((2 * c) + 1) ≤ 1000000:=nl fun z=>far [a,b,c,d] [(1,.v 0,.n 10),(1,.m 2 (.v 2),.v 1),(1,.a (.v 1) (.a (.a (.v 3) (.n 1)) (.n 1)),.v 0),(1,.a (.n 1000000) (.n 1),.a (.m 2 (.v 2)) (.n 1))] rfl h0 (ge h1) (ge h2) z
theorem BH (h0 : a ≤ 4) (h1 : a = (2 * b)) : a ≤ 1000000:=nl fun z=>far [a] [(1,.v 0,.n 4),(1,.a (.n 1000000) (.n 1),.v 0)] rfl h0 z
theorem xD (h0 : a ≤ 4) (h1 : a = (2 * b)) : b ≤ 2:=nl fun z=>far [a,b] [(1,.v 0,.n 4),(1,.m 2 (.v 1),.v 0),(2,.a (.n 2) (.n 1),.v 1)] rfl h0 (ge h1) z
theorem BS (h0 : a ≤ 4) (h1 : a = (2 * b)) : a ≤ 10:=nl fun z=>far [a] [(1,.v 0,.n 4),(1,.a (.n 10) (.n 1),.v 0)] rfl h0 z
theorem Jy (h0 : (a = (2 * b) ∨ a = ((2 * b) + 1))) : (((a : Nat) : Int) / 2) = ((b : Nat) : Int):=by show ((a / 2 : Nat) : Int) = b; exact congrArg _ (h0.elim (fun h=>h ▸ Nat.mul_div_cancel_left b (by decide)) (fun h=>h ▸ Nat.mul_add_div (by decide) b 1))
theorem DV (h0 : a ≤ 1000) : (a + 1) ≤ 1000000:=nl fun z=>far [a] [(1,.v 0,.n 1000),(1,.a (.n 1000000) (.n 1),.a (.v 0) (.n 1))] rfl h0 z
theorem GE (h0 : ((3 * a) + 7) ≤ b) : b = ((b - 1) + 1):=na (nl fun z=>far [b,(b - 1)] [(1,.a (.a (.v 1) (.n 1)) (.n 1),.v 0),(1,.v 0,.a (.v 1) (.n 1))] rfl z (sF1 b 1)) (nl fun z=>far [b,(b - 1)] [(1,.a (.v 0) (.n 1),.a (.v 1) (.n 1)),(1,.a (.v 1) (.n 1),.v 0)] rfl z (sF3 (nl fun z579=>far [a,b] [(1,.a (.m 3 (.v 0)) (.n 7),.v 1),(1,.a (.v 1) (.n 1),.n 1)] rfl h0 z579)))
theorem Dx (h0 : ((3 * a) + 7) ≤ (b + 1)) : (3 + 1) ≤ b:=nl fun z=>far [a,b] [(1,.a (.m 3 (.v 0)) (.n 7),.a (.v 1) (.n 1)),(1,.a (.v 1) (.n 1),.a (.n 3) (.n 1))] rfl h0 z
theorem En (h0 : ((3 * a) + 7) ≤ (b + 1)) : 1 ≤ b:=nl fun z=>far [a,b] [(1,.a (.m 3 (.v 0)) (.n 7),.a (.v 1) (.n 1)),(1,.a (.v 1) (.n 1),.n 1)] rfl h0 z
theorem HT (h0 : ((3 * a) + 7) ≤ (b + 1)) : (0 + 1) ≤ b:=nl fun z=>far [a,b] [(1,.a (.m 3 (.v 0)) (.n 7),.a (.v 1) (.n 1)),(1,.a (.v 1) (.n 1),.a (.n 0) (.n 1))] rfl h0 z
theorem Ci (h0 : ((3 * (a + 1)) + 7) ≤ (b + 1)) : ((3 * a) + 8) ≤ b:=nl fun z=>far [a,b] [(1,.a (.m 3 (.a (.v 0) (.n 1))) (.n 7),.a (.v 1) (.n 1)),(1,.a (.v 1) (.n 1),.a (.m 3 (.v 0)) (.n 8))] rfl h0 z
theorem F8 (h0 : ((3 * (a + 1)) + 7) ≤ (b + 1)) : 1 ≤ b:=nl fun z=>far [a,b] [(1,.a (.m 3 (.a (.v 0) (.n 1))) (.n 7),.a (.v 1) (.n 1)),(1,.a (.v 1) (.n 1),.n 1)] rfl h0 z
theorem Fy (h0 : a ≤ 4) (h1 : a = (2 * b)) : (a + 1) ≤ 5:=nl fun z=>far [a] [(1,.v 0,.n 4),(1,.a (.n 5) (.n 1),.a (.v 0) (.n 1))] rfl h0 z
theorem FX (h0 : a ≤ 5) : a ≤ 1000000:=nl fun z=>far [a] [(1,.v 0,.n 5),(1,.a (.n 1000000) (.n 1),.v 0)] rfl h0 z
theorem Fc (h0 : a ≤ 5) : a ≤ 10:=nl fun z=>far [a] [(1,.v 0,.n 5),(1,.a (.n 10) (.n 1),.v 0)] rfl h0 z
theorem DT (h0 : ((3 * (a + 1)) + 7) ≤ (b + 1)) : b = ((b - 1) + 1):=na (nl fun z=>far [b,(b - 1)] [(1,.a (.a (.v 1) (.n 1)) (.n 1),.v 0),(1,.v 0,.a (.v 1) (.n 1))] rfl z (sF1 b 1)) (nl fun z=>far [b,(b - 1)] [(1,.a (.v 0) (.n 1),.a (.v 1) (.n 1)),(1,.a (.v 1) (.n 1),.v 0)] rfl z (sF3 (nl fun z583=>far [a,b] [(1,.a (.m 3 (.a (.v 0) (.n 1))) (.n 7),.a (.v 1) (.n 1)),(1,.a (.v 1) (.n 1),.n 1)] rfl h0 z583)))
theorem A1 (h0 : ((3 * (a + 1)) + 7) ≤ ((b + 1) + 1)) : ((3 * a) + 8) ≤ b:=nl fun z=>far [a,b] [(1,.a (.m 3 (.a (.v 0) (.n 1))) (.n 7),.a (.a (.v 1) (.n 1)) (.n 1)),(1,.a (.v 1) (.n 1),.a (.m 3 (.v 0)) (.n 8))] rfl h0 z
theorem IL (h0 : a ≤ 16) : 17 ≤ (1000 + a):=nl fun z=>far [a] [(1,.a (.a (.n 1000) (.v 0)) (.n 1),.n 17)] rfl z
theorem Fz : 17 ≤ (1000 + a):=nl fun z=>far [a] [(1,.a (.a (.n 1000) (.v 0)) (.n 1),.n 17)] rfl z
theorem IZ (h0 : ((3 * (a + 1)) + 7) ≤ ((b + 1) + 1)) : (3 + 1) ≤ b:=nl fun z=>far [a,b] [(1,.a (.m 3 (.a (.v 0) (.n 1))) (.n 7),.a (.a (.v 1) (.n 1)) (.n 1)),(1,.a (.v 1) (.n 1),.a (.n 3) (.n 1))] rfl h0 z
theorem Hp (h0 : ((3 * (a + 1)) + 7) ≤ ((b + 1) + 1)) : 1 ≤ b:=nl fun z=>far [a,b] [(1,.a (.m 3 (.a (.v 0) (.n 1))) (.n 7),.a (.a (.v 1) (.n 1)) (.n 1)),(1,.a (.v 1) (.n 1),.n 1)] rfl h0 z
theorem Iq (h0 : ((3 * (a + 1)) + 7) ≤ (b + 1)) : (3 + 1) ≤ b:=nl fun z=>far [a,b] [(1,.a (.m 3 (.a (.v 0) (.n 1))) (.n 7),.a (.v 1) (.n 1)),(1,.a (.v 1) (.n 1),.a (.n 3) (.n 1))] rfl h0 z
theorem Gc (h0 : a ≤ 11) : a ≤ 1000:=nl fun z=>far [a] [(1,.v 0,.n 11),(1,.a (.n 1000) (.n 1),.v 0)] rfl h0 z
theorem Iy : (a + (b + 1)) = ((a + 1) + b):=na (nl fun z=>far [a,b] [(1,.a (.a (.a (.v 0) (.n 1)) (.v 1)) (.n 1),.a (.v 0) (.a (.v 1) (.n 1)))] rfl z) (nl fun z=>far [a,b] [(1,.a (.a (.v 0) (.a (.v 1) (.n 1))) (.n 1),.a (.a (.v 0) (.n 1)) (.v 1))] rfl z)
theorem BU (h0 : 2 ≤ a) : a = ((a - 1) + 1):=na (nl fun z=>far [a,(a - 1)] [(1,.a (.a (.v 1) (.n 1)) (.n 1),.v 0),(1,.v 0,.a (.v 1) (.n 1))] rfl z (sF1 a 1)) (nl fun z=>far [a,(a - 1)] [(1,.a (.v 0) (.n 1),.a (.v 1) (.n 1)),(1,.a (.v 1) (.n 1),.v 0)] rfl z (sF3 (nl fun z587=>far [a] [(1,.n 2,.v 0),(1,.a (.v 0) (.n 1),.n 1)] rfl h0 z587)))
theorem zT (h0 : 2 ≤ (a + 1)) : 1 ≤ a:=nl fun z=>far [a] [(1,.n 2,.a (.v 0) (.n 1)),(1,.a (.v 0) (.n 1),.n 1)] rfl h0 z
theorem HI : 0 ≤ ((a : Nat) : Int):=Int.natCast_nonneg a
theorem EZ : ((a : Nat) : Int) ≥ 0:=Int.natCast_nonneg a
theorem HU (h0 : a < 4) : 0 ≤ ((a : Nat) : Int):=Int.natCast_nonneg a
theorem JQ (h0 : a < 4) : ((a : Nat) : Int) ≤ 1000000:=Int.ofNat_le.mpr (Nat.le_trans (Nat.le_of_lt h0) (by decide))
theorem GQ (h0 : ((a : Nat) : Int) < 0) : False:=absurd h0 (Int.not_lt.mpr (Int.natCast_nonneg a))
theorem Gk (h0 : (a + 3) ≤ b) : b = ((b - 1) + 1):=na (nl fun z=>far [b,(b - 1)] [(1,.a (.a (.v 1) (.n 1)) (.n 1),.v 0),(1,.v 0,.a (.v 1) (.n 1))] rfl z (sF1 b 1)) (nl fun z=>far [b,(b - 1)] [(1,.a (.v 0) (.n 1),.a (.v 1) (.n 1)),(1,.a (.v 1) (.n 1),.v 0)] rfl z (sF3 (nl fun z591=>far [a,b] [(1,.a (.v 0) (.n 3),.v 1),(1,.a (.v 1) (.n 1),.n 1)] rfl h0 z591)))
theorem JS (h0 : (a + 3) ≤ (b + 1)) : 2 ≤ b:=nl fun z=>far [a,b] [(1,.a (.v 0) (.n 3),.a (.v 1) (.n 1)),(1,.a (.v 1) (.n 1),.n 2)] rfl h0 z
theorem KG (h0 : ((a + 1) + 3) ≤ b) : b = ((b - 1) + 1):=na (nl fun z=>far [b,(b - 1)] [(1,.a (.a (.v 1) (.n 1)) (.n 1),.v 0),(1,.v 0,.a (.v 1) (.n 1))] rfl z (sF1 b 1)) (nl fun z=>far [b,(b - 1)] [(1,.a (.v 0) (.n 1),.a (.v 1) (.n 1)),(1,.a (.v 1) (.n 1),.v 0)] rfl z (sF3 (nl fun z595=>far [a,b] [(1,.a (.a (.v 0) (.n 1)) (.n 3),.v 1),(1,.a (.v 1) (.n 1),.n 1)] rfl h0 z595)))
theorem Cc (h0 : ((a + 1) + 3) ≤ (b + 1)) : (a + 3) ≤ b:=nl fun z=>far [a,b] [(1,.a (.a (.v 0) (.n 1)) (.n 3),.a (.v 1) (.n 1)),(1,.a (.v 1) (.n 1),.a (.v 0) (.n 3))] rfl h0 z
theorem EA (h0 : 7 ≤ a) : a = ((a - 1) + 1):=na (nl fun z=>far [a,(a - 1)] [(1,.a (.a (.v 1) (.n 1)) (.n 1),.v 0),(1,.v 0,.a (.v 1) (.n 1))] rfl z (sF1 a 1)) (nl fun z=>far [a,(a - 1)] [(1,.a (.v 0) (.n 1),.a (.v 1) (.n 1)),(1,.a (.v 1) (.n 1),.v 0)] rfl z (sF3 (nl fun z599=>far [a] [(1,.n 7,.v 0),(1,.a (.v 0) (.n 1),.n 1)] rfl h0 z599)))
theorem Kv (h0 : 7 ≤ (a + 1)) : 1 ≤ a:=nl fun z=>far [a] [(1,.n 7,.a (.v 0) (.n 1)),(1,.a (.v 0) (.n 1),.n 1)] rfl h0 z
theorem AP (h0 : 7 ≤ (a + 1)) : 2 ≤ a:=nl fun z=>far [a] [(1,.n 7,.a (.v 0) (.n 1)),(1,.a (.v 0) (.n 1),.n 2)] rfl h0 z
theorem EM (h0 : 7 ≤ (a + 1)) : (3 + 3) ≤ a:=nl fun z=>far [a] [(1,.n 7,.a (.v 0) (.n 1)),(1,.a (.v 0) (.n 1),.a (.n 3) (.n 3))] rfl h0 z
theorem JR (h0 : ((3 * a) + 11) ≤ b) : b = ((b - 1) + 1):=na (nl fun z=>far [b,(b - 1)] [(1,.a (.a (.v 1) (.n 1)) (.n 1),.v 0),(1,.v 0,.a (.v 1) (.n 1))] rfl z (sF1 b 1)) (nl fun z=>far [b,(b - 1)] [(1,.a (.v 0) (.n 1),.a (.v 1) (.n 1)),(1,.a (.v 1) (.n 1),.v 0)] rfl z (sF3 (nl fun z603=>far [a,b] [(1,.a (.m 3 (.v 0)) (.n 11),.v 1),(1,.a (.v 1) (.n 1),.n 1)] rfl h0 z603)))
theorem GK (h0 : ((3 * a) + 11) ≤ (b + 1)) : ((3 * a) + 10) ≤ b:=nl fun z=>far [a,b] [(1,.a (.m 3 (.v 0)) (.n 11),.a (.v 1) (.n 1)),(1,.a (.v 1) (.n 1),.a (.m 3 (.v 0)) (.n 10))] rfl h0 z
theorem EU (h0 : ((3 * a) + 11) ≤ b) : (3 + 3) ≤ b:=nl fun z=>far [a,b] [(1,.a (.m 3 (.v 0)) (.n 11),.v 1),(1,.a (.v 1) (.n 1),.a (.n 3) (.n 3))] rfl h0 z
theorem Kj (h0 : (a + (b + 1)) ≤ 100) : a ≤ 1000000:=nl fun z=>far [a,b] [(1,.a (.v 0) (.a (.v 1) (.n 1)),.n 100),(1,.a (.n 1000000) (.n 1),.v 0)] rfl h0 z
theorem IB (h0 : (a + (b + 1)) ≤ 100) : ((a + 1) + b) ≤ 100:=nl fun z=>far [a,b] [(1,.a (.v 0) (.a (.v 1) (.n 1)),.n 100),(1,.a (.n 100) (.n 1),.a (.a (.v 0) (.n 1)) (.v 1))] rfl h0 z
theorem JZ (h0 : ((3 * a) + 10) ≤ b) : b = ((b - 1) + 1):=na (nl fun z=>far [b,(b - 1)] [(1,.a (.a (.v 1) (.n 1)) (.n 1),.v 0),(1,.v 0,.a (.v 1) (.n 1))] rfl z (sF1 b 1)) (nl fun z=>far [b,(b - 1)] [(1,.a (.v 0) (.n 1),.a (.v 1) (.n 1)),(1,.a (.v 1) (.n 1),.v 0)] rfl z (sF3 (nl fun z607=>far [a,b] [(1,.a (.m 3 (.v 0)) (.n 10),.v 1),(1,.a (.v 1) (.n 1),.n 1)] rfl h0 z607)))
theorem Gv (h0 : ((3 * a) + 10) ≤ (b + 1)) : 2 ≤ b:=nl fun z=>far [a,b] [(1,.a (.m 3 (.v 0)) (.n 10),.a (.v 1) (.n 1)),(1,.a (.v 1) (.n 1),.n 2)] rfl h0 z
theorem Js (h0 : ((3 * a) + 10) ≤ (b + 1)) : (3 + 3) ≤ b:=nl fun z=>far [a,b] [(1,.a (.m 3 (.v 0)) (.n 10),.a (.v 1) (.n 1)),(1,.a (.v 1) (.n 1),.a (.n 3) (.n 3))] rfl h0 z
theorem EV (h0 : ((3 * a) + 10) ≤ (b + 1)) : 7 ≤ b:=nl fun z=>far [a,b] [(1,.a (.m 3 (.v 0)) (.n 10),.a (.v 1) (.n 1)),(1,.a (.v 1) (.n 1),.n 7)] rfl h0 z
theorem zl (h0 : ((3 * (a + 1)) + 10) ≤ (b + 1)) : b = ((b - 1) + 1):=na (nl fun z=>far [b,(b - 1)] [(1,.a (.a (.v 1) (.n 1)) (.n 1),.v 0),(1,.v 0,.a (.v 1) (.n 1))] rfl z (sF1 b 1)) (nl fun z=>far [b,(b - 1)] [(1,.a (.v 0) (.n 1),.a (.v 1) (.n 1)),(1,.a (.v 1) (.n 1),.v 0)] rfl z (sF3 (nl fun z611=>far [a,b] [(1,.a (.m 3 (.a (.v 0) (.n 1))) (.n 10),.a (.v 1) (.n 1)),(1,.a (.v 1) (.n 1),.n 1)] rfl h0 z611)))
theorem xj (h0 : ((3 * (a + 1)) + 10) ≤ ((b + 1) + 1)) : ((3 * a) + 11) ≤ b:=nl fun z=>far [a,b] [(1,.a (.m 3 (.a (.v 0) (.n 1))) (.n 10),.a (.a (.v 1) (.n 1)) (.n 1)),(1,.a (.v 1) (.n 1),.a (.m 3 (.v 0)) (.n 11))] rfl h0 z
theorem Gy (h0 : a ≤ 4) (h1 : a = (2 * b)) : b ≤ 100:=nl fun z=>far [a,b] [(1,.v 0,.n 4),(1,.m 2 (.v 1),.v 0),(2,.a (.n 100) (.n 1),.v 1)] rfl h0 (ge h1) z
theorem HG (h0 : ((3 * (a + 1)) + 10) ≤ (b + 1)) : ((3 * a) + 11) ≤ b:=nl fun z=>far [a,b] [(1,.a (.m 3 (.a (.v 0) (.n 1))) (.n 10),.a (.v 1) (.n 1)),(1,.a (.v 1) (.n 1),.a (.m 3 (.v 0)) (.n 11))] rfl h0 z
theorem Ij (h0 : ((3 * (a + 1)) + 10) ≤ (b + 1)) : (3 + 3) ≤ b:=nl fun z=>far [a,b] [(1,.a (.m 3 (.a (.v 0) (.n 1))) (.n 10),.a (.v 1) (.n 1)),(1,.a (.v 1) (.n 1),.a (.n 3) (.n 3))] rfl h0 z
theorem FG (h0 : ((3 * (a + 1)) + 10) ≤ ((b + 1) + 1)) : 2 ≤ b:=nl fun z=>far [a,b] [(1,.a (.m 3 (.a (.v 0) (.n 1))) (.n 10),.a (.a (.v 1) (.n 1)) (.n 1)),(1,.a (.v 1) (.n 1),.n 2)] rfl h0 z
theorem Dg (h0 : ((3 * (a + 1)) + 10) ≤ ((b + 1) + 1)) : (3 + 3) ≤ b:=nl fun z=>far [a,b] [(1,.a (.m 3 (.a (.v 0) (.n 1))) (.n 10),.a (.a (.v 1) (.n 1)) (.n 1)),(1,.a (.v 1) (.n 1),.a (.n 3) (.n 3))] rfl h0 z
theorem KD (h0 : (a + (b + 1)) ≤ 100000) : a ≤ 1000000:=nl fun z=>far [a,b] [(1,.a (.v 0) (.a (.v 1) (.n 1)),.n 100000),(1,.a (.n 1000000) (.n 1),.v 0)] rfl h0 z
theorem Ic : (a + (0 + 1)) ≤ (a + (b + 1)):=nl fun z=>far [a,b] [(1,.a (.a (.v 0) (.a (.v 1) (.n 1))) (.n 1),.a (.v 0) (.a (.n 0) (.n 1)))] rfl z
theorem GV (h0 : (a + (b + 1)) ≤ 100000) : ((a + 1) + b) ≤ 100000:=nl fun z=>far [a,b] [(1,.a (.v 0) (.a (.v 1) (.n 1)),.n 100000),(1,.a (.n 100000) (.n 1),.a (.a (.v 0) (.n 1)) (.v 1))] rfl h0 z
theorem GU (h0 : a ≤ ((b + 1) + c)) : a ≤ (b + (c + 1)):=nl fun z=>far [a,b,c] [(1,.v 0,.a (.a (.v 1) (.n 1)) (.v 2)),(1,.a (.a (.v 1) (.a (.v 2) (.n 1))) (.n 1),.v 0)] rfl h0 z
theorem Hb (h0 : (a + (40 * (b + 1))) ≤ 100000) : (a + 40) ≤ 100000:=nl fun z=>far [a,b] [(1,.a (.v 0) (.m 40 (.a (.v 1) (.n 1))),.n 100000),(1,.a (.n 100000) (.n 1),.a (.v 0) (.n 40))] rfl h0 z
theorem GP (h0 : (a + (40 * (b + 1))) ≤ 100000) (h1 : c ≤ (a + 40)) : (c + (40 * b)) ≤ 100000:=nl fun z=>far [a,b,c] [(1,.a (.v 0) (.m 40 (.a (.v 1) (.n 1))),.n 100000),(1,.v 2,.a (.v 0) (.n 40)),(1,.a (.n 100000) (.n 1),.a (.v 2) (.m 40 (.v 1)))] rfl h0 h1 z
theorem I7 (h0 : a ≤ (b + 40)) (h1 : c ≤ (a + (40 * d))) : c ≤ (b + (40 * (d + 1))):=nl fun z=>far [a,b,c,d] [(1,.v 0,.a (.v 1) (.n 40)),(1,.v 2,.a (.v 0) (.m 40 (.v 3))),(1,.a (.a (.v 1) (.m 40 (.a (.v 3) (.n 1)))) (.n 1),.v 2)] rfl h0 h1 z
theorem HZ (h0 : a ≤ 1000000) : (40 * (min 60 a)) ≤ 100000:=nl fun z=>far [(min 60 a)] [(1,.a (.n 100000) (.n 1),.m 40 (.v 0)),(40,.v 0,.n 60)] rfl z (Nat.min_le_left 60 a)
theorem Ka (h0 : a ≤ 60) (h1 : b ≤ (0 + (40 * a))) : b ≤ 1000000:=nl fun z=>far [a,b] [(40,.v 0,.n 60),(1,.v 1,.a (.n 0) (.m 40 (.v 0))),(1,.a (.n 1000000) (.n 1),.v 1)] rfl h0 h1 z
theorem Fe (h0 : a ≤ 240) : a ≤ 1000000:=nl fun z=>far [a] [(1,.v 0,.n 240),(1,.a (.n 1000000) (.n 1),.v 0)] rfl h0 z
theorem Ct (h0 : a ≤ 1000) : a ≤ 1000000:=nl fun z=>far [a] [(1,.v 0,.n 1000),(1,.a (.n 1000000) (.n 1),.v 0)] rfl h0 z
theorem JD (h0 : ((a + b) + c) ≤ 900) : (b + 1) ≤ 1000:=nl fun z=>far [a,b,c] [(1,.a (.a (.v 0) (.v 1)) (.v 2),.n 900),(1,.a (.n 1000) (.n 1),.a (.v 1) (.n 1))] rfl h0 z
theorem Je : (((a + 1) : Nat) : Int) > 0:=Int.natCast_pos.mpr (Nat.succ_pos a)
theorem Ir (h0 : ((a + b) + c) ≤ 900) : b ≤ 1000:=nl fun z=>far [a,b,c] [(1,.a (.a (.v 0) (.v 1)) (.v 2),.n 900),(1,.a (.n 1000) (.n 1),.v 1)] rfl h0 z
theorem Jg (h0 : ((a + b) + c) ≤ 900) : a ≤ 1000000:=nl fun z=>far [a,b,c] [(1,.a (.a (.v 0) (.v 1)) (.v 2),.n 900),(1,.a (.n 1000000) (.n 1),.v 0)] rfl h0 z
theorem HO (h0 : ((a + b) + c) ≤ 900) : (b + c) ≤ 1000:=nl fun z=>far [a,b,c] [(1,.a (.a (.v 0) (.v 1)) (.v 2),.n 900),(1,.a (.n 1000) (.n 1),.a (.v 1) (.v 2))] rfl h0 z
theorem FF (h0 : (a + b) ≤ 1000) : (a + b) ≤ 1000000:=nl fun z=>far [a,b] [(1,.a (.v 0) (.v 1),.n 1000),(1,.a (.n 1000000) (.n 1),.a (.v 0) (.v 1))] rfl h0 z
theorem Ha (h0 : 3 ≤ a) : a = ((a - 1) + 1):=na (nl fun z=>far [a,(a - 1)] [(1,.a (.a (.v 1) (.n 1)) (.n 1),.v 0),(1,.v 0,.a (.v 1) (.n 1))] rfl z (sF1 a 1)) (nl fun z=>far [a,(a - 1)] [(1,.a (.v 0) (.n 1),.a (.v 1) (.n 1)),(1,.a (.v 1) (.n 1),.v 0)] rfl z (sF3 (nl fun z615=>far [a] [(1,.n 3,.v 0),(1,.a (.v 0) (.n 1),.n 1)] rfl h0 z615)))
theorem Km (h0 : 3 ≤ (a + 1)) : 2 ≤ a:=nl fun z=>far [a] [(1,.n 3,.a (.v 0) (.n 1)),(1,.a (.v 0) (.n 1),.n 2)] rfl h0 z
theorem Kr (h0 : 3 ≤ (a + 1)) : 1 ≤ a:=nl fun z=>far [a] [(1,.n 3,.a (.v 0) (.n 1)),(1,.a (.v 0) (.n 1),.n 1)] rfl h0 z
theorem IX (h0 : 4 ≤ a) : a = ((a - 1) + 1):=na (nl fun z=>far [a,(a - 1)] [(1,.a (.a (.v 1) (.n 1)) (.n 1),.v 0),(1,.v 0,.a (.v 1) (.n 1))] rfl z (sF1 a 1)) (nl fun z=>far [a,(a - 1)] [(1,.a (.v 0) (.n 1),.a (.v 1) (.n 1)),(1,.a (.v 1) (.n 1),.v 0)] rfl z (sF3 (nl fun z619=>far [a] [(1,.n 4,.v 0),(1,.a (.v 0) (.n 1),.n 1)] rfl h0 z619)))
theorem JC (h0 : 4 ≤ (a + 1)) : 3 ≤ a:=nl fun z=>far [a] [(1,.n 4,.a (.v 0) (.n 1)),(1,.a (.v 0) (.n 1),.n 3)] rfl h0 z
theorem IF (h0 : (a + 1) ≤ b) : (b - a) = (((b - a) - 1) + 1):=na (nl fun z=>far [(b - a),((b - a) - 1)] [(1,.a (.a (.v 1) (.n 1)) (.n 1),.v 0),(1,.v 0,.a (.v 1) (.n 1))] rfl z (sF1 (b - a) 1)) (nl fun z=>far [(b - a),((b - a) - 1)] [(1,.a (.v 0) (.n 1),.a (.v 1) (.n 1)),(1,.a (.v 1) (.n 1),.v 0)] rfl z (sF3 (nl fun z630=>far [a,b,(b - a)] [(1,.a (.v 0) (.n 1),.v 1),(1,.a (.v 2) (.n 1),.n 1),(1,.v 1,.a (.v 2) (.v 0))] rfl h0 z630 (sF1 b a))))
theorem Jb (h0 : 30 ≤ a) : a = ((a - 1) + 1):=na (nl fun z=>far [a,(a - 1)] [(1,.a (.a (.v 1) (.n 1)) (.n 1),.v 0),(1,.v 0,.a (.v 1) (.n 1))] rfl z (sF1 a 1)) (nl fun z=>far [a,(a - 1)] [(1,.a (.v 0) (.n 1),.a (.v 1) (.n 1)),(1,.a (.v 1) (.n 1),.v 0)] rfl z (sF3 (nl fun z635=>far [a] [(1,.n 30,.v 0),(1,.a (.v 0) (.n 1),.n 1)] rfl h0 z635)))
theorem JT (h0 : 30 ≤ (a + 1)) : 4 ≤ a:=nl fun z=>far [a] [(1,.n 30,.a (.v 0) (.n 1)),(1,.a (.v 0) (.n 1),.n 4)] rfl h0 z
theorem IS (h0 : 30 ≤ (a + 1)) : ((3 * 3) + 11) ≤ a:=nl fun z=>far [a] [(1,.n 30,.a (.v 0) (.n 1)),(1,.a (.v 0) (.n 1),.a (.m 3 (.n 3)) (.n 11))] rfl h0 z
theorem IA (h0 : 30 ≤ (a + 1)) : (3 + 3) ≤ a:=nl fun z=>far [a] [(1,.n 30,.a (.v 0) (.n 1)),(1,.a (.v 0) (.n 1),.a (.n 3) (.n 3))] rfl h0 z
theorem J6 (h0 : (a + (b + 1)) ≤ 1000000) : a ≤ 1000000:=nl fun z=>far [a,b] [(1,.a (.v 0) (.a (.v 1) (.n 1)),.n 1000000),(1,.a (.n 1000000) (.n 1),.v 0)] rfl h0 z
theorem HE (h0 : a ≤ 1000) (h1 : b ≤ a) : b ≤ 1000000:=nl fun z=>far [a,b] [(1,.v 0,.n 1000),(1,.v 1,.v 0),(1,.a (.n 1000000) (.n 1),.v 1)] rfl h0 h1 z
theorem Id (h0 : a ≤ 1000) (h1 : b ≤ a) (h2 : c ≤ b) : c ≤ 1000000:=nl fun z=>far [a,b,c] [(1,.v 0,.n 1000),(1,.v 1,.v 0),(1,.v 2,.v 1),(1,.a (.n 1000000) (.n 1),.v 2)] rfl h0 h1 h2 z
theorem K3 : (((2 * 2758) + 1) + 3) ≤ 100000:=nl fun z=>far [] [(1,.a (.n 100000) (.n 1),.a (.a (.m 2 (.n 2758)) (.n 1)) (.n 3))] rfl z
theorem KZ : ((2 * 2758) + 1) ≤ 100000:=nl fun z=>far [] [(1,.a (.n 100000) (.n 1),.a (.m 2 (.n 2758)) (.n 1))] rfl z
theorem GF (h0 : a ≤ 63) : a ≤ 1000000:=nl fun z=>far [a] [(1,.v 0,.n 63),(1,.a (.n 1000000) (.n 1),.v 0)] rfl h0 z
theorem Fo (h0 : a ≤ 240) (h1 : b ≤ a) : b ≤ 1000:=nl fun z=>far [a,b] [(1,.v 0,.n 240),(1,.v 1,.v 0),(1,.a (.n 1000) (.n 1),.v 1)] rfl h0 h1 z
end
end Mine
end
section
namespace Mine
inductive ae where
 | none
 | bool (b : Bool)
 | int (i : Int)
 | str (s : Str)
 | lst (vs : List ae)
 | tup (vs : List ae)
 | inst (C : Addr) (fs : List (Str × ae))
 | rng (a b c : Int)
 | mref (i : Nat)
 deriving Inhabited
inductive ah where
 | lst (vs : List ae)
 | idict (kvs : List (Int × ae))
 | sdict (kvs : List (Str × ae))
 | inst (C : Addr) (fs : List (Str × ae))
 | gone
 deriving Inhabited
inductive Tag where
 | free | base | froz | below | frame | junk
 | mut (i : Nat)
noncomputable def Tag.solid : Tag → Bool
 | .base | .froz=>true
 | _=>false
noncomputable def Tag.kept : Tag → Bool
 | .base | .froz | .below=>true
 | _=>false
theorem Tag.kept_of_solid {t : Tag} (h : t.solid = true) : t.kept = true:=by cases t <;> first | rfl | cases h
structure Gh where
 tag : Addr → Tag
 ρ : List Addr
noncomputable def Gh.put (G : Gh) (a : Addr) (t : Tag) : Gh:={ G with tag:=fun b=>if b = a then t else G.tag b }
theorem Gh.put_same (G : Gh) (a : Addr) (t : Tag) : (G.put a t).tag a = t:=by simp [Gh.put]
theorem Gh.put_ne (G : Gh) {a b : Addr} (t : Tag) (h : b ≠ a) : (G.put a t).tag b = G.tag b:=by simp [Gh.put,h]
mutual
inductive bO (h : Heap) (G : Gh) : Value → ae → Prop
 | none : bO h G .none .none
 | bool (b : Bool) : bO h G (.bool b) (.bool b)
 | int (i : Int) (t : Tok) : bO h G (.int i t) (.int i)
 | str (x : Str) (t : Tok) : bO h G (.str x t) (.str x)
 | lst {a : Addr} {items : List Value} {vs : List ae} : (G.tag a).solid = true → h.IsList a items.toArray → bf h G items vs → bO h G (.ref a) (.lst vs)
 | tup {a : Addr} {items : List Value} {vs : List ae} : (G.tag a).solid = true → h.IsTuple a items.toArray → bf h G items vs → bO h G (.ref a) (.tup vs)
 | inst {x dx C : Addr} {es : List DictEntry} {n : Nat} {fs : List (Str × ae)} : (G.tag x).solid = true → (G.tag dx).solid = true → h.get? x = some (instObj C dx) → h.get? dx = some (dictOf es n) → dq h G es fs → bO h G (.ref x) (.inst C fs)
 | rng {a : Addr} {lo hi st : Int} {t u v : Tok} : (G.tag a).solid = true → IsRange h a lo hi st t u v → bO h G (.ref a) (.rng lo hi st)
 | mref {i : Nat} {a : Addr} : G.ρ[i]? = some a → bO h G (.ref a) (.mref i)
inductive bf (h : Heap) (G : Gh) : List Value → List ae → Prop
 | nil : bf h G [] []
 | cons {v : Value} {a : ae} {vs : List Value} {as : List ae} : bO h G v a → bf h G vs as → bf h G (v :: vs) (a :: as)
inductive dq (h : Heap) (G : Gh) : List DictEntry → List (Str × ae) → Prop
 | nil : dq h G [] []
 | cons {hs : Int} {k : Str} {t : Tok} {v : Value} {a : ae} {es : List DictEntry} {fs : List (Str × ae)} : bO h G v a → dq h G es fs → dq h G (⟨hs,.str k t,v⟩ :: es) ((k,a) :: fs)
end
structure Ext (h : Heap) (G : Gh) (h' : Heap) (G' : Gh) : Prop where
 tag : ∀ a,(G.tag a).kept = true → G'.tag a = G.tag a
 obj : ∀ a o,(G.tag a).kept = true → h.get? a = some o → h'.get? a = some o
 ρ : G.ρ <+: G'.ρ
theorem Ext.refl (h : Heap) (G : Gh) : Ext h G h G:=⟨fun _ _=>rfl,fun _ _ _ e=>e,List.prefix_refl _⟩
theorem Ext.trans {h h' h'' : Heap} {G G' G'' : Gh} (x : Ext h G h' G') (y : Ext h' G' h'' G'') : Ext h G h'' G'' where
 tag a k:=by rw [← x.tag a k]; exact y.tag a (by rw [x.tag a k]; exact k)
 obj a o k e:=y.obj a o (by rw [x.tag a k]; exact k) (x.obj a o k e)
 ρ:=x.ρ.trans y.ρ
theorem eC {α : Type} {l l' : List α} (p : l <+: l') {i : Nat} {a : α} (e : l[i]? = some a) : l'[i]? = some a:=by
 obtain ⟨t,rfl⟩:=p
 rw [List.getElem?_append_left (by obtain ⟨h,_⟩:=List.getElem?_eq_some_iff.mp e; exact h)]
 exact e
structure eN (h : Heap) (G : Gh) (h' : Heap) (G' : Gh) : Prop where
 tag : ∀ a,(G.tag a).solid = true → (G'.tag a).solid = true
 obj : ∀ a o,(G.tag a).solid = true → h.get? a = some o → h'.get? a = some o
 ρ : G.ρ <+: G'.ρ
theorem Ext.solid {h h' : Heap} {G G' : Gh} (x : Ext h G h' G') : eN h G h' G':=
 ⟨fun a k=>by rw [x.tag a (Tag.kept_of_solid k)]; exact k,fun a o k e=>x.obj a o (Tag.kept_of_solid k) e,x.ρ⟩
theorem bO.mono {h h' : Heap} {G G' : Gh} (s : eN h G h' G') {v : Value} {a : ae} (r : bO h G v a) : bO h' G' v a:=by
 refine bO.rec (motive_1:=fun v a i=>bO h' G' v a) (motive_2:=fun v a i=>bf h' G' v a) (motive_3:=fun v a i=>dq h' G' v a) .none (fun b=>.bool b) (fun i t=>.int i t) (fun x t=>.str x t) ?_ ?_ ?_ ?_ ?_ .nil ?_ .nil ?_ r
 ·intro a its vs k l g ih; exact .lst (s.tag _ k) (l.elim fun o l=>⟨o,s.obj _ _ k l.1,l.2⟩) ih
 ·intro a its vs k l g ih; exact .tup (s.tag _ k) (l.elim fun o l=>⟨o,s.obj _ _ k l.1,l.2⟩) ih
 ·intro x dx C es n fs k1 k2 e1 e2 g ih; exact .inst (s.tag _ k1) (s.tag _ k2) (s.obj _ _ k1 e1) (s.obj _ _ k2 e2) ih
 ·intro a lo hi st t u v k e; exact .rng (s.tag _ k) (s.obj _ _ k e)
 ·intro i a e; exact .mref (eC s.ρ e)
 ·intro v a vs as g g' i1 i2; exact .cons i1 i2
 ·intro hs k t v a es fs g g' i1 i2; exact .cons i1 i2
theorem bf.ind {h : Heap} {G : Gh} {P : List Value → List ae → Prop} (n : P [] []) (c : ∀ v a vs as,bO h G v a → bf h G vs as → P vs as → P (v :: vs) (a :: as)) {v : List Value} {a : List ae} (r : bf h G v a) : P v a:=by
 refine bf.rec (motive_1:=fun a b c=>True) (motive_2:=fun v a i=>P v a) (motive_3:=fun a b c=>True) ?_ ?_ ?_ ?_ ?_ ?_ ?_ ?_ ?_ ?_ ?_ ?_ ?_ r <;> intros <;> first | trivial | (apply c <;> assumption)
theorem dq.ind {h : Heap} {G : Gh} {P : List DictEntry → List (Str × ae) → Prop} (n : P [] []) (c : ∀ hs k t v a es fs,bO h G v a → dq h G es fs → P es fs → P (⟨hs,.str k t,v⟩ :: es) ((k,a) :: fs)) {v : List DictEntry} {a : List (Str × ae)} (r : dq h G v a) : P v a:=by
 refine dq.rec (motive_1:=fun a b c=>True) (motive_2:=fun a b c=>True) (motive_3:=fun v a i=>P v a) ?_ ?_ ?_ ?_ ?_ ?_ ?_ ?_ ?_ ?_ ?_ ?_ ?_ r <;> intros <;> first | trivial | (apply c <;> assumption)
theorem bf.mono {h h' : Heap} {G G' : Gh} (s : eN h G h' G') {v : List Value} {a : List ae} (r : bf h G v a) : bf h' G' v a:=bf.ind .nil (fun _ _ _ _ r _ ih=>.cons (r.mono s) ih) r
theorem dq.mono {h h' : Heap} {G G' : Gh} (s : eN h G h' G') {v : List DictEntry} {a : List (Str × ae)} (r : dq h G v a) : dq h' G' v a:=dq.ind .nil (fun _ _ _ _ _ _ _ r _ ih=>.cons (r.mono s) ih) r
theorem bf.length {h : Heap} {G : Gh} {v : List Value} {a : List ae} (r : bf h G v a) : v.length = a.length:=bf.ind (P:=fun v a=>v.length = a.length) rfl (fun _ _ _ _ _ _ ih=>congrArg (· + 1) ih) r
theorem bf.get {h : Heap} {G : Gh} {v : List Value} {as : List ae} (r : bf h G v as) : ∀ {i : Nat} {a : ae},as[i]? = some a → ∃ x,v[i]? = some x ∧ bO h G x a:=
 bf.ind (P:=fun v as=>∀ {i : Nat} {a : ae},as[i]? = some a → ∃ x,v[i]? = some x ∧ bO h G x a) (fun e=>nomatch e) (fun v a vs as r _ ih {i} {b} e=>by
  cases i with
  | zero=>cases e; exact ⟨_,rfl,r⟩
  | succ i=>exact ih e) r
theorem bf.append {h : Heap} {G : Gh} {v w : List Value} {a b : List ae} (x : bf h G v a) (y : bf h G w b) : bf h G (v ++ w) (a ++ b):=
 bf.ind (P:=fun v a=>bf h G (v ++ w) (a ++ b)) y (fun _ _ _ _ r _ ih=>.cons r ih) x
section
variable (prog : Program) (w : World)
inductive dT {K : Type} (h : Heap) (G : Gh) : List (K × Value) → List (K × ae) → Prop
 | nil : dT h G [] []
 | cons {k : K} {v : Value} {a : ae} {vs : List (K × Value)} {as : List (K × ae)} : bO h G v a → dT h G vs as → dT h G ((k,v) :: vs) ((k,a) :: as)
theorem dT.mono {K : Type} {h h' : Heap} {G G' : Gh} (s : eN h G h' G') {v : List (K × Value)} {a : List (K × ae)} (r : dT h G v a) : dT h' G' v a:=by
 induction r with
 | nil=>exact .nil
 | cons r _ ih=>exact .cons (r.mono s) ih
noncomputable def MAt (h : Heap) (G : Gh) (i : Nat) : ah → Prop
 | .lst vs=>∃ a items n,G.ρ[i]? = some a ∧ G.tag a = .mut i ∧ h.get? a = some (listOf (List.toArray items) n) ∧ bf h G items vs
 | .idict kvs=>∃ a ps,G.ρ[i]? = some a ∧ G.tag a = .mut i ∧ h.DictOf (intKind prog w) a ps ∧ dT h G ps kvs
 | .sdict kvs=>∃ a ps,G.ρ[i]? = some a ∧ G.tag a = .mut i ∧ h.DictOf (strKind prog w) a ps ∧ dT h G ps kvs
 | .inst C fs=>∃ x dx es n,G.ρ[i]? = some x ∧ G.tag x = .mut i ∧ G.tag dx = .mut i ∧ h.get? x = some (instObj C dx) ∧ h.get? dx = some (dictOf es n) ∧ dq h G es fs
 | .gone=>True
theorem MAt.mono {h h' : Heap} {G G' : Gh} {i : Nat} {o : ah} (s : eN h G h' G') (ht : ∀ a,G.tag a = .mut i → G'.tag a = .mut i ∧ ∀ o,h.get? a = some o → h'.get? a = some o) (x : MAt prog w h G i o) : MAt prog w h' G' i o:=by
 cases o with
 | lst vs=>obtain ⟨a,items,n,r,t,e,v⟩:=x; exact ⟨a,items,n,eC s.ρ r,(ht a t).1,(ht a t).2 _ e,v.mono s⟩
 | idict kvs=>obtain ⟨a,ps,r,t,⟨o,es,ep,e,q⟩,v⟩:=x; exact ⟨a,ps,eC s.ρ r,(ht a t).1,⟨o,es,ep,(ht a t).2 _ e,q⟩,v.mono s⟩
 | sdict kvs=>obtain ⟨a,ps,r,t,⟨o,es,ep,e,q⟩,v⟩:=x; exact ⟨a,ps,eC s.ρ r,(ht a t).1,⟨o,es,ep,(ht a t).2 _ e,q⟩,v.mono s⟩
 | inst C fs=>obtain ⟨x,dx,es,n,r,t1,t2,e1,e2,v⟩:=x; exact ⟨x,dx,es,n,eC s.ρ r,(ht x t1).1,(ht dx t2).1,(ht x t1).2 _ e1,(ht dx t2).2 _ e2,v.mono s⟩
 | gone=>trivial
variable (B : Heap)
structure bI (h : Heap) (G : Gh) (M : List ah) : Prop where
 base : ∀ b o,B.get? b = some o → G.tag b = .base ∧ h.get? b = some o
 live : ∀ a,G.tag a = .free ∨ ∃ o,h.get? a = some o
 len : G.ρ.length = M.length
 muts : ∀ i o,M[i]? = some o → MAt prog w h G i o
 size : B.objs.size ≤ h.objs.size
variable {prog w B}
theorem bI.free {h : Heap} {G : Gh} {M : List ah} (c : bI prog w B h G M) : G.tag h.objs.size = .free:=by
 rcases c.live h.objs.size with e | ⟨o,e⟩
 ·exact e
 ·exact absurd (Heap.lt_size e) (Nat.lt_irrefl _)
theorem bI.freeAt {h : Heap} {G : Gh} {M : List ah} (c : bI prog w B h G M) {a : Addr} (ha : h.objs.size ≤ a) : G.tag a = .free:=by
 rcases c.live a with e | ⟨o,e⟩
 ·exact e
 ·exact absurd (Heap.lt_size e) (Nat.not_lt.mpr ha)
end
end Mine
end
section
namespace Mine
section
variable {prog : Program} {w : World} {B : Heap} {h h' : Heap} {G G' : Gh} {M : List ah}
structure my (h : Heap) (G : Gh) (h' : Heap) (G' : Gh) : Prop where
 all : ∀ a,G.tag a ≠ .free → G'.tag a = G.tag a ∧ ∀ o,h.get? a = some o → h'.get? a = some o
 ρ : G.ρ <+: G'.ρ
 size : h.objs.size ≤ h'.objs.size
 live : ∀ a,G'.tag a = .free ∨ ∃ o,h'.get? a = some o
theorem ix {t : Tag} (k : t.kept = true) : t ≠ .free:=by
 intro e
 subst e
 cases k
theorem my.ext (g : my h G h' G') : Ext h G h' G':=
 ⟨fun a k=>(g.all a (ix k)).1,fun a o k e=>(g.all a (ix k)).2 o e,g.ρ⟩
theorem bI.grow (c : bI prog w B h G M) (g : my h G h' G') (hl : G'.ρ.length = M.length) : bI prog w B h' G' M where
 base b o e:=by
  obtain ⟨t,e'⟩:=c.base b o e
  obtain ⟨t',k⟩:=g.all b (by rw [t]; exact fun x=>nomatch x)
  exact ⟨t'.trans t,k _ e'⟩
 live:=g.live
 len:=hl
 muts i o e:=(c.muts i o e).mono prog w g.ext.solid fun a t=>by
  obtain ⟨t',k⟩:=g.all a (by rw [t]; exact fun x=>nomatch x)
  exact ⟨t'.trans t,k⟩
 size:=Nat.le_trans c.size g.size
theorem bI.growM {mo : ah} (c : bI prog w B h G M) (g : my h G h' G') (hl : G'.ρ.length = M.length + 1) (hm : MAt prog w h' G' M.length mo) : bI prog w B h' G' (M ++ [mo]) where
 base b o e:=by
  obtain ⟨t,e'⟩:=c.base b o e
  obtain ⟨t',k⟩:=g.all b (by rw [t]; exact fun x=>nomatch x)
  exact ⟨t'.trans t,k _ e'⟩
 live:=g.live
 len:=by rw [hl,List.length_append]; rfl
 muts i o e:=by
  by_cases hi : i < M.length
  ·rw [List.getElem?_append_left hi] at e
   refine (c.muts i o e).mono prog w g.ext.solid fun a t=>?_
   obtain ⟨t',k⟩:=g.all a (by rw [t]; exact fun x=>nomatch x)
   exact ⟨t'.trans t,k⟩
  ·obtain ⟨hi2,_⟩:=List.getElem?_eq_some_iff.mp e
   rw [List.length_append] at hi2
   have : i = M.length:=by simp at hi2; exact DB hi hi2
   subst this
   rw [List.getElem?_append_right (Nat.le_refl _),Nat.sub_self] at e
   cases e
   exact hm
 size:=Nat.le_trans c.size g.size
theorem bI.grow_push (c : bI prog w B h G M) (o : Obj) (t : Tag) (hf : o.isFreed = false) : my h G (h.push o) (G.put h.objs.size t) where
 all a k:=by
  have hne : a ≠ h.objs.size:=fun e=>k (e ▸ c.free)
  exact ⟨G.put_ne t hne,fun o' e=>Heap.get?_push_of_some o e⟩
 ρ:=List.prefix_refl _
 size:=by rw [Heap.size_push]; exact Nat.le_succ _
 live a:=by
  by_cases e : a = h.objs.size
  ·subst e; exact .inr ⟨o,Heap.get?_push_size _ hf⟩
  ·rw [G.put_ne t e]
   exact (c.live a).imp id fun ⟨o',e'⟩=>⟨o',Heap.get?_push_of_some o e'⟩
theorem bI.push (c : bI prog w B h G M) (o : Obj) (t : Tag) (hf : o.isFreed = false:=by rfl) : bI prog w B (h.push o) (G.put h.objs.size t) M:=c.grow (c.grow_push o t hf) c.len
theorem bI.push_ext (c : bI prog w B h G M) (o : Obj) (t : Tag) (hf : o.isFreed = false:=by rfl) : Ext h G (h.push o) (G.put h.objs.size t):=(c.grow_push o t hf).ext
noncomputable def Gh.add (G : Gh) (a : Addr) : Gh:={ tag:=(G.put a (.mut G.ρ.length)).tag,ρ:=G.ρ ++ [a] }
theorem bI.grow_pushM (c : bI prog w B h G M) (o : Obj) (hf : o.isFreed = false) : my h G (h.push o) (G.add h.objs.size) where
 all:=(c.grow_push o (.mut G.ρ.length) hf).all
 ρ:=List.prefix_append _ _
 size:=(c.grow_push o (.mut G.ρ.length) hf).size
 live:=(c.grow_push o (.mut G.ρ.length) hf).live
theorem Gh.add_tag (G : Gh) (a : Addr) : (G.add a).tag a = .mut G.ρ.length:=by simp [Gh.add,Gh.put]
theorem Gh.add_ρ (G : Gh) (a : Addr) : (G.add a).ρ[G.ρ.length]? = some a:=by simp [Gh.add]
theorem bI.pushM {o : Obj} {mo : ah} (c : bI prog w B h G M) (hf : o.isFreed = false) (hm : MAt prog w (h.push o) (G.add h.objs.size) M.length mo) : bI prog w B (h.push o) (G.add h.objs.size) (M ++ [mo]):=
 c.growM (c.grow_pushM o hf) (by simp [Gh.add,c.len]) hm
theorem bI.pushM_ext (c : bI prog w B h G M) (o : Obj) (hf : o.isFreed = false:=by rfl) : Ext h G (h.push o) (G.add h.objs.size):=(c.grow_pushM o hf).ext
theorem bI.turn {i : Nat} {a : Addr} {mo : ah} (c : bI prog w B h G M) (ta : G.tag a = .mut i) (hs : Heap.SameBut a h h') (hlv : ∃ o,h'.get? a = some o) (hm : MAt prog w h' G i mo) : bI prog w B h' G (M.set i mo) where
 base b o e:=by
  obtain ⟨t,e'⟩:=c.base b o e
  exact ⟨t,(hs.2 b (fun x=>by rw [x,ta] at t; cases t)).trans e'⟩
 live b:=by
  by_cases e : b = a
  ·subst e; exact .inr hlv
  ·exact (c.live b).imp id fun ⟨o,e'⟩=>⟨o,(hs.2 b e).trans e'⟩
 len:=by rw [List.length_set]; exact c.len
 muts j o e:=by
  rw [List.getElem?_set] at e
  by_cases hj : i = j
  ·subst hj
   rw [if_pos rfl] at e
   split at e
   ·cases e; exact hm
   ·cases e
  ·rw [if_neg hj] at e
   refine (c.muts j o e).mono prog w ⟨fun b k=>k,fun b o k e'=>(hs.2 b (fun x=>by rw [x,ta] at k; cases k)).trans e',List.prefix_refl _⟩ fun b t=>⟨t,fun o e'=>(hs.2 b (fun x=>?_)).trans e'⟩
   rw [x,ta] at t
   cases t; exact hj rfl
 size:=by rw [hs.1]; exact c.size
theorem fH {i : Nat} {a : Addr} (ta : G.tag a = .mut i) (hs : Heap.SameBut a h h') : Ext h G h' G:=
 ⟨fun _ _=>rfl,fun b o k e=>(hs.2 b (fun x=>by rw [x,ta] at k; cases k)).trans e,List.prefix_refl _⟩
theorem gj {i : Nat} {a : Addr} (ta : G.tag a = .mut i) (hs : Heap.SameBut a h h') : eN h G h' G:=(fH ta hs).solid
noncomputable def Gh.freeze (G : Gh) (i : Nat) : Gh:={ G with tag:=fun b=>match G.tag b with | .mut j=>if j = i then .froz else .mut j | t=>t }
theorem Gh.freeze_kept (G : Gh) (i : Nat) (a : Addr) (k : (G.tag a).kept = true) : (G.freeze i).tag a = G.tag a:=by
 unfold Gh.freeze; dsimp only; cases e : G.tag a <;> first | rfl | (rw [e] at k; cases k)
theorem Gh.freeze_self (G : Gh) (i : Nat) (a : Addr) (k : G.tag a = .mut i) : (G.freeze i).tag a = .froz:=by
 unfold Gh.freeze; dsimp only; rw [k]; simp
theorem Gh.freeze_ne (G : Gh) {i j : Nat} (a : Addr) (k : G.tag a = .mut j) (h : j ≠ i) : (G.freeze i).tag a = .mut j:=by
 unfold Gh.freeze; dsimp only; rw [k]; simp [h]
theorem Gh.freeze_free (G : Gh) (i : Nat) (a : Addr) (k : (G.freeze i).tag a ≠ .free) : G.tag a ≠ .free:=by
 intro e; apply k; unfold Gh.freeze; dsimp only; rw [e]
theorem iq (h : Heap) (G : Gh) (i : Nat) : Ext h G h (G.freeze i):=⟨fun a k=>G.freeze_kept i a k,fun _ _ _ e=>e,List.prefix_refl _⟩
theorem bI.freeze (c : bI prog w B h G M) (i : Nat) : bI prog w B h (G.freeze i) (M.set i .gone) where
 base b o e:=by
  obtain ⟨t,e'⟩:=c.base b o e
  exact ⟨by rw [G.freeze_kept i b (by rw [t]; rfl)]; exact t,e'⟩
 live b:=by
  rcases c.live b with e | e
  ·left; unfold Gh.freeze; dsimp only; rw [e]
  ·exact .inr e
 len:=by rw [List.length_set]; exact c.len
 muts j o e:=by
  rw [List.getElem?_set] at e
  by_cases hj : i = j
  ·rw [if_pos hj] at e
   split at e
   ·cases e; trivial
   ·cases e
  ·rw [if_neg hj] at e
   exact (c.muts j o e).mono prog w (iq h G i).solid fun b t=>⟨G.freeze_ne b t (Ne.symm hj),fun _ e=>e⟩
 size:=c.size
noncomputable def froz : ah → Option ae
 | .lst vs=>some (.lst vs)
 | .inst C fs=>some (.inst C fs)
 | _=>none
theorem bI.frozen {i : Nat} {mo : ah} {a : ae} {x : Value} (c : bI prog w B h G M) (e : M[i]? = some mo) (ef : froz mo = some a) (hx : bO h G x (.mref i)) : bO h (G.freeze i) x a:=by
 have hm:=c.muts i mo e
 have s:=(iq h G i).solid
 cases hx with
 | mref r=>
  cases mo with
  | lst vs=>
   cases ef
   obtain ⟨b,items,n,r',t,e',v⟩:=hm
   rw [r] at r'; cases r'
   exact .lst (by rw [G.freeze_self i _ t]; rfl) ⟨_,e',rfl,n,rfl⟩ (v.mono s)
  | inst C fs=>
   cases ef
   obtain ⟨b,dx,es,n,r',t1,t2,e1,e2,v⟩:=hm
   rw [r] at r'; cases r'
   exact .inst (by rw [G.freeze_self i _ t1]; rfl) (by rw [G.freeze_self i _ t2]; rfl) e1 e2 (v.mono s)
  | _=>cases ef
end
structure Frm where
 env : Env
 names : List Str
 own : List Addr
noncomputable abbrev Frm.L (Φ : Frm) : Addr:=Φ.env.locals
noncomputable def Gh.putAll (G : Gh) (as : List Addr) (t : Tag) : Gh:={ G with tag:=fun b=>if b ∈ as then t else G.tag b }
theorem Gh.putAll_in (G : Gh) {as : List Addr} {a : Addr} (t : Tag) (h : a ∈ as) : (G.putAll as t).tag a = t:=by simp [Gh.putAll,h]
theorem Gh.putAll_out (G : Gh) {as : List Addr} {a : Addr} (t : Tag) (h : a ∉ as) : (G.putAll as t).tag a = G.tag a:=by simp [Gh.putAll,h]
noncomputable def Frm.low (Φ : Frm) (G : Gh) : Gh:=G.putAll Φ.own .below
noncomputable def Frm.high (Φ : Frm) (G : Gh) : Gh:=G.putAll Φ.own .frame
structure Frm.Ok (Φ : Frm) : Prop where
 kind : Φ.env.scope.kind = .function
 glob : Φ.env.globals = mainGlobals
 blt : Φ.env.builtins = builtinsNs
 nd : Φ.names.Nodup
 kinds : ∀ x ∈ Φ.names,Φ.env.kindOf x = some .local ∨ (Φ.env.kindOf x = some .cell ∧ ∃ c,Φ.env.cells.lookup x = some c)
 Lown : Φ.L ∈ Φ.own
 apart : ∀ x c,Φ.env.cells.lookup x = some c → c ≠ Φ.L
 inj : ∀ x y c,Φ.env.cells.lookup x = some c → Φ.env.cells.lookup y = some c → x = y
noncomputable def Frm.Has (Φ : Frm) (h : Heap) (mm : Str → Option Value) (x : Str) (v : Value) : Prop:=
 (Φ.env.kindOf x = some .local ∧ mm x = some v) ∨ (∃ c,Φ.env.kindOf x = some .cell ∧ Φ.env.cells.lookup x = some c ∧ h.IsCell c (some v))
noncomputable def Frm.Place (Φ : Frm) (a : Addr) : Prop:=a ∈ Φ.own ∨ ∃ x,Φ.env.cells.lookup x = some a
noncomputable abbrev Loc:=List (Option ae)
structure St (prog : Program) (w : World) (B : Heap) (Φ : Frm) (h : Heap) (G : Gh) (mm : Str → Option Value) (loc : Loc) (M : List ah) : Prop where
 core : bI prog w B h G M
 ns : h.Ns Φ.L mm
 own : ∀ a ∈ Φ.own,G.tag a = .frame ∧ ∃ o,h.get? a = some o
 cell : ∀ x c,Φ.env.cells.lookup x = some c → (∃ v,h.IsCell c v) ∧ (c ∈ Φ.own ∨ G.tag c = .below)
 above : B.objs.size ≤ Φ.L
 ok : Φ.Ok
 loc : ∀ (i : Nat) (x : Str) (a : ae),Φ.names[i]? = some x → loc[i]? = some (some a) → ∃ v,Φ.Has h mm x v ∧ bO h G v a
section
variable {prog : Program} {w : World} {B : Heap} {h h' : Heap} {G G' : Gh} {M M' : List ah} {Φ : Frm} {mm : Str → Option Value} {loc : Loc}
theorem Ns.at_ {h h' : Heap} {L : Addr} {m : Str → Option Value} (x : h.Ns L m) (k : ∀ o,h.get? L = some o → h'.get? L = some o) : h'.Ns L m:=
 let ⟨o,a1,a2,hL,a3⟩:=x; ⟨o,a1,a2,k _ hL,a3⟩
theorem IsCell.at_ {h h' : Heap} {c : Addr} {v : Option Value} (x : h.IsCell c v) (k : ∀ o,h.get? c = some o → h'.get? c = some o) : h'.IsCell c v:=
 let ⟨o,e,r⟩:=x; ⟨o,k _ e,r⟩
theorem St.fr (S : St prog w B Φ h G mm loc M) : Fr B Φ.L h mm:=⟨S.ns,fun b o e=>(S.core.base b o e).2,S.above⟩
theorem St.keep (S : St prog w B Φ h G mm loc M) : ∀ b o,B.get? b = some o → h.get? b = some o:=fun b o e=>(S.core.base b o e).2
theorem St.tL (S : St prog w B Φ h G mm loc M) : G.tag Φ.L = .frame:=(S.own _ S.ok.Lown).1
theorem St.place (S : St prog w B Φ h G mm loc M) {a : Addr} (p : Φ.Place a) : G.tag a = .frame ∨ G.tag a = .below:=by
 rcases p with p | ⟨x,p⟩
 ·exact .inl (S.own a p).1
 ·rcases (S.cell x a p).2 with q | q
  ·exact .inl (S.own a q).1
  ·exact .inr q
theorem Frm.Has.at_ {v : Value} {x : Str} (q : Φ.Has h mm x v) (k : ∀ a,Φ.Place a → ∀ o,h.get? a = some o → h'.get? a = some o) : Φ.Has h' mm x v:=by
 rcases q with q | ⟨c,k1,k2,k3⟩
 ·exact .inl q
 ·exact .inr ⟨c,k1,k2,IsCell.at_ k3 (k c (.inr ⟨x,k2⟩))⟩
theorem St.move (S : St prog w B Φ h G mm loc M) (c : bI prog w B h' G' M') (sol : eN h G h' G') (k : ∀ a,Φ.Place a → G'.tag a = G.tag a ∧ ∀ o,h.get? a = some o → h'.get? a = some o) : St prog w B Φ h' G' mm loc M' where
 core:=c
 ns:=Ns.at_ S.ns (k _ (.inl S.ok.Lown)).2
 own a ha:=by
  obtain ⟨t,o,e⟩:=S.own a ha
  obtain ⟨t',e'⟩:=k a (.inl ha)
  exact ⟨t'.trans t,o,e' o e⟩
 cell x a e:=by
  obtain ⟨⟨v,q⟩,r⟩:=S.cell x a e
  obtain ⟨t',e'⟩:=k a (.inr ⟨x,e⟩)
  exact ⟨⟨v,IsCell.at_ q e'⟩,r.imp id fun r=>t'.trans r⟩
 above:=S.above
 ok:=S.ok
 loc i x a e1 e2:=by
  obtain ⟨v,hv,r⟩:=S.loc i x a e1 e2
  exact ⟨v,hv.at_ fun a p=>(k a p).2,r.mono sol⟩
theorem St.grow (S : St prog w B Φ h G mm loc M) (c : bI prog w B h' G' M') (g : my h G h' G') : St prog w B Φ h' G' mm loc M':=
 S.move c g.ext.solid fun a p=>g.all a fun e=>by rcases S.place p with q | q <;> rw [q] at e <;> cases e
theorem fQ {as : List Addr} {t : Tag} (hL : ∀ a ∈ as,(G.tag a).solid = false) : eN h G h (G.putAll as t):=by
 refine ⟨fun a k=>?_,fun a o _ e=>e,List.prefix_refl _⟩
 by_cases e : a ∈ as
 ·rw [hL a e] at k; cases k
 ·rw [G.putAll_out _ e]; exact k
theorem bI.retag (c : bI prog w B h G M) {as : List Addr} {t t' : Tag} (hL : ∀ a ∈ as,G.tag a = t) (h1 : t ≠ .base) (h2 : ∀ i,t ≠ .mut i) (h3 : t.solid = false) (hlive : ∀ a ∈ as,∃ o,h.get? a = some o) : bI prog w B h (G.putAll as t') M where
 base b o e:=by
  obtain ⟨tb,e'⟩:=c.base b o e
  refine ⟨?_,e'⟩
  rw [G.putAll_out _ (fun x=>h1 (by rw [← hL b x,tb]))]
  exact tb
 live b:=by
  by_cases e : b ∈ as
  ·exact .inr (hlive b e)
  ·rw [G.putAll_out _ e]; exact c.live b
 len:=c.len
 muts i o e:=(c.muts i o e).mono prog w (fQ fun a ha=>by rw [hL a ha]; exact h3) fun a ta=>⟨by rw [G.putAll_out _ (fun x=>h2 i (by rw [← hL a x,ta]))]; exact ta,fun _ e=>e⟩
 size:=c.size
theorem St.lower (S : St prog w B Φ h G mm loc M) : bI prog w B h (Φ.low G) M:=
 S.core.retag (fun a ha=>(S.own a ha).1) (fun e=>nomatch e) (fun _ e=>nomatch e) rfl fun a ha=>(S.own a ha).2
theorem St.low_solid (S : St prog w B Φ h G mm loc M) : eN h G h (Φ.low G):=fQ fun a ha=>by rw [(S.own a ha).1]; rfl
theorem St.lower_val (S : St prog w B Φ h G mm loc M) {v : Value} {a : ae} (r : bO h G v a) : bO h (Φ.low G) v a:=r.mono S.low_solid
theorem St.lower_vals (S : St prog w B Φ h G mm loc M) {v : List Value} {a : List ae} (r : bf h G v a) : bf h (Φ.low G) v a:=r.mono S.low_solid
theorem St.low_place (S : St prog w B Φ h G mm loc M) {a : Addr} (p : Φ.Place a) : (Φ.low G).tag a = .below:=by
 by_cases q : a ∈ Φ.own
 ·exact G.putAll_in _ q
 ·show (G.putAll _ _).tag a = _
  rw [G.putAll_out _ q]
  rcases p with p | ⟨x,p⟩
  ·exact absurd p q
  ·exact ((S.cell x a p).2).resolve_left q
theorem St.tag_back (S : St prog w B Φ h G mm loc M) (x : Ext h (Φ.low G) h' G') {a : Addr} (p : Φ.Place a) : G'.tag a = .below:=by
 rw [x.tag a (by rw [S.low_place p]; rfl),S.low_place p]
theorem St.back_solid (S : St prog w B Φ h G mm loc M) (x : Ext h (Φ.low G) h' G') : eN h' G' h' (Φ.high G'):=fQ fun a ha=>by rw [S.tag_back x (.inl ha)]; rfl
theorem St.back_ext (S : St prog w B Φ h G mm loc M) (x : Ext h (Φ.low G) h' G') : Ext h G h' (Φ.high G'):=by
 have no : ∀ a,(G.tag a).kept = true → a ∉ Φ.own:=fun a k e=>by rw [(S.own a e).1] at k; cases k
 refine ⟨fun a k=>?_,fun a o k e=>?_,x.ρ⟩
 ·show (G'.putAll _ _).tag a = _
  have e1 : (Φ.low G).tag a = G.tag a:=G.putAll_out _ (no a k)
  rw [G'.putAll_out _ (no a k),x.tag a (by rw [e1]; exact k),e1]
 ·exact x.obj a o (by rw [show (Φ.low G).tag a = G.tag a from G.putAll_out _ (no a k)]; exact k) e
theorem St.back_val (S : St prog w B Φ h G mm loc M) (x : Ext h (Φ.low G) h' G') {v : Value} {a : ae} (r : bO h' G' v a) : bO h' (Φ.high G') v a:=r.mono (S.back_solid x)
theorem St.back (S : St prog w B Φ h G mm loc M) (x : Ext h (Φ.low G) h' G') (c : bI prog w B h' G' M') : St prog w B Φ h' (Φ.high G') mm loc M':=by
 have ob : ∀ a,Φ.Place a → ∀ o,h.get? a = some o → h'.get? a = some o:=fun a p o e=>x.obj a o (by rw [S.low_place p]; rfl) e
 refine S.move ?_ (S.back_ext x).solid fun a p=>⟨?_,ob a p⟩
 ·refine c.retag (fun a ha=>S.tag_back x (.inl ha)) (fun e=>nomatch e) (fun _ e=>nomatch e) rfl fun a ha=>?_
  obtain ⟨o,e⟩:=(S.own a ha).2
  exact ⟨o,ob a (.inl ha) o e⟩
 ·by_cases q : a ∈ Φ.own
  ·rw [(S.own a q).1]; exact G'.putAll_in _ q
  ·show (G'.putAll _ _).tag a = _
   rw [G'.putAll_out _ q,S.tag_back x p]
   rcases p with p | ⟨y,p⟩
   ·exact absurd p q
   ·exact (((S.cell y a p).2).resolve_left q).symm
theorem pD (ok : Φ.Ok) {i j : Nat} {x : Str} (e1 : Φ.names[i]? = some x) (e2 : Φ.names[j]? = some x) : i = j:=by
 obtain ⟨l1,g1⟩:=List.getElem?_eq_some_iff.mp e1
 obtain ⟨l2,g2⟩:=List.getElem?_eq_some_iff.mp e2
 exact (List.getElem_inj ok.nd).mp (g1.trans g2.symm)
theorem St.turnOwn (S : St prog w B Φ h G mm loc M) {p : Addr} (hp : p ∈ Φ.own) (hs : Heap.SameBut p h h') (hlv : ∃ o,h'.get? p = some o) : bI prog w B h' G M ∧ Ext h G h' G:=by
 have tp:=(S.own p hp).1
 have ne : ∀ b,(G.tag b) ≠ .frame → b ≠ p:=fun b k e=>k (e ▸ tp)
 have X : Ext h G h' G:=⟨fun _ _=>rfl,fun b o k e=>(hs.2 b (ne b fun t=>by rw [t] at k; cases k)).trans e,List.prefix_refl _⟩
 refine ⟨⟨fun b o e=>?_,fun b=>?_,S.core.len,fun j o e=>?_,by rw [hs.1]; exact S.core.size⟩,X⟩
 ·obtain ⟨t,e'⟩:=S.core.base b o e
  exact ⟨t,(hs.2 b (ne b (by rw [t]; exact fun x=>nomatch x))).trans e'⟩
 ·by_cases e : b = p
  ·subst e; exact .inr hlv
  ·exact (S.core.live b).imp id fun ⟨o,e'⟩=>⟨o,(hs.2 b e).trans e'⟩
 ·exact (S.core.muts j o e).mono prog w X.solid fun b t=>⟨t,fun o e'=>(hs.2 b (ne b (by rw [t]; exact fun x=>nomatch x))).trans e'⟩
theorem St.store (S : St prog w B Φ h G mm loc M) {i : Nat} {x : Str} {v : Value} {a : ae} (hi : Φ.names[i]? = some x) (hk : Φ.env.kindOf x = some .local) (r : bO h G v a) (hn : h'.Ns Φ.L (fun y=>if y = x then some v else mm y)) (hs : Heap.SameBut Φ.L h h') :
  St prog w B Φ h' G (fun y=>if y = x then some v else mm y) (loc.set i (some a)) M ∧ Ext h G h' G:=by
 have hlv : ∃ o,h'.get? Φ.L = some o:=let ⟨o,a1,a2,hL,a3⟩:=hn; ⟨o,hL⟩
 obtain ⟨c,X⟩:=S.turnOwn S.ok.Lown hs hlv
 refine ⟨⟨c,hn,fun b hb=>?_,fun y c e=>?_,S.above,S.ok,fun j y b e1 e2=>?_⟩,X⟩
 ·obtain ⟨t,o,e⟩:=S.own b hb
  refine ⟨t,?_⟩
  by_cases q : b = Φ.L
  ·subst q; exact hlv
  ·exact ⟨o,(hs.2 b q).trans e⟩
 ·obtain ⟨⟨v,q⟩,r⟩:=S.cell y c e
  exact ⟨⟨v,IsCell.at_ q fun o e'=>(hs.2 c (S.ok.apart y c e)).trans e'⟩,r⟩
 ·rw [List.getElem?_set] at e2
  by_cases hj : i = j
  ·subst hj
   rw [hi] at e1; cases e1
   rw [if_pos rfl] at e2
   split at e2
   ·cases e2; exact ⟨v,.inl ⟨hk,by simp⟩,r.mono X.solid⟩
   ·cases e2
  ·rw [if_neg hj] at e2
   obtain ⟨u,hu,q⟩:=S.loc j y b e1 e2
   refine ⟨u,?_,q.mono X.solid⟩
   have hne : y ≠ x:=fun e=>hj (pD S.ok hi (e ▸ e1))
   rcases hu with ⟨k1,k2⟩ | ⟨c,k1,k2,k3⟩
   ·exact .inl ⟨k1,by simp [hne,k2]⟩
   ·exact .inr ⟨c,k1,k2,IsCell.at_ k3 fun o e'=>(hs.2 c (S.ok.apart y c k2)).trans e'⟩
theorem St.storeC (S : St prog w B Φ h G mm loc M) {i : Nat} {x : Str} {c : Addr} {v : Value} {a : ae} (hi : Φ.names[i]? = some x) (hk : Φ.env.kindOf x = some .cell) (hc : Φ.env.cells.lookup x = some c) (ho : c ∈ Φ.own) (r : bO h G v a) (hv : h'.IsCell c (some v)) (hs : Heap.SameBut c h h') :
  St prog w B Φ h' G mm (loc.set i (some a)) M ∧ Ext h G h' G:=by
 have hlv : ∃ o,h'.get? c = some o:=let ⟨o,e,_⟩:=hv; ⟨o,e⟩
 obtain ⟨C,X⟩:=S.turnOwn ho hs hlv
 have hLc:=S.ok.apart x c hc
 refine ⟨⟨C,Ns.at_ S.ns fun o e=>(hs.2 _ (Ne.symm hLc)).trans e,fun b hb=>?_,fun y c' e=>?_,S.above,S.ok,fun j y b e1 e2=>?_⟩,X⟩
 ·obtain ⟨t,o,e⟩:=S.own b hb
  refine ⟨t,?_⟩
  by_cases q : b = c
  ·subst q; exact hlv
  ·exact ⟨o,(hs.2 b q).trans e⟩
 ·obtain ⟨⟨u,q⟩,r⟩:=S.cell y c' e
  refine ⟨?_,r⟩
  by_cases z : c' = c
  ·subst z; exact ⟨_,hv⟩
  ·exact ⟨u,IsCell.at_ q fun o e'=>(hs.2 c' z).trans e'⟩
 ·rw [List.getElem?_set] at e2
  by_cases hj : i = j
  ·subst hj
   rw [hi] at e1; cases e1
   rw [if_pos rfl] at e2
   split at e2
   ·cases e2; exact ⟨v,.inr ⟨c,hk,hc,hv⟩,r.mono X.solid⟩
   ·cases e2
  ·rw [if_neg hj] at e2
   obtain ⟨u,hu,q⟩:=S.loc j y b e1 e2
   refine ⟨u,?_,q.mono X.solid⟩
   have hne : y ≠ x:=fun e=>hj (pD S.ok hi (e ▸ e1))
   rcases hu with q' | ⟨c',k1,k2,k3⟩
   ·exact .inl q'
   ·refine .inr ⟨c',k1,k2,IsCell.at_ k3 fun o e'=>(hs.2 c' fun z=>hne ?_).trans e'⟩
    exact S.ok.inj _ _ _ k2 (z ▸ hc)
end
end Mine
end
section
namespace Mine
noncomputable abbrev Mo (α : Type):=List ah → Option (α × List ah)
noncomputable def ret {α : Type} (a : α) : Mo α:=fun M=>some (a,M)
noncomputable def bnd {α β : Type} (m : Mo α) (f : α → Mo β) : Mo β:=fun M=>match m M with
 | none=>none
 | some (a,M')=>f a M'
noncomputable def dK {α : Type} : Mo α:=fun _=>none
theorem aL {α β : Type} {m : Mo α} {f : α → Mo β} {M : List ah} {r : β × List ah} (e : bnd m f M = some r) : ∃ a M',m M = some (a,M') ∧ f a M' = some r:=by
 unfold bnd at e
 split at e
 ·cases e
 ·rename_i h; exact ⟨a,M',h,e⟩
theorem qf {α β : Type} {m : Mo α} {f : α → Mo β} {M M' : List ah} {a : α} (h : m M = some (a,M')) : bnd m f M = f a M':=by
 unfold bnd; rw [h]
structure eV (A : Around) (b : Nat) : Prop where
 hd : A.handled = none
 dp : A.depth + b < recursionLimit
 un : A.units + 8 * b < cLine
theorem eV.mono {A : Around} {b b' : Nat} (r : eV A b) (h : b' ≤ b) : eV A b':=⟨r.hd,Nat.lt_of_le_of_lt (Nat.add_le_add_left h _) r.dp,Nat.lt_of_le_of_lt (Nat.add_le_add_left (Nat.mul_le_mul_left 8 h) _) r.un⟩
section
variable (prog : Program) (w : World) (B : Heap)
noncomputable def gG (A : Around) (t : Sem Value) (s : Shared) (G : Gh) (r : ae) (M' : List ah) : Prop:=
 ∀ (Q : Value → Shared → Prop) (E : Value → Shared → Prop),
  (∀ h' tk' G' x,bI prog w B h' G' M' → Ext s.heap G h' G' → bO h' G' x r → Q x { s with heap:=h',toks:=tk' }) → wpAny (model prog w) A t Q E s
noncomputable def rI (Φ : Frm) (mm : Str → Option Value) (loc : Loc) (A : Around) (t : Sem Value) (s : Shared) (G : Gh) (r : ae) (M' : List ah) : Prop:=
 ∀ (Q : Value → Shared → Prop) (E : Value → Shared → Prop),
  (∀ h' tk' G' x,St prog w B Φ h' G' mm loc M' → Ext s.heap G h' G' → bO h' G' x r → Q x { s with heap:=h',toks:=tk' }) → wpAny (model prog w) A t Q E s
structure Sg where
 scope : Scope
 names : List Str
noncomputable def Frm.Of (Φ : Frm) (sg : Sg) : Prop:=Φ.env.scope = sg.scope ∧ Φ.names = sg.names
noncomputable def Frm.OfS (Φ : Frm) (sg : Sg) : Prop:=Φ.Of sg ∧ ∀ x c,Φ.env.cells.lookup x = some c → c ∈ Φ.own
noncomputable def bT (b : Nat) (sg : Sg) (e : Expr) (m : Loc → Mo ae) : Prop:=
 ∀ (A : Around) (Φ : Frm) (s : Shared) (G : Gh) (mm : Str → Option Value) (loc : Loc) (M : List ah) (r : ae) (M' : List ah),
  eV A b → Φ.Of sg → St prog w B Φ s.heap G mm loc M → m loc M = some (r,M') → rI prog w B Φ mm loc A (eval e Φ.env) s G r M'
noncomputable def iH (b : Nat) (sg : Sg) (es : List Expr) (m : Loc → Mo (List ae)) : Prop:=
 ∀ (A : Around) (Φ : Frm) (pos : Pos) (s : Shared) (G : Gh) (mm : Str → Option Value) (loc : Loc) (M : List ah) (r : List ae) (M' : List ah),
  eV A b → Φ.Of sg → St prog w B Φ s.heap G mm loc M → m loc M = some (r,M') →
  ∀ (Q : List Value → Shared → Prop) (E : Value → Shared → Prop),
   (∀ h' tk' G' x,St prog w B Φ h' G' mm loc M' → Ext s.heap G h' G' → bf h' G' x r → Q x { s with heap:=h',toks:=tk' }) →
   wpAny (model prog w) A (spliced (backTo pos (starEach es Φ.env))) Q E s
noncomputable def k8 (b : Nat) (sg : Sg) (e : Expr) (m : Loc → Mo Bool) : Prop:=
 ∀ (A : Around) (Φ : Frm) (s : Shared) (G : Gh) (mm : Str → Option Value) (loc : Loc) (M : List ah) (r : Bool) (M' : List ah),
  eV A b → Φ.Of sg → St prog w B Φ s.heap G mm loc M → m loc M = some (r,M') →
  ∀ (Q : Bool → Shared → Prop) (E : Value → Shared → Prop),
   (∀ h' tk' G',St prog w B Φ h' G' mm loc M' → Ext s.heap G h' G' → Q r { s with heap:=h',toks:=tk' }) →
   wpAny (model prog w) A (isTrue e Φ.env (eval e Φ.env)) Q E s
inductive Fl where
 | next | brk
 | ret (v : ae)
inductive AJ (h : Heap) (G : Gh) : Flow → Fl → Prop
 | next : AJ h G .next .next
 | brk : AJ h G .brk .brk
 | ret {v : Value} {a : ae} : bO h G v a → AJ h G (.ret v) (.ret a)
noncomputable def CA (Φ : Frm) (A : Around) (t : Sem Flow) (s : Shared) (G : Gh) (r : Fl) (loc' : Loc) (M' : List ah) : Prop:=
 ∀ (Q : Flow → Shared → Prop) (E : Value → Shared → Prop),
  (∀ h' tk' G' mm' x,St prog w B Φ h' G' mm' loc' M' → Ext s.heap G h' G' → AJ h' G' x r → Q x { s with heap:=h',toks:=tk' }) → wpAny (model prog w) A t Q E s
noncomputable def ig (b : Nat) (sg : Sg) (st : Stmt) (m : Loc → Mo (Fl × Loc)) : Prop:=
 ∀ (A : Around) (Φ : Frm) (s : Shared) (G : Gh) (mm : Str → Option Value) (loc : Loc) (M : List ah) (r : Fl) (loc' : Loc) (M' : List ah),
  eV A b → Φ.OfS sg → St prog w B Φ s.heap G mm loc M → m loc M = some ((r,loc'),M') → CA prog w B Φ A (exec st Φ.env) s G r loc' M'
noncomputable def cz (b : Nat) (sg : Sg) (st : List Stmt) (m : Loc → Mo (Fl × Loc)) : Prop:=
 ∀ (A : Around) (Φ : Frm) (s : Shared) (G : Gh) (mm : Str → Option Value) (loc : Loc) (M : List ah) (r : Fl) (loc' : Loc) (M' : List ah),
  eV A b → Φ.OfS sg → St prog w B Φ s.heap G mm loc M → m loc M = some ((r,loc'),M') → CA prog w B Φ A (execs st Φ.env) s G r loc' M'
noncomputable def pa (b : Nat) (t : Value → Sem Value) (f : ae → Mo ae) : Prop:=
 ∀ (A : Around) (s : Shared) (G : Gh) (M : List ah) (x : Value) (a r : ae) (M' : List ah),
  eV A b → bI prog w B s.heap G M → bO s.heap G x a → f a M = some (r,M') → gG prog w B A (t x) s G r M'
noncomputable def cH (b : Nat) (t : Value → Value → Sem Value) (f : ae → ae → Mo ae) : Prop:=
 ∀ (A : Around) (s : Shared) (G : Gh) (M : List ah) (x y : Value) (a c r : ae) (M' : List ah),
  eV A b → bI prog w B s.heap G M → bO s.heap G x a → bO s.heap G y c → f a c M = some (r,M') → gG prog w B A (t x y) s G r M'
noncomputable def ij (b : Nat) (f : Value) (F : List ae → Mo ae) : Prop:=
 ∀ (A : Around) (s : Shared) (G : Gh) (M : List ah) (xs : List Value) (as : List ae) (r : ae) (M' : List ah),
  eV A b → bI prog w B s.heap G M → bf s.heap G xs as → F as M = some (r,M') → gG prog w B A (call f xs) s G r M'
end
section
variable {prog : Program} {w : World} {B : Heap} {b : Nat} {sg : Sg}
theorem gG.lift {Φ : Frm} {mm : Str → Option Value} {loc : Loc} {A : Around} {t : Sem Value} {s : Shared} {G : Gh} {r : ae} {M M' : List ah}
  (S : St prog w B Φ s.heap G mm loc M) (x : gG prog w B A t s (Φ.low G) r M') : rI prog w B Φ mm loc A t s G r M':=fun Q E h=>
 x Q E fun h' tk' G' v c e r=>h h' tk' _ v (S.back e c) (S.back_ext e) (S.back_val e r)
theorem rI.bind {Φ : Frm} {mm : Str → Option Value} {loc : Loc} {A : Around} {t : Sem Value} {s : Shared} {G : Gh} {r : ae} {M' : List ah} {Q : Value → Shared → Prop} {E : Value → Shared → Prop}
  (x : rI prog w B Φ mm loc A t s G r M') (h : ∀ h' tk' G' v,St prog w B Φ h' G' mm loc M' → Ext s.heap G h' G' → bO h' G' v r → Q v { s with heap:=h',toks:=tk' }) : wpAny (model prog w) A t Q E s:=x Q E h
noncomputable def af (i : Nat) : Loc → Mo ae:=fun loc M=>match loc[i]? with
 | some (some v)=>some (v,M)
 | _=>none
theorem Ex {i : Nat} {x : Str} {pos : Pos} (hi : sg.names[i]? = some x) (hd : (x == ("__debug__" : Str)) = false:=by decide) : bT prog w B b sg (.Name x pos) (af i):=by
 intro A Φ s G mm loc M r M' _ hΦ S e Q E h
 unfold af at e
 split at e
 ·rename_i hv
  cases e
  have hi' : Φ.names[i]? = some x:=by rw [hΦ.2]; exact hi
  obtain ⟨u,hu,q⟩:=S.loc i x _ hi' hv
  have fin:=h s.heap s.toks G u S (Ext.refl _ _) q
  rcases hu with ⟨k1,k2⟩ | ⟨c,k1,k2,k3⟩
  ·exact wpAny_Name (wpAny_loadName_local S.ok.kind k1 S.ns k2 fin) hd
  ·exact wpAny_Name (wpAny_loadName_cell S.ok.kind k1 k2 k3 fin) hd
 ·cases e
noncomputable def ar (a : ae) : Loc → Mo ae:=fun _=>ret a
theorem aJ {i : Int} {k : Nat} {pos : Pos} : bT prog w B b sg (.Constant (.int i) k pos) (ar (.int i)):=by
 intro A Φ s G mm loc M r M' _ hΦ S e Q E h
 cases e
 exact wpAny_Constant_int (h s.heap _ G _ S (Ext.refl _ _) (.int ..))
theorem aW {x : Str} {k : Nat} {pos : Pos} : bT prog w B b sg (.Constant (.str x) k pos) (ar (.str x)):=by
 intro A Φ s G mm loc M r M' _ hΦ S e Q E h
 cases e
 exact wpAny_Constant_str (h s.heap _ G _ S (Ext.refl _ _) (.str ..))
theorem db {k : Nat} {pos : Pos} : bT prog w B b sg (.Constant .none k pos) (ar .none):=by
 intro A Φ s G mm loc M r M' _ hΦ S e Q E h
 cases e
 exact wpAny_Constant_none (h s.heap s.toks G _ S (Ext.refl _ _) .none)
theorem iW {v : Bool} {k : Nat} {pos : Pos} : bT prog w B b sg (.Constant (.bool v) k pos) (ar (.bool v)):=by
 intro A Φ s G mm loc M r M' _ hΦ S e Q E h
 cases e
 exact wpAny_Constant_bool (h s.heap s.toks G _ S (Ext.refl _ _) (.bool ..))
noncomputable def aE (f : ae → ae → Mo ae) (l r : Loc → Mo ae) : Loc → Mo ae:=fun loc=>bnd (l loc) fun a=>bnd (r loc) fun c=>f a c
theorem kQ {l r : Loc → Mo ae} {f : ae → ae → Mo ae} {el er : Expr} {t : Value → Value → Sem Value} (hl : bT prog w B b sg el l) (hr : bT prog w B b sg er r) (ho : cH prog w B b t f)
  {A : Around} {Φ : Frm} {s : Shared} {G : Gh} {mm : Str → Option Value} {loc : Loc} {M M' : List ah} {v : ae} (R : eV A b) (hΦ : Φ.Of sg) (S : St prog w B Φ s.heap G mm loc M) (e : aE f l r loc M = some (v,M')) {Q : Value → Shared → Prop} {E : Value → Shared → Prop}
  (h : ∀ h' tk' G' x,St prog w B Φ h' G' mm loc M' → Ext s.heap G h' G' → bO h' G' x v → Q x { s with heap:=h',toks:=tk' }) :
  wpAny (model prog w) A (eval el Φ.env) (fun a s₁=>wpAny (model prog w) A (eval er Φ.env) (fun c s₂=>wpAny (model prog w) A (t a c) Q E s₂) E s₁) E s:=by
 obtain ⟨a,M1,e1,e⟩:=aL e
 obtain ⟨c,M2,e2,e⟩:=aL e
 refine hl A Φ s G mm loc M a M1 R hΦ S e1 _ _ fun h1 tk1 G1 x S1 X1 r1=>?_
 refine hr A Φ _ G1 mm loc M1 c M2 R hΦ S1 e2 _ _ fun h2 tk2 G2 y S2 X2 r2=>?_
 refine gG.lift (s:={ s with heap:=h2,toks:=tk2 }) S2 (ho A _ _ M2 x y a c v M' R S2.lower (S2.lower_val (r1.mono X2.solid)) (S2.lower_val r2) e) _ _ fun h3 tk3 G3 z S3 X3 r3=>?_
 exact h h3 tk3 G3 z S3 (X1.trans (X2.trans X3)) r3
theorem cy {op : Operator} {el er : Expr} {pos : Pos} {l r : Loc → Mo ae} {f : ae → ae → Mo ae} (hl : bT prog w B b sg el l) (hr : bT prog w B b sg er r) (ho : cH prog w B b (binaryOp op) f) : bT prog w B b sg (.BinOp el op er pos) (aE f l r):=by
 intro A Φ s G mm loc M v M' R hΦ S e Q E h
 exact wpAny_BinOp (kQ hl hr ho R hΦ S e h)
theorem sk {op : CmpOp} {el er : Expr} {pos : Pos} {l r : Loc → Mo ae} {f : ae → ae → Mo ae} (hl : bT prog w B b sg el l) (hr : bT prog w B b sg er r) (ho : cH prog w B b (compareOp op) f) (hm : behindInMarks op er = false:=by rfl) : bT prog w B b sg (.Compare el [op] [er] pos) (aE f l r):=by
 intro A Φ s G mm loc M v M' R hΦ S e Q E h
 exact wpAny_Compare1 (kQ hl hr ho R hΦ S e h) hm
noncomputable def aS (f : ae → Mo ae) (l : Loc → Mo ae) : Loc → Mo ae:=fun loc=>bnd (l loc) f
theorem s6 {l : Loc → Mo ae} {f : ae → Mo ae} {el : Expr} {t : Value → Sem Value} (hl : bT prog w B b sg el l) (ho : pa prog w B b t f)
  {A : Around} {Φ : Frm} {s : Shared} {G : Gh} {mm : Str → Option Value} {loc : Loc} {M M' : List ah} {v : ae} (R : eV A b) (hΦ : Φ.Of sg) (S : St prog w B Φ s.heap G mm loc M) (e : aS f l loc M = some (v,M')) {Q : Value → Shared → Prop} {E : Value → Shared → Prop}
  (h : ∀ h' tk' G' x,St prog w B Φ h' G' mm loc M' → Ext s.heap G h' G' → bO h' G' x v → Q x { s with heap:=h',toks:=tk' }) :
  wpAny (model prog w) A (eval el Φ.env) (fun a s₁=>wpAny (model prog w) A (t a) Q E s₁) E s:=by
 obtain ⟨a,M1,e1,e⟩:=aL e
 refine hl A Φ s G mm loc M a M1 R hΦ S e1 _ _ fun h1 tk1 G1 x S1 X1 r1=>?_
 refine gG.lift (s:={ s with heap:=h1,toks:=tk1 }) S1 (ho A _ _ M1 x a v M' R S1.lower (S1.lower_val r1) e) _ _ fun h3 tk3 G3 z S3 X3 r3=>?_
 exact h h3 tk3 G3 z S3 (X1.trans X3) r3
theorem Bo {op : UnaryOp} {el : Expr} {pos : Pos} {l : Loc → Mo ae} {f : ae → Mo ae} (hl : bT prog w B b sg el l) (ho : pa prog w B b (unaryOp op) f) : bT prog w B b sg (.UnaryOp op el pos) (aS f l):=by
 intro A Φ s G mm loc M v M' R hΦ S e Q E h
 exact wpAny_UnaryOp (s6 hl ho R hΦ S e h)
theorem aG {x : Str} {el : Expr} {pos : Pos} {l : Loc → Mo ae} {f : ae → Mo ae} (hl : bT prog w B b sg el l) (ho : pa prog w B b (fun v=>getAttr v x true) f)
  (he : ∀ env,attributeBase el x env (eval el env) = eval el env:=by intro _; rfl) : bT prog w B b sg (.Attribute el x pos) (aS f l):=by
 intro A Φ s G mm loc M v M' R hΦ S e Q E h
 refine Attribute_any_ (s6 hl ho R hΦ S e h) ?_
 rw [← he Φ.env]
 rfl
theorem bB {el er : Expr} {pos : Pos} {l r : Loc → Mo ae} {f : ae → ae → Mo ae} (hl : bT prog w B b sg el l) (hr : bT prog w B b sg er r) (ho : cH prog w B b (subscriptTail el er) f) : bT prog w B b sg (.Subscript el er pos) (aE f l r):=by
 intro A Φ s G mm loc M v M' R hΦ S e Q E h
 exact Subscript_ (kQ hl hr ho R hΦ S e h)
noncomputable def aD (l : Loc → Mo ae) : Loc → Mo ae:=fun loc=>bnd (l loc) fun a=>match a with
 | .mref i=>fun M=>match M[i]? with
  | some mo=>(match Mine.froz mo with
   | some v=>some (v,M.set i .gone)
   | none=>none)
  | none=>none
 | _=>dK
theorem aH {el : Expr} {l : Loc → Mo ae} (hl : bT prog w B b sg el l) : bT prog w B b sg el (aD l):=by
 intro A Φ s G mm loc M v M' R hΦ S e Q E h
 obtain ⟨a,M1,e1,e⟩:=aL e
 refine hl A Φ s G mm loc M a M1 R hΦ S e1 _ _ fun h1 tk1 G1 x S1 X1 r1=>?_
 cases a with
 | mref i=>
  dsimp only at e
  split at e
  ·rename_i hmo
   split at e
   ·rename_i hfv
    cases e
    have X2:=iq h1 G1 i
    refine h h1 tk1 (G1.freeze i) x (S1.move (S1.core.freeze i) X2.solid fun a p=>⟨?_,fun o e=>e⟩) (X1.trans X2) (S1.core.frozen hmo hfv r1)
    rcases S1.place p with q | q
    ·rw [q]; unfold Gh.freeze; dsimp only; rw [q]
    ·rw [q]; unfold Gh.freeze; dsimp only; rw [q]
   ·cases e
  ·cases e
 | _=>cases e
noncomputable def am : Loc → Mo (List ae):=fun _=>ret []
noncomputable def ab (l : Loc → Mo ae) (ls : Loc → Mo (List ae)) : Loc → Mo (List ae):=fun loc=>bnd (l loc) fun a=>bnd (ls loc) fun as=>ret (a :: as)
theorem ak : iH prog w B b sg [] am:=by
 intro A Φ pos s G mm loc M r M' R hΦ S e Q E h
 cases e
 exact wpAny_items_nil (h s.heap s.toks G [] S (Ext.refl _ _) .nil)
theorem aa {el : Expr} {rest : List Expr} {l : Loc → Mo ae} {ls : Loc → Mo (List ae)} (hl : bT prog w B b sg el l) (hs : iH prog w B b sg rest ls)
  (he : ∀ env,starEach (el :: rest) env = (false,eval el env) :: starEach rest env:=by intro _; rfl) : iH prog w B b sg (el :: rest) (ab l ls):=by
 intro A Φ pos s G mm loc M r M' R hΦ S e Q E h
 obtain ⟨a,M1,e1,e⟩:=aL e
 obtain ⟨as,M2,e2,e⟩:=aL e
 cases e
 refine wpAny_items_cons ?_ (he _)
 refine hl A Φ s G mm loc M a M1 R hΦ S e1 _ _ fun h1 tk1 G1 x S1 X1 r1=>?_
 refine hs A Φ pos _ G1 mm loc M1 as _ R hΦ S1 e2 _ _ fun h2 tk2 G2 xs S2 X2 r2=>?_
 exact h h2 tk2 G2 (x :: xs) S2 (X1.trans X2) (.cons (r1.mono X2.solid) r2)
noncomputable def D3 (b : ae) : Option Bool:=match b with
 | .bool v=>some v
 | _=>none
noncomputable def a6 (l : Loc → Mo ae) : Loc → Mo Bool:=fun loc=>bnd (l loc) fun a=>match D3 a with
 | some v=>ret v
 | none=>dK
theorem bh {op : CmpOp} {el er : Expr} {pos : Pos} {l r : Loc → Mo ae} {f : ae → ae → Mo ae} (hl : bT prog w B b sg el l) (hr : bT prog w B b sg er r) (ho : cH prog w B b (compareOp op) f) (hm : behindInMarks op er = false:=by rfl) : k8 prog w B b sg (.Compare el [op] [er] pos) (a6 (aE f l r)):=by
 intro A Φ s G mm loc M v M' R hΦ S e Q E h
 obtain ⟨a,M1,e1,e⟩:=aL e
 cases a with
 | bool u=>
  cases e
  refine wpAny_isTrue_Compare1 ?_ hm
  refine kQ hl hr ho R hΦ S e1 fun h1 tk1 G1 x S1 X1 r1=>?_
  cases r1
  exact wpAny_truthy_bool (h h1 tk1 G1 S1 X1)
 | _=>cases e
noncomputable def xT : Expr → Bool
 | .Name .. | .Attribute .. | .Call .. | .Subscript .. | .Constant ..=>true
 | _=>false
theorem fy {el : Expr} {l : Loc → Mo ae} (hl : bT prog w B b sg el l) (hp : xT el = true:=by rfl) : k8 prog w B b sg el (a6 l):=by
 intro A Φ s G mm loc M v M' R hΦ S e Q E h
 obtain ⟨a,M1,e1,e⟩:=aL e
 cases a with
 | bool u=>
  cases e
  refine wpAny_isTrue_value ?_ (by cases el <;> first | rfl | cases hp)
  refine hl A Φ s G mm loc M _ _ R hΦ S e1 _ _ fun h1 tk1 G1 x S1 X1 r1=>?_
  cases r1
  exact wpAny_truthy_bool (h h1 tk1 G1 S1 X1)
 | _=>cases e
noncomputable def sJ (l : Loc → Mo Bool) : Loc → Mo Bool:=fun loc=>bnd (l loc) fun a=>ret (!a)
theorem Fi {el : Expr} {pos : Pos} {l : Loc → Mo Bool} (hl : k8 prog w B b sg el l) : k8 prog w B b sg (.UnaryOp .Not el pos) (sJ l):=by
 intro A Φ s G mm loc M v M' R hΦ S e Q E h
 obtain ⟨a,M1,e1,e⟩:=aL e
 cases e
 exact wpAny_isTrue_Not (hl A Φ s G mm loc M a _ R hΦ S e1 _ _ h)
noncomputable def kM (l r : Loc → Mo Bool) : Loc → Mo Bool:=fun loc=>bnd (l loc) fun a=>if a then r loc else ret false
noncomputable def tOr (l r : Loc → Mo Bool) : Loc → Mo Bool:=fun loc=>bnd (l loc) fun a=>if a then ret true else r loc
noncomputable def jz (prog : Program) (w : World) (B : Heap) (b : Nat) (sg : Sg) (op : BoolOp) (es : List Expr) (m : Loc → Mo Bool) : Prop:=
 ∀ (A : Around) (Φ : Frm) (s : Shared) (G : Gh) (mm : Str → Option Value) (loc : Loc) (M : List ah) (r : Bool) (M' : List ah),
  eV A b → Φ.Of sg → St prog w B Φ s.heap G mm loc M → m loc M = some (r,M') →
  ∀ (Q : Bool → Shared → Prop) (E : Value → Shared → Prop),
   (∀ h' tk' G',St prog w B Φ h' G' mm loc M' → Ext s.heap G h' G' → Q r { s with heap:=h',toks:=tk' }) →
   wpAny (model prog w) A (allTrue op es Φ.env) Q E s
theorem gB {op : BoolOp} {es : List Expr} {pos : Pos} {l : Loc → Mo Bool} (hl : jz prog w B b sg op es l) : k8 prog w B b sg (.BoolOp op es pos) l:=by
 intro A Φ s G mm loc M v M' R hΦ S e Q E h
 exact wpAny_isTrue_BoolOp (hl A Φ s G mm loc M v M' R hΦ S e Q E h)
theorem gH {el : Expr} {l : Loc → Mo Bool} (hl : k8 prog w B b sg el l) : jz prog w B b sg .And [el] l:=by
 intro A Φ s G mm loc M v M' R hΦ S e Q E h
 refine wpAny_allTrue_And_cons (hl A Φ s G mm loc M v M' R hΦ S e _ _ fun h' tk' G' S' X'=>?_)
 cases v
 ·exact h h' tk' G' S' X'
 ·exact wpAny_allTrue_And_nil (h h' tk' G' S' X')
theorem io {el : Expr} {es : List Expr} {l ls : Loc → Mo Bool} (hl : k8 prog w B b sg el l) (hs : jz prog w B b sg .And es ls) : jz prog w B b sg .And (el :: es) (kM l ls):=by
 intro A Φ s G mm loc M v M' R hΦ S e Q E h
 obtain ⟨a,M1,e1,e⟩:=aL e
 refine wpAny_allTrue_And_cons (hl A Φ s G mm loc M a M1 R hΦ S e1 _ _ fun h' tk' G' S' X'=>?_)
 cases a
 ·cases e; exact h h' tk' G' S' X'
 ·exact hs A Φ { s with heap:=h',toks:=tk' } G' mm loc M1 v M' R hΦ S' e _ _ fun h2 tk2 G2 S2 X2=>h h2 tk2 G2 S2 (X'.trans X2)
theorem mR {el : Expr} {l : Loc → Mo Bool} (hl : k8 prog w B b sg el l) : jz prog w B b sg .Or [el] l:=by
 intro A Φ s G mm loc M v M' R hΦ S e Q E h
 refine wpAny_allTrue_Or_cons (hl A Φ s G mm loc M v M' R hΦ S e _ _ fun h' tk' G' S' X'=>?_)
 cases v
 ·exact wpAny_allTrue_Or_nil (h h' tk' G' S' X')
 ·exact h h' tk' G' S' X'
theorem p8 {el : Expr} {es : List Expr} {l ls : Loc → Mo Bool} (hl : k8 prog w B b sg el l) (hs : jz prog w B b sg .Or es ls) : jz prog w B b sg .Or (el :: es) (tOr l ls):=by
 intro A Φ s G mm loc M v M' R hΦ S e Q E h
 obtain ⟨a,M1,e1,e⟩:=aL e
 refine wpAny_allTrue_Or_cons (hl A Φ s G mm loc M a M1 R hΦ S e1 _ _ fun h' tk' G' S' X'=>?_)
 cases a
 ·exact hs A Φ { s with heap:=h',toks:=tk' } G' mm loc M1 v M' R hΦ S' e _ _ fun h2 tk2 G2 S2 X2=>h h2 tk2 G2 S2 (X'.trans X2)
 ·cases e; exact h h' tk' G' S' X'
noncomputable def eIf (t : Loc → Mo Bool) (l r : Loc → Mo ae) : Loc → Mo ae:=fun loc=>bnd (t loc) fun c=>if c then l loc else r loc
theorem Ag {et el er : Expr} {pos : Pos} {t : Loc → Mo Bool} {l r : Loc → Mo ae} (ht : k8 prog w B b sg et t) (hl : bT prog w B b sg el l) (hr : bT prog w B b sg er r) : bT prog w B b sg (.IfExp et el er pos) (eIf t l r):=by
 intro A Φ s G mm loc M v M' R hΦ S e Q E h
 obtain ⟨c,M1,e1,e⟩:=aL e
 refine wpAny_IfExp (ht A Φ s G mm loc M c M1 R hΦ S e1 _ _ fun h' tk' G' S' X'=>?_)
 cases c
 ·exact hr A Φ { s with heap:=h',toks:=tk' } G' mm loc M1 v M' R hΦ S' e _ _ fun h2 tk2 G2 x S2 X2 r2=>h h2 tk2 G2 x S2 (X'.trans X2) r2
 ·exact hl A Φ { s with heap:=h',toks:=tk' } G' mm loc M1 v M' R hΦ S' e _ _ fun h2 tk2 G2 x S2 X2 r2=>h h2 tk2 G2 x S2 (X'.trans X2) r2
end
end Mine
end
section
namespace Mine
section
variable {prog : Program} {w : World} {B : Heap} {b : Nat} {sg : Sg}
noncomputable def bE : Loc → Mo (Fl × Loc):=fun loc=>ret (.next,loc)
noncomputable def au (m ms : Loc → Mo (Fl × Loc)) : Loc → Mo (Fl × Loc):=fun loc=>bnd (m loc) fun r=>match r.1 with
 | .next=>ms r.2
 | f=>ret (f,r.2)
theorem bz : cz prog w B b sg [] bE:=by
 intro A Φ s G mm loc M r loc' M' R hΦ S e Q E h
 cases e
 exact wpAny_execs_nil (h s.heap s.toks G mm .next S (Ext.refl _ _) .next)
theorem ap {st : Stmt} {rest : List Stmt} {m ms : Loc → Mo (Fl × Loc)} (h1 : ig prog w B b sg st m) (h2 : cz prog w B b sg rest ms) : cz prog w B b sg (st :: rest) (au m ms):=by
 intro A Φ s G mm loc M r loc' M' R hΦ S e Q E h
 obtain ⟨⟨f,loc1⟩,M1,e1,e⟩:=aL e
 refine wpAny_execs_cons ?_
 refine h1 A Φ s G mm loc M f loc1 M1 R hΦ S e1 _ _ fun h' tk' G' mm' x S' X' r'=>?_
 cases r' with
 | next=>exact h2 A Φ { s with heap:=h',toks:=tk' } G' mm' loc1 M1 r loc' M' R hΦ S' e _ _ fun h2 tk2 G2 mm2 x2 S2 X2 r2=>h h2 tk2 G2 mm2 x2 S2 (X'.trans X2) r2
 | brk=>cases e; exact h h' tk' G' mm' _ S' X' .brk
 | ret q=>cases e; exact h h' tk' G' mm' _ S' X' (.ret q)
noncomputable def KW (m : Loc → Mo (Fl × Loc)) : Loc → Mo (Fl × Loc):=m
theorem aN {st : Stmt} {m : Loc → Mo (Fl × Loc)} (h1 : ig prog w B b sg st m) : cz prog w B b sg [st] m:=by
 intro A Φ s G mm loc M r loc' M' R hΦ S e Q E h
 refine wpAny_execs_cons ?_
 refine h1 A Φ s G mm loc M r loc' M' R hΦ S e _ _ fun h' tk' G' mm' x S' X' r'=>?_
 cases r' with
 | next=>exact wpAny_execs_nil (h h' tk' G' mm' _ S' X' .next)
 | brk=>exact h h' tk' G' mm' _ S' X' .brk
 | ret q=>exact h h' tk' G' mm' _ S' X' (.ret q)
theorem rY {Φ : Frm} (ok : Φ.Ok) : interactive Φ.env = false:=by
 unfold interactive
 have : Φ.env.scope.kind = .function:=ok.kind
 rw [this]; rfl
noncomputable def bw (l : Loc → Mo ae) : Loc → Mo (Fl × Loc):=fun loc=>bnd (l loc) fun _=>ret (.next,loc)
theorem bR {el : Expr} {pos : Pos} {l : Loc → Mo ae} (hl : bT prog w B b sg el l) (hs : ∀ env,swapsWith el none pos.line env = pure false:=by intro _; rfl) : ig prog w B b sg (.Expr el pos) (bw l):=by
 intro A Φ s G mm loc M r loc' M' R hΦ S e Q E h
 obtain ⟨a,M1,e1,e⟩:=aL e
 cases e
 refine wpAny_Expr_any ?_ (rY S.ok) (hs _)
 exact hl A Φ s G mm _ M a _ R hΦ.1 S e1 _ _ fun h' tk' G' x S' X' _=>h h' tk' G' mm _ S' X' .next
noncomputable def a7 (i : Nat) (l : Loc → Mo ae) : Loc → Mo (Fl × Loc):=fun loc=>bnd (l loc) fun a=>ret (.next,loc.set i (some a))
theorem iG {Φ : Frm} {A : Around} {s : Shared} {G : Gh} {mm : Str → Option Value} {loc : Loc} {M : List ah} {i : Nat} {x : Str} {v : Value} {a : ae} (hΦ : Φ.OfS sg) (hi : sg.names[i]? = some x) (S : St prog w B Φ s.heap G mm loc M) (r : bO s.heap G v a) {Q : Unit → Shared → Prop} {E : Value → Shared → Prop}
  (h : ∀ h' tk' mm',St prog w B Φ h' G mm' (loc.set i (some a)) M → Ext s.heap G h' G → Q () { s with heap:=h',toks:=tk' }) : wpAny (model prog w) A (storeName Φ.env x v) Q E s:=by
 have hi' : Φ.names[i]? = some x:=by rw [hΦ.1.2]; exact hi
 rcases S.ok.kinds x (List.mem_of_getElem? hi') with hk | ⟨hk,c,hc⟩
 ·refine wpAny_storeName_local hk S.ns (fun h' hn hs=>?_) ?_
  ·obtain ⟨S',X'⟩:=S.store hi' hk r hn hs
   exact h h' _ _ S' X'
  ·have : Φ.env.scope.kind = .function:=S.ok.kind
   rw [this]; rfl
 ·obtain ⟨v₀,hv₀⟩:=(S.cell x c hc).1
  refine wpAny_storeName_cell S.ok.kind hk hc hv₀ fun h' hv hs=>?_
  obtain ⟨S',X'⟩:=S.storeC hi' hk hc (hΦ.2 x c hc) r hv hs
  exact h h' s.toks _ S' X'
theorem aC {el : Expr} {i : Nat} {x : Str} {xp pos : Pos} {l : Loc → Mo ae} (hi : sg.names[i]? = some x) (hl : bT prog w B b sg el l) (hs : ∀ env,swapsWith el (some (.Name x xp)) pos.line env = pure false:=by intro _; rfl) : ig prog w B b sg (.Assign [.Name x xp] el pos) (a7 i l):=by
 intro A Φ s G mm loc M r loc' M' R hΦ S e Q E h
 obtain ⟨a,M1,e1,e⟩:=aL e
 cases e
 refine wpAny_Assign_Name ?_ (hs _)
 refine hl A Φ s G mm loc M a _ R hΦ.1 S e1 _ _ fun h' tk' G' v S' X' r'=>?_
 exact iG (s:={ s with heap:=h',toks:=tk' }) hΦ hi S' r' fun h2 tk2 mm2 S2 X2=>h h2 tk2 G' mm2 _ S2 (X'.trans X2) .next
noncomputable def zn (prog : Program) (w : World) (B : Heap) (b : Nat) (t : Value → Value → Sem Unit) (f : ae → ae → Mo Unit) : Prop:=
 ∀ (A : Around) (s : Shared) (G : Gh) (M : List ah) (x y : Value) (a c : ae) (M' : List ah),
  eV A b → bI prog w B s.heap G M → bO s.heap G x a → bO s.heap G y c → f a c M = some ((),M') →
  ∀ (Q : Unit → Shared → Prop) (E : Value → Shared → Prop),(∀ h' tk' G',bI prog w B h' G' M' → Ext s.heap G h' G' → Q () { s with heap:=h',toks:=tk' }) → wpAny (model prog w) A (t x y) Q E s
noncomputable def zg (prog : Program) (w : World) (B : Heap) (b : Nat) (t : Value → Value → Value → Sem Unit) (f : ae → ae → ae → Mo Unit) : Prop:=
 ∀ (A : Around) (s : Shared) (G : Gh) (M : List ah) (x y z : Value) (a c d : ae) (M' : List ah),
  eV A b → bI prog w B s.heap G M → bO s.heap G x a → bO s.heap G y c → bO s.heap G z d → f a c d M = some ((),M') →
  ∀ (Q : Unit → Shared → Prop) (E : Value → Shared → Prop),(∀ h' tk' G',bI prog w B h' G' M' → Ext s.heap G h' G' → Q () { s with heap:=h',toks:=tk' }) → wpAny (model prog w) A (t x y z) Q E s
noncomputable def bk (f : ae → ae → Mo Unit) (o l : Loc → Mo ae) : Loc → Mo (Fl × Loc):=fun loc=>bnd (l loc) fun v=>bnd (o loc) fun ov=>bnd (f ov v) fun _=>ret (.next,loc)
theorem aZ {eo el : Expr} {x : Str} {xp pos : Pos} {o l : Loc → Mo ae} {f : ae → ae → Mo Unit} (ho : bT prog w B b sg eo o) (hl : bT prog w B b sg el l) (hw : zn prog w B b (fun ov v=>setAttr ov x v) f) (hs : ∀ env,swapsWith el (some (.Attribute eo x xp)) pos.line env = pure false:=by intro _; rfl) : ig prog w B b sg (.Assign [.Attribute eo x xp] el pos) (bk f o l):=by
 intro A Φ s G mm loc M r loc' M' R hΦ S e Q E h
 obtain ⟨a,M1,e1,e⟩:=aL e
 obtain ⟨c,M2,e2,e⟩:=aL e
 obtain ⟨u,M3,e3,e⟩:=aL e
 cases e
 refine plainObj_wpAny_Assign_Attribute ?_ (hs _)
 refine hl A Φ s G mm _ M a M1 R hΦ.1 S e1 _ _ fun h1 tk1 G1 v S1 X1 r1=>?_
 refine ho A Φ { s with heap:=h1,toks:=tk1 } G1 mm _ M1 c M2 R hΦ.1 S1 e2 _ _ fun h2 tk2 G2 ov S2 X2 r2=>?_
 refine hw A { s with heap:=h2,toks:=tk2 } _ M2 ov v c a _ R S2.lower (S2.lower_val r2) (S2.lower_val (r1.mono X2.solid)) e3 _ _ fun h3 tk3 G3 C3 X3=>?_
 exact h h3 tk3 _ mm _ (S2.back X3 C3) (X1.trans (X2.trans (S2.back_ext X3))) .next
noncomputable def gP (f : ae → ae → ae → Mo Unit) (o k l : Loc → Mo ae) : Loc → Mo (Fl × Loc):=fun loc=>bnd (l loc) fun v=>bnd (o loc) fun ov=>bnd (k loc) fun kv=>bnd (f ov kv v) fun _=>ret (.next,loc)
theorem kY {eo ek el : Expr} {xp pos : Pos} {o k l : Loc → Mo ae} {f : ae → ae → ae → Mo Unit} (ho : bT prog w B b sg eo o) (hk : bT prog w B b sg ek k) (hl : bT prog w B b sg el l) (hw : zg prog w B b setItem f) (hs : ∀ env,swapsWith el (some (.Subscript eo ek xp)) pos.line env = pure false:=by intro _; rfl) : ig prog w B b sg (.Assign [.Subscript eo ek xp] el pos) (gP f o k l):=by
 intro A Φ s G mm loc M r loc' M' R hΦ S e Q E h
 obtain ⟨a,M1,e1,e⟩:=aL e
 obtain ⟨c,M2,e2,e⟩:=aL e
 obtain ⟨d,M3,e3,e⟩:=aL e
 obtain ⟨u,M4,e4,e⟩:=aL e
 cases e
 refine wpAny_Assign_Subscript ?_ (hs _)
 refine hl A Φ s G mm _ M a M1 R hΦ.1 S e1 _ _ fun h1 tk1 G1 v S1 X1 r1=>?_
 refine ho A Φ { s with heap:=h1,toks:=tk1 } G1 mm _ M1 c M2 R hΦ.1 S1 e2 _ _ fun h2 tk2 G2 ov S2 X2 r2=>?_
 refine hk A Φ { s with heap:=h2,toks:=tk2 } G2 mm _ M2 d M3 R hΦ.1 S2 e3 _ _ fun h3 tk3 G3 kv S3 X3 r3=>?_
 refine hw A { s with heap:=h3,toks:=tk3 } _ M3 ov kv v c d a _ R S3.lower (S3.lower_val (r2.mono X3.solid)) (S3.lower_val r3) (S3.lower_val (r1.mono (X2.trans X3).solid)) e4 _ _ fun h4 tk4 G4 C4 X4=>?_
 exact h h4 tk4 _ mm _ (S3.back X4 C4) (X1.trans (X2.trans (X3.trans (S3.back_ext X4)))) .next
noncomputable def eO (g : ae → ae → Mo ae) (p : ae → ae → Mo ae) (f : ae → ae → ae → Mo Unit) (o k l : Loc → Mo ae) : Loc → Mo (Fl × Loc):=fun loc=>
 bnd (o loc) fun ov=>bnd (k loc) fun kv=>bnd (g ov kv) fun old=>bnd (l loc) fun v=>bnd (p old v) fun new=>bnd (f ov kv new) fun _=>ret (.next,loc)
theorem pf {eo ek el : Expr} {op : Operator} {xp pos : Pos} {o k l : Loc → Mo ae} {g p : ae → ae → Mo ae} {f : ae → ae → ae → Mo Unit} (ho : bT prog w B b sg eo o) (hk : bT prog w B b sg ek k) (hg : cH prog w B b getItem g) (hl : bT prog w B b sg el l) (hp : cH prog w B b (inplaceOp op) p) (hw : zg prog w B b setItem f)
  (hi : ∀ ov iv new,augStore ek ov iv new = (do holding [new,ov,iv] (setItem ov iv new); release [new,ov,iv] []; pure .next):=by intros; rfl) : ig prog w B b sg (.AugAssign (.Subscript eo ek xp) op el pos) (eO g p f o k l):=by
 intro A Φ s G mm loc M r loc' M' R hΦ S e Q E h
 obtain ⟨c,M1,e1,e⟩:=aL e
 obtain ⟨d,M2,e2,e⟩:=aL e
 obtain ⟨old,M3,e3,e⟩:=aL e
 obtain ⟨v,M4,e4,e⟩:=aL e
 obtain ⟨new,M5,e5,e⟩:=aL e
 obtain ⟨u,M6,e6,e⟩:=aL e
 cases e
 refine wpAny_AugAssign_SubscriptAny ?_ hi
 refine ho A Φ s G mm _ M c M1 R hΦ.1 S e1 _ _ fun h1 tk1 G1 ov S1 X1 r1=>?_
 refine hk A Φ { s with heap:=h1,toks:=tk1 } G1 mm _ M1 d M2 R hΦ.1 S1 e2 _ _ fun h2 tk2 G2 kv S2 X2 r2=>?_
 refine gG.lift (s:={ s with heap:=h2,toks:=tk2 }) S2 (hg A _ _ M2 ov kv c d old M3 R S2.lower (S2.lower_val (r1.mono X2.solid)) (S2.lower_val r2) e3) _ _ fun h3 tk3 G3 ol S3 X3 r3=>?_
 refine hl A Φ { s with heap:=h3,toks:=tk3 } G3 mm _ M3 v M4 R hΦ.1 S3 e4 _ _ fun h4 tk4 G4 y S4 X4 r4=>?_
 refine gG.lift (s:={ s with heap:=h4,toks:=tk4 }) S4 (hp A _ _ M4 ol y old v new M5 R S4.lower (S4.lower_val (r3.mono X4.solid)) (S4.lower_val r4) e5) _ _ fun h5 tk5 G5 z S5 X5 r5=>?_
 have X35:=X3.trans (X4.trans X5)
 refine hw A { s with heap:=h5,toks:=tk5 } _ M5 ov kv z c d new _ R S5.lower (S5.lower_val (r1.mono (X2.trans X35).solid)) (S5.lower_val (r2.mono X35.solid)) (S5.lower_val r5) e6 _ _ fun h6 tk6 G6 C6 X6=>?_
 exact h h6 tk6 _ mm _ (S5.back X6 C6) (X1.trans (X2.trans (X35.trans (S5.back_ext X6)))) .next
noncomputable def sK (g : ae → Mo ae) (p : ae → ae → Mo ae) (f : ae → ae → Mo Unit) (o l : Loc → Mo ae) : Loc → Mo (Fl × Loc):=fun loc=>
 bnd (o loc) fun ov=>bnd (g ov) fun old=>bnd (l loc) fun v=>bnd (p old v) fun new=>bnd (f ov new) fun _=>ret (.next,loc)
theorem w8 {eo el : Expr} {x : Str} {op : Operator} {xp pos : Pos} {o l : Loc → Mo ae} {g : ae → Mo ae} {p : ae → ae → Mo ae} {f : ae → ae → Mo Unit} (ho : bT prog w B b sg eo o) (hg : pa prog w B b (fun v=>getAttr v x true) g) (hl : bT prog w B b sg el l) (hp : cH prog w B b (inplaceOp op) p) (hw : zn prog w B b (fun ov v=>setAttr ov x v) f) : ig prog w B b sg (.AugAssign (.Attribute eo x xp) op el pos) (sK g p f o l):=by
 intro A Φ s G mm loc M r loc' M' R hΦ S e Q E h
 obtain ⟨c,M1,e1,e⟩:=aL e
 obtain ⟨old,M3,e3,e⟩:=aL e
 obtain ⟨v,M4,e4,e⟩:=aL e
 obtain ⟨new,M5,e5,e⟩:=aL e
 obtain ⟨u,M6,e6,e⟩:=aL e
 cases e
 refine wpAny_AugAssign_AttributeAny ?_
 refine ho A Φ s G mm _ M c M1 R hΦ.1 S e1 _ _ fun h1 tk1 G1 ov S1 X1 r1=>?_
 refine gG.lift (s:={ s with heap:=h1,toks:=tk1 }) S1 (hg A _ _ M1 ov c old M3 R S1.lower (S1.lower_val r1) e3) _ _ fun h3 tk3 G3 ol S3 X3 r3=>?_
 refine hl A Φ { s with heap:=h3,toks:=tk3 } G3 mm _ M3 v M4 R hΦ.1 S3 e4 _ _ fun h4 tk4 G4 y S4 X4 r4=>?_
 refine gG.lift (s:={ s with heap:=h4,toks:=tk4 }) S4 (hp A _ _ M4 ol y old v new M5 R S4.lower (S4.lower_val (r3.mono X4.solid)) (S4.lower_val r4) e5) _ _ fun h5 tk5 G5 z S5 X5 r5=>?_
 have X35:=X3.trans (X4.trans X5)
 refine hw A { s with heap:=h5,toks:=tk5 } _ M5 ov z c new _ R S5.lower (S5.lower_val (r1.mono X35.solid)) (S5.lower_val r5) e6 _ _ fun h6 tk6 G6 C6 X6=>?_
 exact h h6 tk6 _ mm _ (S5.back X6 C6) (X1.trans (X35.trans (S5.back_ext X6))) .next
noncomputable def sIf (t : Loc → Mo Bool) (m n : Loc → Mo (Fl × Loc)) : Loc → Mo (Fl × Loc):=fun loc=>bnd (t loc) fun c=>if c then m loc else n loc
theorem ch {et : Expr} {body orelse : List Stmt} {pos : Pos} {t : Loc → Mo Bool} {m n : Loc → Mo (Fl × Loc)} (ht : k8 prog w B b sg et t) (h1 : cz prog w B b sg body m) (h2 : cz prog w B b sg orelse n) : ig prog w B b sg (.If et body orelse pos) (sIf t m n):=by
 intro A Φ s G mm loc M r loc' M' R hΦ S e Q E h
 obtain ⟨c,M1,e1,e⟩:=aL e
 refine wpAny_If (ht A Φ s G mm loc M c M1 R hΦ.1 S e1 _ _ fun h' tk' G' S' X'=>?_)
 cases c
 ·exact h2 A Φ { s with heap:=h',toks:=tk' } G' mm loc M1 r loc' M' R hΦ S' e _ _ fun h2 tk2 G2 mm2 x S2 X2 r2=>h h2 tk2 G2 mm2 x S2 (X'.trans X2) r2
 ·exact h1 A Φ { s with heap:=h',toks:=tk' } G' mm loc M1 r loc' M' R hΦ S' e _ _ fun h2 tk2 G2 mm2 x S2 X2 r2=>h h2 tk2 G2 mm2 x S2 (X'.trans X2) r2
noncomputable def bL (l : Loc → Mo ae) : Loc → Mo (Fl × Loc):=fun loc=>bnd (l loc) fun a=>ret (.ret a,loc)
theorem bl {el : Expr} {pos : Pos} {l : Loc → Mo ae} (hl : bT prog w B b sg el l) : ig prog w B b sg (.Return (some el) pos) (bL l):=by
 intro A Φ s G mm loc M r loc' M' R hΦ S e Q E h
 obtain ⟨a,M1,e1,e⟩:=aL e
 cases e
 exact wpAny_Return_some (hl A Φ s G mm _ M a _ R hΦ.1 S e1 _ _ fun h' tk' G' x S' X' r'=>h h' tk' G' mm _ S' X' (.ret r'))
noncomputable def wA : Loc → Mo (Fl × Loc):=fun loc=>ret (.ret .none,loc)
theorem DY {pos : Pos} : ig prog w B b sg (.Return none pos) wA:=by
 intro A Φ s G mm loc M r loc' M' R hΦ S e Q E h
 cases e
 exact wpAny_Return_none (h s.heap s.toks G mm _ S (Ext.refl _ _) (.ret .none))
noncomputable def yO : Loc → Mo (Fl × Loc):=fun loc=>ret (.brk,loc)
theorem F6 {pos : Pos} : ig prog w B b sg (.Break pos) yO:=by
 intro A Φ s G mm loc M r loc' M' R hΦ S e Q E h
 cases e
 exact wpAny_Break (h s.heap s.toks G mm _ S (Ext.refl _ _) .brk)
noncomputable def dC (t : Loc → Mo Bool) (m : Loc → Mo (Fl × Loc)) : Nat → Loc → Mo (Fl × Loc)
 | 0,_=>dK
 | n + 1,loc=>bnd (t loc) fun c=>if c then bnd (m loc) fun r=>(match r.1 with
   | .next=>dC t m n r.2
   | .brk=>ret (.next,r.2)
   | .ret v=>ret (.ret v,r.2)) else ret (.next,loc)
inductive WhI (prog : Program) (w : World) (B : Heap) (Φ : Frm) (s : Shared) (G : Gh) (t : Loc → Mo Bool) (m : Loc → Mo (Fl × Loc)) (o : (Fl × Loc) × List ah) (n : Nat) (s' : Shared) : Prop
 | mk (h' : Heap) (tk' : Nat) (G' : Gh) (mm' : Str → Option Value) (loc1 : Loc) (M1 : List ah) (es : s' = { s with heap:=h',toks:=tk' }) (S : St prog w B Φ h' G' mm' loc1 M1) (X : Ext s.heap G h' G') (e : dC t m n loc1 M1 = some o)
theorem jd (fuel : Nat) {et : Expr} {body : List Stmt} {pos : Pos} {t : Loc → Mo Bool} {m : Loc → Mo (Fl × Loc)} (ht : k8 prog w B b sg et t) (h1 : cz prog w B b sg body m) : ig prog w B b sg (.While et body [] pos) (dC t m fuel):=by
 intro A Φ s G mm loc M r loc' M' R hΦ S e Q E h
 refine wpAny_While (codeAny_whileLoop (WhI prog w B Φ s G t m ((r,loc'),M')) (fun n s' hI=>?_) fuel ⟨s.heap,s.toks,G,mm,loc,M,rfl,S,Ext.refl _ _,e⟩)
 clear e
 obtain ⟨h',tk',G',mm',loc1,M1,rfl,S1,X1,e⟩:=hI
 cases n with
 | zero=>cases e
 | succ n=>
  obtain ⟨c,M2,e1,e⟩:=aL e
  refine ht A Φ _ G' mm' loc1 M1 c M2 R hΦ.1 S1 e1 _ _ fun h2 tk2 G2 S2 X2=>?_
  cases c with
  | false=>
   cases e
   exact wpAny_execs_nil (h h2 tk2 G2 mm' _ S2 (X1.trans X2) .next)
  | true=>
   obtain ⟨⟨f,loc3⟩,M3,e3,e⟩:=aL (show bnd (m loc1) _ M2 = _ from e)
   refine h1 A Φ { s with heap:=h2,toks:=tk2 } G2 mm' loc1 M2 f loc3 M3 R hΦ S2 e3 _ _ fun h3 tk3 G3 mm3 x S3 X3 r3=>?_
   have X:=X1.trans (X2.trans X3)
   cases r3 with
   | next=>exact ⟨n,Nat.lt_succ_self n,h3,tk3,G3,mm3,loc3,M3,rfl,S3,X,e⟩
   | brk=>cases e; exact h h3 tk3 G3 mm3 _ S3 X .next
   | ret q=>cases e; exact h h3 tk3 G3 mm3 _ S3 X (.ret q)
structure k7 (prog : Program) (w : World) (it : Addr) (P : Heap → Gh → List ae → Prop) : Prop where
 keep : ∀ h G h' G' as,G.tag it = .below → P h G as → Ext h G h' G' → P h' G' as
 live : ∀ h G as,P h G as → ∃ o,h.get? it = some o
 nocell : ∀ h G as,P h G as → ∀ v,¬ h.IsCell it v
 keepBut : ∀ h h' G q as,(G.tag q).solid = false → q ≠ it → P h G as → Heap.SameBut q h h' → P h' G as
 next : ∀ (A : Around) (s : Shared) (G : Gh) (a : ae) (as : List ae),G.tag it = .below → P s.heap G (a :: as) → ∀ (Q : Option Value → Shared → Prop) (E : Value → Shared → Prop),
  (∀ h' tk' x,Heap.SameBut it s.heap h' → P h' G as → bO h' G x a → Q (some x) { s with heap:=h',toks:=tk' }) → wpAny (model prog w) A (pyNext (.ref it)) Q E s
 done : ∀ (A : Around) (s : Shared) (G : Gh),A.handled = none → P s.heap G [] → ∀ (Q : Option Value → Shared → Prop) (E : Value → Shared → Prop),
  (∀ h',Heap.ExtBut it s.heap h' → Q none { s with heap:=h' }) → wpAny (model prog w) A (pyNext (.ref it)) Q E s
theorem St.notPlace {Φ : Frm} {h : Heap} {G : Gh} {mm : Str → Option Value} {loc : Loc} {M : List ah} {it : Addr} (S : St prog w B Φ h G mm loc M) (ti : G.tag it = .below) (nc : ∀ v,¬ h.IsCell it v) {a : Addr} (p : Φ.Place a) : a ≠ it:=by
 intro e
 subst e
 rcases p with p | ⟨x,p⟩
 ·rw [(S.own a p).1] at ti; cases ti
 ·obtain ⟨v,q⟩:=(S.cell x a p).1; exact nc v q
theorem St.iter_step {Φ : Frm} {h h' : Heap} {G : Gh} {mm : Str → Option Value} {loc : Loc} {M : List ah} {it : Addr} (S : St prog w B Φ h G mm loc M) (ti : G.tag it = .below) (nc : ∀ v,¬ h.IsCell it v) (hs : Heap.SameBut it h h') (hl : ∃ o,h'.get? it = some o) : St prog w B Φ h' G mm loc M:=by
 have ne : ∀ a,G.tag a ≠ .below → a ≠ it:=fun a k e=>k (e ▸ ti)
 have sol : eN h G h' G:=⟨fun _ k=>k,fun a o k e=>(hs.2 a (ne a (by intro t; rw [t] at k; cases k))).trans e,List.prefix_refl _⟩
 refine S.move ⟨fun b o e=>?_,fun b=>?_,S.core.len,fun i o e=>?_,by rw [hs.1]; exact S.core.size⟩ sol fun a p=>⟨rfl,fun o e=>(hs.2 a (S.notPlace ti nc p)).trans e⟩
 ·obtain ⟨t,e'⟩:=S.core.base b o e
  exact ⟨t,(hs.2 b (ne b (by rw [t]; exact fun x=>nomatch x))).trans e'⟩
 ·by_cases e : b = it
  ·subst e; exact .inr hl
  ·exact (S.core.live b).imp id fun ⟨o,e'⟩=>⟨o,(hs.2 b e).trans e'⟩
 ·exact (S.core.muts i o e).mono prog w sol fun a t=>⟨t,fun o e=>(hs.2 a (ne a (by rw [t]; exact fun x=>nomatch x))).trans e⟩
theorem St.iter_end {Φ : Frm} {h h' : Heap} {G : Gh} {mm : Str → Option Value} {loc : Loc} {M : List ah} {it : Addr} (S : St prog w B Φ h G mm loc M) (ti : G.tag it = .below) (nc : ∀ v,¬ h.IsCell it v) (hs : Heap.ExtBut it h h') : St prog w B Φ h' (G.put it .free) mm loc M:=by
 have ne : ∀ a,G.tag a ≠ .below → a ≠ it:=fun a k e=>k (e ▸ ti)
 have sol : eN h G h' (G.put it .free):=⟨fun a k=>by rw [G.put_ne _ (ne a (by intro t; rw [t] at k; cases k))]; exact k,fun a o k e=>hs a o (ne a (by intro t; rw [t] at k; cases k)) e,List.prefix_refl _⟩
 refine S.move ⟨fun b o e=>?_,fun b=>?_,S.core.len,fun i o e=>?_,?_⟩ sol fun a p=>⟨G.put_ne _ (S.notPlace ti nc p),fun o e=>hs a o (S.notPlace ti nc p) e⟩
 ·obtain ⟨t,e'⟩:=S.core.base b o e
  have n:=ne b (by rw [t]; exact fun x=>nomatch x)
  exact ⟨by rw [G.put_ne _ n]; exact t,hs b o n e'⟩
 ·by_cases e : b = it
  ·subst e; left; exact G.put_same _ _
  ·rw [G.put_ne _ e]
   exact (S.core.live b).imp id fun ⟨o,e'⟩=>⟨o,hs b o e e'⟩
 ·refine (S.core.muts i o e).mono prog w sol fun a t=>?_
  have n:=ne a (by rw [t]; exact fun x=>nomatch x)
  exact ⟨by rw [G.put_ne _ n]; exact t,fun o e=>hs a o n e⟩
 ·obtain ⟨o,e⟩:=(S.own _ S.ok.Lown).2
  exact Nat.le_trans S.above (Nat.le_of_lt (Heap.lt_size (hs _ _ (S.notPlace ti nc (.inl S.ok.Lown)) e)))
theorem Ext.past {h h1 h' : Heap} {G0 G : Gh} {it : Addr} (x : Ext h G0 h1 G) (t0 : (G0.tag it).kept = false) (hs : Heap.ExtBut it h1 h') : Ext h G0 h' G:=
 ⟨x.tag,fun a o k e=>hs a o (fun q=>by subst q; rw [t0] at k; cases k) (x.obj a o k e),x.ρ⟩
theorem Ext.past_free {h h1 : Heap} {G0 G : Gh} {it : Addr} {t : Tag} (x : Ext h G0 h1 G) (t0 : (G0.tag it).kept = false) : Ext h G0 h1 (G.put it t):=
 ⟨fun a k=>by rw [G.put_ne _ (fun q=>by subst q; rw [t0] at k; cases k)]; exact x.tag a k,x.obj,x.ρ⟩
noncomputable def dY (i : Nat) (m : Loc → Mo (Fl × Loc)) : List ae → Loc → Mo (Fl × Loc)
 | [],loc=>ret (.next,loc)
 | a :: as,loc=>bnd (m (loc.set i (some a))) fun r=>match r.1 with
   | .next=>dY i m as r.2
   | .brk=>ret (.next,r.2)
   | .ret v=>ret (.ret v,r.2)
inductive Kl (prog : Program) (w : World) (B : Heap) (Φ : Frm) (it : Addr) (P : Heap → Gh → List ae → Prop) (s : Shared) (s₀ : Heap) (G₀ : Gh) (i : Nat) (m : Loc → Mo (Fl × Loc)) (o : (Fl × Loc) × List ah) (n : Nat) (s' : Shared) : Prop
 | mk (h' : Heap) (tk' : Nat) (G' : Gh) (mm' : Str → Option Value) (loc1 : Loc) (M1 : List ah) (as1 : List ae) (es : s' = { s with heap:=h',toks:=tk' }) (en : n = as1.length) (S : St prog w B Φ h' G' mm' loc1 M1) (ti : G'.tag it = .below) (X : Ext s₀ G₀ h' G') (p : P h' G' as1) (e : dY i m as1 loc1 M1 = some o)
theorem nJ {it : Addr} {P : Heap → Gh → List ae → Prop} (hP : k7 prog w it P) {i : Nat} {x : Str} {xp : Pos} {body : List Stmt} {m : Loc → Mo (Fl × Loc)} (hi : sg.names[i]? = some x) (hb : cz prog w B b sg body m)
  {A : Around} {Φ : Frm} {s₀ : Heap} {s : Shared} {G₀ G : Gh} {mm : Str → Option Value} {loc loc' : Loc} {M M' : List ah} {as : List ae} {r : Fl} (R : eV A b) (hΦ : Φ.OfS sg) (S : St prog w B Φ s.heap G mm loc M)
  (ti : G.tag it = .below) (t0 : (G₀.tag it).kept = false) (X0 : Ext s₀ G₀ s.heap G) (p : P s.heap G as) (e : dY i m as loc M = some ((r,loc'),M')) {Rs : Result → Shared → Prop}
  (h : ∀ h' tk' G' mm' fl,St prog w B Φ h' G' mm' loc' M' → Ext s₀ G₀ h' G' → AJ h' G' fl r → Rs (.ok fl) { s with heap:=h',toks:=tk' }) :
  codeAny (model prog w) A (.forLoop (.Name x xp) (.ref it) body [] Φ.env) Rs s:=by
 refine codeAny_forLoop (Kl prog w B Φ it P s s₀ G₀ i m ((r,loc'),M')) (fun n s' hI=>?_) as.length ⟨s.heap,s.toks,G,mm,loc,M,as,rfl,rfl,S,ti,X0,p,e⟩
 clear S ti X0 p e
 obtain ⟨h',tk',G',mm',loc1,M1,as1,rfl,rfl,S1,ti1,X1,p1,e⟩:=hI
 cases as1 with
 | nil=>
  cases e
  refine hP.done A _ G' R.hd p1 _ _ fun h2 hs=>?_
  exact wpAny_execs_nil (h h2 tk' _ mm' _ (S1.iter_end ti1 (hP.nocell _ _ _ p1) hs) ((X1.past t0 hs).past_free t0) .next)
 | cons a as1=>
  obtain ⟨⟨f,loc3⟩,M3,e3,e⟩:=aL e
  refine hP.next A _ G' a as1 ti1 p1 _ _ fun h2 tk2 v hs p2 r2=>?_
  have S2:=S1.iter_step ti1 (hP.nocell _ _ _ p1) hs (hP.live _ _ _ p2)
  have X2:=X1.past t0 hs.extBut
  refine wpAny_assign_Name (iG (s:={ s with heap:=h2,toks:=tk2 }) hΦ hi S2 r2 fun h3 tk3 mm3 S3 X3=>?_)
  refine hb A Φ { s with heap:=h3,toks:=tk3 } G' mm3 _ M1 f loc3 M3 R hΦ S3 e3 _ _ fun h4 tk4 G4 mm4 fl S4 X4 r4=>?_
  have X:=X2.trans (X3.trans X4)
  cases r4 with
  | next=>exact ⟨as1.length,Nat.lt_succ_self _,h4,tk4,G4,mm4,loc3,M3,as1,rfl,rfl,S4,(X3.trans X4).tag it (by rw [ti1]; rfl) ▸ ti1,X,hP.keep _ _ _ _ _ ti1 p2 (X3.trans X4),e⟩
  | brk=>cases e; exact h h4 tk4 G4 mm4 _ S4 X .next
  | ret q=>cases e; exact h h4 tk4 G4 mm4 _ S4 X (.ret q)
end
end Mine
end
section
namespace Mine
section
variable {prog : Program} {w : World} {B : Heap} {b : Nat} {sg : Sg}
theorem St.push {Φ : Frm} {h : Heap} {G : Gh} {mm : Str → Option Value} {loc : Loc} {M : List ah} (S : St prog w B Φ h G mm loc M) (o : Obj) (t : Tag) (hf : o.isFreed = false:=by rfl) : St prog w B Φ (h.push o) (G.put h.objs.size t) mm loc M:=
 S.grow (S.core.push o t hf) (S.core.grow_push o t hf)
noncomputable def kZ (a b c : Int) : List ae:=(List.range (Builtin.Range.rangeSize a b c).toNat).map fun (k : Nat)=>ae.int (a + k * c)
inductive Gd (it : Addr) (h : Heap) (G : Gh) (as : List ae) : Prop
 | mk (l : Addr) (items : List Value) (i : Nat) (k : (G.tag l).solid = true) (p1 : h.IsListIter it l i) (p2 : h.IsList l (List.toArray items)) (p3 : bf h G (items.drop i) as)
theorem fn {h h' : Heap} {a : Addr} {items : Array Value} (x : h.IsList a items) (e : ∀ o,h.get? a = some o → h'.get? a = some o) : h'.IsList a items:=let ⟨o,ho,r⟩:=x; ⟨o,e o ho,r⟩
theorem iX {h h' : Heap} {a l : Addr} {i : Nat} (x : h.IsListIter a l i) (e : ∀ o,h.get? a = some o → h'.get? a = some o) : h'.IsListIter a l i:=let ⟨o,ho,r⟩:=x; ⟨o,e o ho,r⟩
theorem xh {α : Type} {items : List α} {i : Nat} {v : α} {vs : List α} (e : items.drop i = v :: vs) : items[i]? = some v ∧ items.drop (i + 1) = vs:=by
 refine ⟨?_,?_⟩
 ·have:=congrArg (·[0]?) e
  simpa using this
 ·rw [← List.drop_drop,e]; rfl
theorem yJ {G : Gh} {it l : Addr} (ti : G.tag it = .below) (hl : (G.tag l).solid = true) : l ≠ it:=fun e=>by rw [e,ti] at hl; cases hl
theorem hA {G : Gh} {it : Addr} {h h' : Heap} (ti : G.tag it = .below) (hs : Heap.SameBut it h h') : eN h G h' G:=
 ⟨fun _ k=>k,fun _ o k e=>(hs.2 _ (yJ ti k)).trans e,List.prefix_refl _⟩
theorem pq {G : Gh} {q : Addr} {h h' : Heap} (hq : (G.tag q).solid = false) (hs : Heap.SameBut q h h') : eN h G h' G:=
 ⟨fun _ k=>k,fun a o k e=>(hs.2 a (fun z=>by rw [z,hq] at k; cases k)).trans e,List.prefix_refl _⟩
theorem ml (it : Addr) : k7 prog w it (Gd it) where
 keep h G h' G' as ti:=by
  rintro ⟨l,items,i,k,p1,p2,p3⟩ X
  exact ⟨l,items,i,X.solid.tag l k,iX p1 fun o e=>X.obj it o (by rw [ti]; rfl) e,fn p2 fun o e=>X.solid.obj l o k e,p3.mono X.solid⟩
 live h G as:=by
  rintro ⟨l,items,i,k,⟨o,ho,_⟩,p2,p3⟩
  exact ⟨o,ho⟩
 keepBut h h' G q as hq hn:=by
  rintro ⟨l,items,i,k,p1,p2,p3⟩ hs
  have sol:=pq hq hs
  exact ⟨l,items,i,k,iX p1 fun o e=>(hs.2 it (Ne.symm hn)).trans e,fn p2 fun o e=>sol.obj l o k e,p3.mono sol⟩
 nocell h G as:=by
  rintro ⟨l,items,i,k,⟨o,ho,_,hd⟩,p2,p3⟩ v ⟨o',ho',hd'⟩
  rw [ho] at ho'; cases ho'; rw [hd] at hd'; cases hd'
 next A s G a as ti:=by
  rintro ⟨l,items,i,k,p1,p2,p3⟩ Q E hq
  generalize hd : items.drop i = ds at p3
  cases p3 with
  | cons r rs=>
   obtain ⟨e1,e2⟩:=xh hd
   refine wpAny_pyNext_list_item p1 p2 (by simpa using e1) fun h' hi hs=>?_
   have sol:=hA ti hs
   exact hq h' s.toks _ hs ⟨l,items,i + 1,k,hi,fn p2 fun o e=>sol.obj l o k e,by rw [e2]; exact rs.mono sol⟩ (r.mono sol)
 done A s G hh:=by
  rintro ⟨l,items,i,k,p1,p2,p3⟩ Q E hq
  generalize hd : items.drop i = ds at p3
  cases p3 with
  | nil=>
   refine wpAny_pyNext_list_end hh p1 p2 ?_ hq
   simp only [List.getElem?_toArray]
   rw [List.getElem?_eq_none_iff]
   exact List.drop_eq_nil_iff.mp hd
inductive Dw (it : Addr) (h : Heap) (G : Gh) (as : List ae) : Prop
 | mk (x st : Int) (n : Nat) (p : IsRangeIter h it x (Int.ofNat n) st) (e : as = (List.range n).map fun (k : Nat)=>ae.int (x + k * st))
theorem kN (it : Addr) : k7 prog w it (Dw it) where
 keep h G h' G' as ti:=by
  rintro ⟨x,st,n,p,e⟩ X
  exact ⟨x,st,n,X.obj it _ (by rw [ti]; rfl) p,e⟩
 live h G as:=by
  rintro ⟨x,st,n,p,e⟩
  exact ⟨_,p⟩
 keepBut h h' G q as hq hn:=by
  rintro ⟨x,st,n,p,e⟩ hs
  exact ⟨x,st,n,(hs.2 it (Ne.symm hn)).trans p,e⟩
 nocell h G as:=by
  rintro ⟨x,st,n,p,e⟩ v ⟨o',ho',hd'⟩
  have p' : h.get? it = some _:=p
  rw [p'] at ho'; cases ho'; cases hd'
 next A s G a as ti:=by
  rintro ⟨x,st,n,p,e⟩ Q E hq
  cases n with
  | zero=>cases e
  | succ n=>
   rw [List.range_succ_eq_map,List.map_cons,List.map_map] at e
   injection e with e1 e2
   subst e1 e2
   refine wpAny_pyNext_range_item p (by show (0 : Int) < ((n + 1 : Nat) : Int); exact IN) fun h' hi hs=>?_
   refine hq h' _ _ hs ⟨x + st,st,n,?_,?_⟩ (by
    have : x + ((0 : Nat) : Int) * st = x:=by simp
    rw [this]; exact .int ..)
   ·have : (Int.ofNat (n + 1)) - 1 = Int.ofNat n:=by show ((n + 1 : Nat) : Int) - 1 = (n : Int); exact FP
    rw [this] at hi; exact hi
   ·refine List.map_congr_left fun k _=>?_
    show ae.int (x + ((k + 1 : Nat) : Int) * st) = ae.int (x + st + k * st)
    congr 1
    rw [Int.natCast_add,Int.add_mul]; simp; exact Ji
 done A s G hh:=by
  rintro ⟨x,st,n,p,e⟩ Q E hq
  cases n with
  | zero=>exact wpAny_pyNext_range_end hh p (Int.le_refl _) hq
  | succ n=>rw [List.range_succ_eq_map] at e; cases e
inductive I3 (it : Addr) (h : Heap) (G : Gh) (as : List ae) : Prop
 | mk (l : Addr) (items : List Value) (i : Nat) (k : (G.tag l).solid = true) (hi : i ≤ items.length) (p1 : h.IsRevIter it l (Int.ofNat i - 1)) (p2 : h.IsList l (List.toArray items)) (p3 : bf h G (items.take i).reverse as)
theorem vK (it : Addr) : k7 prog w it (I3 it) where
 keep h G h' G' as ti:=by
  rintro ⟨l,items,i,k,hi,p1,p2,p3⟩ X
  exact ⟨l,items,i,X.solid.tag l k,hi,p1.at fun o e=>X.obj it o (by rw [ti]; rfl) e,fn p2 fun o e=>X.solid.obj l o k e,p3.mono X.solid⟩
 live h G as:=by
  rintro ⟨l,items,i,k,hi,⟨o,ho,_⟩,p2,p3⟩
  exact ⟨o,ho⟩
 keepBut h h' G q as hq hn:=by
  rintro ⟨l,items,i,k,hi,p1,p2,p3⟩ hs
  have sol:=pq hq hs
  exact ⟨l,items,i,k,hi,p1.at fun o e=>(hs.2 it (Ne.symm hn)).trans e,fn p2 fun o e=>sol.obj l o k e,p3.mono sol⟩
 nocell h G as:=by
  rintro ⟨l,items,i,k,hi,⟨o,ho,_,hd⟩,p2,p3⟩ v ⟨o',ho',hd'⟩
  rw [ho] at ho'; cases ho'; rw [hd] at hd'; cases hd'
 next A s G a as ti:=by
  rintro ⟨l,items,i,k,hi,p1,p2,p3⟩ Q E hq
  cases i with
  | zero=>cases p3
  | succ i=>
   have hlt : i < items.length:=hi
   have e0 : items.take (i + 1) = items.take i ++ [items[i]]:=by rw [List.take_succ_eq_append_getElem hlt]
   rw [e0,List.reverse_append] at p3
   cases p3 with
   | cons r rs=>
    have ei : (Int.ofNat (i + 1) - 1) = (i : Int):=by show ((i + 1 : Nat) : Int) - 1 = _; exact FP
    rw [ei] at p1
    refine wpAny_pyNext_rev_item p1 p2 (x:=items[i]) (by simp [hlt]) fun h' hi' hs=>?_
    have sol:=hA ti hs
    exact hq h' s.toks _ hs ⟨l,items,i,k,Nat.le_of_lt hlt,hi',fn p2 fun o e=>sol.obj l o k e,rs.mono sol⟩ (r.mono sol)
 done A s G hh:=by
  rintro ⟨l,items,i,k,hi,p1,p2,p3⟩ Q E hq
  cases i with
  | zero=>exact wpAny_pyNext_rev_end hh p1 hq
  | succ i=>
   exfalso
   have:=p3.length
   rw [List.length_reverse,List.length_take,List.length_nil] at this
   exact absurd ((Nat.min_eq_left hi).symm.trans this) (Nat.succ_ne_zero _)
theorem gW (a b c : Int) : 0 ≤ Builtin.Range.rangeSize a b c:=by
 unfold Builtin.Range.rangeSize
 split
 ·split
  ·exact Int.le_add_one (Int.ediv_nonneg (H4 (by assumption)) (Hj (by assumption)))
  ·exact Int.le_refl _
 ·split
  ·exact Int.le_add_one (Int.ediv_nonneg (KM (by assumption)) (Ke (by assumption)))
  ·exact Int.le_refl _
noncomputable def cV : ae → Option (List ae)
 | .lst vs=>some vs
 | .rng a b c=>if Builtin.Range.small a b c then some (kZ a b c) else none
 | _=>none
noncomputable def dX (i : Nat) (l : Loc → Mo ae) (m : Loc → Mo (Fl × Loc)) : Loc → Mo (Fl × Loc):=fun loc=>bnd (l loc) fun a=>match cV a with
 | some as=>dY i m as loc
 | none=>dK
theorem Ext.start {h : Heap} {G : Gh} {o : Obj} {t : Tag} (hs : G.tag h.objs.size = .free) : Ext h G (h.push o) (G.put h.objs.size t):=
 ⟨fun a k=>G.put_ne _ (fun e=>by rw [e,hs] at k; cases k),fun a o' k e=>Heap.get?_push_of_some _ e,List.prefix_refl _⟩
theorem dt {i : Nat} {x : Str} {xp pos : Pos} {el : Expr} {body : List Stmt} {l : Loc → Mo ae} {m : Loc → Mo (Fl × Loc)} (hi : sg.names[i]? = some x) (hl : bT prog w B b sg el l) (hb : cz prog w B b sg body m)
  (hs : ∀ env x,foldedSetIterable el env x = pure x:=by intro _ _; rfl) : ig prog w B b sg (.For (.Name x xp) el body [] pos) (dX i l m):=by
 intro A Φ s G mm loc M r loc' M' R hΦ S e Q E h
 obtain ⟨a,M1,e1,e⟩:=aL e
 refine wpAny_For ?_ (hs _)
 refine hl A Φ s G mm loc M a M1 R hΦ.1 S e1 _ _ fun h1 tk1 G1 v S1 X1 r1=>?_
 cases r1 with
 | @lst ad items vs k p rs=>
  refine wpAny_pyIter_list p ?_
  have f:=S1.core.free
  have S2:=S1.push { cls:=.type "list_iterator",data:=.fields #[.ref ad,.int 0 0] } .below
  have X2:=Ext.start (o:={ cls:=.type "list_iterator",data:=.fields #[.ref ad,.int 0 0] }) (t:=.below) f
  refine nJ (ml h1.objs.size) hi hb (s:={ s with heap:=_,toks:=tk1 }) (G₀:=G1) (s₀:=h1) R hΦ S2 (Gh.put_same ..) (by rw [f]; rfl) X2 ⟨_,_,0,X2.solid.tag _ k,⟨_,Heap.get?_push_size _ rfl,rfl,rfl⟩,p.push _,by rw [List.drop_zero]; exact rs.mono X2.solid⟩ e fun h3 tk3 G3 mm3 fl S3 X3 r3=>?_
  exact h h3 tk3 G3 mm3 fl S3 (X1.trans X3) r3
 | @rng ad lo hi' st t u v k p=>
  by_cases hsm : Builtin.Range.small lo hi' st = true
  ·simp only [cV,hsm,if_true] at e
   refine wpAny_pyIter_range p hsm ?_
   have f:=S1.core.free
   have S2:=S1.push { cls:=.type "range_iterator",data:=.fields #[rawInt lo,rawInt (Builtin.Range.rangeSize lo hi' st),rawInt st] } .below
   have X2:=Ext.start (o:={ cls:=.type "range_iterator",data:=.fields #[rawInt lo,rawInt (Builtin.Range.rangeSize lo hi' st),rawInt st] }) (t:=.below) f
   refine nJ (kN h1.objs.size) hi hb (s:={ s with heap:=_,toks:=tk1 }) (G₀:=G1) (s₀:=h1) R hΦ S2 (Gh.put_same ..) (by rw [f]; rfl) X2 ⟨lo,st,(Builtin.Range.rangeSize lo hi' st).toNat,?_,rfl⟩ e fun h3 tk3 G3 mm3 fl S3 X3 r3=>?_
   ·have : Int.ofNat (Builtin.Range.rangeSize lo hi' st).toNat = Builtin.Range.rangeSize lo hi' st:=Int.toNat_of_nonneg (gW ..)
    rw [this]
    exact Heap.get?_push_size _ rfl
   ·exact h h3 tk3 G3 mm3 fl S3 (X1.trans X3) r3
  ·simp only [cV,hsm] at e
   cases e
 | _=>cases e
end
end Mine
end
section
namespace Mine
structure Gl (K : Frag) (B : Heap) (p : Program) (loose : List Str) (mg mb : Str → Option Value) : Prop where
 X : K.In B
 T : TopRead p loose mg mb B
section
variable (prog : Program) (w : World) (B : Heap)
noncomputable def cv (b : Nat) (f : Value) (F : List ae → Mo ae) : Prop:=
 ∀ (A : Around) (s : Shared) (G : Gh) (M : List ah) (xs : List Value) (as : List ae) (r : ae) (M' : List ah),
  eV A b → bI prog w B s.heap G M → bf s.heap G xs as → F as M = some (r,M') → ∀ (R : Result → Shared → Prop),
  (∀ h' tk' G' x,bI prog w B h' G' M' → Ext s.heap G h' G' → bO h' G' x r → R (.ok (.ret x)) { s with heap:=h',toks:=tk' }) → codeAny (model prog w) A (.call f ⟨xs,[]⟩) R s
end
section
variable {prog : Program} {w : World} {B : Heap} {b : Nat} {sg : Sg} {K : Frag} {p : Program} {loose : List Str} {mg mb : Str → Option Value}
theorem cv.mono {b' : Nat} {f : Value} {F : List ae → Mo ae} (x : cv prog w B b f F) (h : b ≤ b') : cv prog w B b' f F:=
 fun A s G M xs as r M' R=>x A s G M xs as r M' (R.mono h)
theorem cv.call {f : Value} {F : List ae → Mo ae} (x : cv prog w B b f F) : ij prog w B b f F:=by
 intro A s G M xs as r M' R C rs e Q E h
 exact wpAny_call (x A s G M xs as r M' R C rs e _ fun h' tk' G' v C' X' r'=>h h' tk' G' v C' X' r')
theorem ij.mono {b' : Nat} {f : Value} {F : List ae → Mo ae} (x : ij prog w B b f F) (h : b ≤ b') : ij prog w B b' f F:=
 fun A s G M xs as r M' R=>x A s G M xs as r M' (R.mono h)
theorem bI.inK (Γ : Gl K B p loose mg mb) {h : Heap} {G : Gh} {M : List ah} (C : bI prog w B h G M) : K.In h:=Γ.X.keeps fun b o e=>(C.base b o e).2
theorem CC (Γ : Gl K B p loose mg mb) {Φ : Frm} {A : Around} {s : Shared} {G : Gh} {mm : Str → Option Value} {loc : Loc} {M : List ah} (S : St prog w B Φ s.heap G mm loc M) (hΦ : Φ.Of sg) {x : Str} {pos : Pos} {v : Value} {Q E : Value → Shared → Prop}
  (hx : nsIn K mainGlobals x = some (some v)) (h : Q v s) (hsc : sg.scope.names.lookup x = some .globalImplicit) (hd : (x == ("__debug__" : Str)) = false) : wpAny (model prog w) A (eval (.Name x pos) Φ.env) Q E s:=by
 refine Name_function_global S.ok.kind (by show Φ.env.scope.names.lookup x = _; rw [hΦ.1]; exact hsc) (loadGlobal_global (mg:=mg) ?_ (mg_of Γ.X Γ.T.g hx) h) hd
 rw [S.ok.glob]
 exact Γ.T.g.keeps S.keep
theorem x4 (Γ : Gl K B p loose mg mb) {Φ : Frm} {A : Around} {s : Shared} {G : Gh} {mm : Str → Option Value} {loc : Loc} {M : List ah} (S : St prog w B Φ s.heap G mm loc M) (hΦ : Φ.Of sg) {x : Str} {pos : Pos} {v : Value} {Q E : Value → Shared → Prop}
  (hx : nsIn K mainGlobals x = some none) (hb : bootBuiltins x = some v) (hn : x ≠ "__name__") (h : Q v s) (hsc : sg.scope.names.lookup x = some .globalImplicit) (hd : (x == ("__debug__" : Str)) = false) : wpAny (model prog w) A (eval (.Name x pos) Φ.env) Q E s:=by
 refine Name_function_global S.ok.kind (by show Φ.env.scope.names.lookup x = _; rw [hΦ.1]; exact hsc) (loadGlobal_builtin (mg:=mg) (mb:=mb) ?_ (mg_none_of Γ.X Γ.T.g hx) ?_ ((Γ.T.builtins x hn).trans hb) h) hd
 ·rw [S.ok.glob]
  exact Γ.T.g.keeps S.keep
 ·rw [S.ok.blt]
  exact Γ.T.b.keeps S.keep
noncomputable def aq (F : List ae → Mo ae) (ms : Loc → Mo (List ae)) : Loc → Mo ae:=fun loc=>bnd (ms loc) F
theorem fX {f : Value} {F : List ae → Mo ae} (hc : ij prog w B b f F) {Φ : Frm} {A : Around} {s : Shared} {G : Gh} {mm : Str → Option Value} {loc : Loc} {M M' : List ah} {xs : List Value} {as : List ae} {r : ae} (R : eV A b)
  (S : St prog w B Φ s.heap G mm loc M) (rs : bf s.heap G xs as) (e : F as M = some (r,M')) : rI prog w B Φ mm loc A (call f xs) s G r M':=
 gG.lift S (hc A s _ M xs as r M' R S.lower (S.lower_vals rs) e)
theorem az (Γ : Gl K B p loose mg mb) {x : Str} {xp pos : Pos} {a : Addr} {e1 : Expr} {rest : List Expr} {ms : Loc → Mo (List ae)} {F : List ae → Mo ae}
  (hx : nsIn K mainGlobals x = some (some (.ref a))) (hk : keepIn K (.ref a) = true) (hes : iH prog w B b sg (e1 :: rest) ms) (hc : ij prog w B b (.ref a) F)
  (hsc : sg.scope.names.lookup x = some .globalImplicit:=by kernel_rfl) (hd : (x == ("__debug__" : Str)) = false:=by kernel_rfl)
  (he : ∀ env,starEach (e1 :: rest) env = (false,eval e1 env) :: starEach rest env:=by intro _; rfl) (hplain : ∀ env,(backTo pos (starEach rest env)).any (·.1) = false:=by intro _; rfl) :
  bT prog w B b sg (.Call (.Name x xp) (e1 :: rest) [] pos) (aq F ms):=by
 intro A Φ s G mm loc M v M' R hΦ S e Q E h
 obtain ⟨as,M1,e1',e⟩:=aL e
 refine Call_ ?_
 refine CC Γ S hΦ hx ?_ hsc hd
 refine callWith_K Γ.X hk ?_ (he _) (hplain _)
 refine hes A Φ pos s G mm loc M as M1 R hΦ S e1' _ _ fun h1 tk1 G1 xs S1 X1 r1=>⟨S1.core.inK Γ,?_⟩
 exact fX (s:={ s with heap:=h1,toks:=tk1 }) hc R S1 r1 e _ _ fun h2 tk2 G2 y S2 X2 r2=>h h2 tk2 G2 y S2 (X1.trans X2) r2
theorem BZ (Γ : Gl K B p loose mg mb) {x : Str} {xp pos : Pos} {a : Addr} {F : List ae → Mo ae}
  (hx : nsIn K mainGlobals x = some (some (.ref a))) (hk : keepIn K (.ref a) = true) (hc : ij prog w B b (.ref a) F)
  (hsc : sg.scope.names.lookup x = some .globalImplicit:=by kernel_rfl) (hd : (x == ("__debug__" : Str)) = false:=by kernel_rfl) :
  bT prog w B b sg (.Call (.Name x xp) [] [] pos) (aq F am):=by
 intro A Φ s G mm loc M v M' R hΦ S e Q E h
 refine Call_ ?_
 refine CC Γ S hΦ hx ?_ hsc hd
 refine callWith_K0 (S.core.inK Γ) hk ?_
 exact fX hc R S .nil e _ _ fun h2 tk2 G2 y S2 X2 r2=>h h2 tk2 G2 y S2 X2 r2
theorem da (Γ : Gl K B p loose mg mb) {x : Str} {xp pos : Pos} {id : String} {e1 : Expr} {rest : List Expr} {ms : Loc → Mo (List ae)} {F : List ae → Mo ae}
  (hx : nsIn K mainGlobals x = some none) (hb : bootBuiltins x = some (.builtin id)) (hn : x ≠ "__name__") (hes : iH prog w B b sg (e1 :: rest) ms) (hc : ij prog w B b (.builtin id) F)
  (hsc : sg.scope.names.lookup x = some .globalImplicit:=by kernel_rfl) (hd : (x == ("__debug__" : Str)) = false:=by kernel_rfl)
  (he : ∀ env,starEach (e1 :: rest) env = (false,eval e1 env) :: starEach rest env:=by intro _; rfl) (hplain : ∀ env,(backTo pos (starEach rest env)).any (·.1) = false:=by intro _; rfl) :
  bT prog w B b sg (.Call (.Name x xp) (e1 :: rest) [] pos) (aq F ms):=by
 intro A Φ s G mm loc M v M' R hΦ S e Q E h
 obtain ⟨as,M1,e1',e⟩:=aL e
 refine Call_ ?_
 refine x4 Γ S hΦ hx hb hn ?_ hsc hd
 refine PyProof.Rows.callWith_builtin1 ?_ (he _) (hplain _)
 refine hes A Φ pos s G mm loc M as M1 R hΦ S e1' _ _ fun h1 tk1 G1 xs S1 X1 r1=>?_
 exact fX (s:={ s with heap:=h1,toks:=tk1 }) hc R S1 r1 e _ _ fun h2 tk2 G2 y S2 X2 r2=>h h2 tk2 G2 y S2 (X1.trans X2) r2
theorem eh (Γ : Gl K B p loose mg mb) {x : Str} {xp pos : Pos} {id : String} {e1 : Expr} {rest : List Expr} {ms : Loc → Mo (List ae)} {F : List ae → Mo ae}
  (hx : nsIn K mainGlobals x = some none) (hb : bootBuiltins x = some (.type id)) (hn : x ≠ "__name__") (hes : iH prog w B b sg (e1 :: rest) ms) (hc : ij prog w B b (.type id) F)
  (hsc : sg.scope.names.lookup x = some .globalImplicit:=by kernel_rfl) (hd : (x == ("__debug__" : Str)) = false:=by kernel_rfl)
  (he : ∀ env,starEach (e1 :: rest) env = (false,eval e1 env) :: starEach rest env:=by intro _; rfl) (hplain : ∀ env,(backTo pos (starEach rest env)).any (·.1) = false:=by intro _; rfl) :
  bT prog w B b sg (.Call (.Name x xp) (e1 :: rest) [] pos) (aq F ms):=by
 intro A Φ s G mm loc M v M' R hΦ S e Q E h
 obtain ⟨as,M1,e1',e⟩:=aL e
 refine Call_ ?_
 refine x4 Γ S hΦ hx hb hn ?_ hsc hd
 refine PyProof.Rows.callWith_type1 ?_ (he _) (hplain _)
 refine hes A Φ pos s G mm loc M as M1 R hΦ S e1' _ _ fun h1 tk1 G1 xs S1 X1 r1=>?_
 exact fX (s:={ s with heap:=h1,toks:=tk1 }) hc R S1 r1 e _ _ fun h2 tk2 G2 y S2 X2 r2=>h h2 tk2 G2 y S2 (X1.trans X2) r2
noncomputable def wl (a : ae) : Mo Unit:=fun M=>match a with
 | .mref i=>(match M[i]? with
  | some (.lst _)=>some ((),M)
  | _=>none)
 | _=>none
noncomputable def bG (F : List ae → Mo ae) (o : Loc → Mo ae) (ms : Loc → Mo (List ae)) : Loc → Mo ae:=fun loc=>bnd (o loc) fun a=>bnd (wl a) fun _=>bnd (ms loc) fun as=>F (a :: as)
theorem m9 {a : ae} {M M' : List ah} {u : Unit} (e : wl a M = some (u,M')) : ∃ i vs,a = .mref i ∧ M[i]? = some (.lst vs) ∧ M' = M:=by
 unfold wl at e
 split at e
 ·split at e
  ·rename_i h; cases e; exact ⟨i,vs,rfl,h,rfl⟩
  ·cases e
 ·cases e
noncomputable abbrev rE (o : Expr) (name : Str) (apos pos : Pos) (args : List Expr) (env : Env) : Prop:=∃ pl : Sem Bool,eval (.Call (.Attribute o name apos) args [] pos) env = (do
   let ov ← eval o env
   standAt apos.atName
   let (f,first) ← holding [ov] (getMethod ov name pl)
   callWith pos f first (backTo pos (starEach args env)) [])
noncomputable def pL (es : List Expr) : Prop:=match es with
 | []=>True
 | e1 :: rest=>∀ (pos : Pos) (env : Env),starEach (e1 :: rest) env = (false,eval e1 env) :: starEach rest env ∧ (backTo pos (starEach rest env)).any (·.1) = false
theorem tK (prog : Program) (w : World) {pos : Pos} {id : String} {first : List Value} {es : List Expr} {ms : Loc → Mo (List ae)} (hes : iH prog w B b sg es ms)
  {Φ : Frm} {A : Around} {s : Shared} {G : Gh} {mm : Str → Option Value} {loc : Loc} {M M' : List ah} {as : List ae} (R : eV A b) (hΦ : Φ.Of sg) (S : St prog w B Φ s.heap G mm loc M) (e : ms loc M = some (as,M'))
  (hplain : pL es) {Q : Value → Shared → Prop} {E : Value → Shared → Prop}
  (h : ∀ h' tk' G' xs,St prog w B Φ h' G' mm loc M' → Ext s.heap G h' G' → bf h' G' xs as → wpAny (model prog w) A (call (.builtin id) (first ++ xs)) Q E { s with heap:=h',toks:=tk' }) :
  wpAny (model prog w) A (callWith pos (.builtin id) first (backTo pos (starEach es Φ.env)) []) Q E s:=by
 have k:=hes A Φ pos s G mm loc M as M' R hΦ S e _ E h
 cases es with
 | nil=>
  refine callWith_method0 ?_
  have k' : wpAny (model prog w) A (call (.builtin id) (first ++ [])) Q E s:=fun Γ p hΓ=>(show wpAny (model prog w) A (call (.builtin id) (first ++ [])) Q E s from k Γ p hΓ) Γ p hΓ
  simpa using k'
 | cons e1 rest=>exact callWith_method1 k (hplain pos _).1 (hplain pos _).2
theorem cj {o : Expr} {name : Str} {id : String} {apos pos : Pos} {es : List Expr} {lo : Loc → Mo ae} {ms : Loc → Mo (List ae)} {F : List ae → Mo ae} (ho : bT prog w B b sg o lo) (hes : iH prog w B b sg es ms)
  (hc : ij prog w B b (.builtin id) F) (slot : Slot "list" name id) (hty : typeOf (.builtin id) = pure (.type "method_descriptor"))
  (ht : ∀ env,rE o name apos pos es env:=by intro _; exact ⟨_,rfl⟩) (hplain : pL es:=by first | exact trivial | (intro _ _; exact ⟨rfl,rfl⟩)) :
  bT prog w B b sg (.Call (.Attribute o name apos) es [] pos) (bG F lo ms):=by
 intro A Φ s G mm loc M v M' R hΦ S e Q E h
 obtain ⟨a,M1,e1,f1⟩:=aL e
 obtain ⟨u,M2,e2,f2⟩:=aL f1
 obtain ⟨as,M3,e3,f3⟩:=aL f2
 obtain ⟨i,vs,rfl,hi,rfl⟩:=m9 e2
 obtain ⟨pl,he⟩:=ht Φ.env
 refine MethodCall_ (pl:=pl) ?_ he
 refine ho A Φ s G mm loc M _ _ R hΦ S e1 _ _ fun h1 tk1 G1 x S1 X1 r1=>?_
 cases r1 with
 | @mref _ ad r=>
  obtain ⟨a',items,n,r',t,o',rv⟩:=S1.core.muts i _ hi
  rw [r] at r'; cases r'
  refine getMethod_list_of slot hty ⟨_,o',rfl,n,rfl⟩ ⟨_,o',rfl⟩ ?_
  refine tK prog w hes (s:={ s with heap:=h1,toks:=tk1 }) R hΦ S1 e3 hplain fun h2 tk2 G2 xs S2 X2 r2=>?_
  exact fX (s:={ s with heap:=h2,toks:=tk2 }) hc R S2 (.cons (.mref (eC X2.ρ r)) r2) f3 _ _ fun h3 tk3 G3 y S3 X3 r3=>h h3 tk3 G3 y S3 (X1.trans (X2.trans X3)) r3
noncomputable def nB (a : ae) (M : List ah) : Option (Addr × List (Str × ae)):=match a with
 | .mref i=>(match M[i]? with
  | some (.inst C fs)=>some (C,fs)
  | _=>none)
 | .inst C fs=>some (C,fs)
 | _=>none
noncomputable def mz (x : Str) : List (Str × ae) → Option ae
 | []=>none
 | (k,a) :: r=>if k == x then some a else mz x r
noncomputable def pz (C : Addr) (x : Str) (a : ae) : Mo Unit:=fun M=>match nB a M with
 | some (D,fs)=>if D = C ∧ mz x fs = none then some ((),M) else none
 | none=>none
noncomputable def eB (C : Addr) (x : Str) (F : List ae → Mo ae) (o : Loc → Mo ae) (ms : Loc → Mo (List ae)) : Loc → Mo ae:=fun loc=>bnd (o loc) fun a=>bnd (pz C x a) fun _=>bnd (ms loc) fun as=>F (a :: as)
theorem wE {h : Heap} {G : Gh} {M : List ah} {v : Value} {a : ae} {C : Addr} {fs : List (Str × ae)} (c : bI prog w B h G M) (r : bO h G v a) (e : nB a M = some (C,fs)) :
  ∃ x dx es n,v = .ref x ∧ h.get? x = some (instObj C dx) ∧ h.get? dx = some (dictOf es n) ∧ dq h G es fs:=by
 cases r with
 | @mref i ad r=>
  unfold nB at e
  dsimp only at e
  split at e
  ·rename_i hm
   cases e
   obtain ⟨x,dx,es,n,r',t1,t2,o1,o2,q⟩:=c.muts i _ hm
   rw [r] at r'; cases r'
   exact ⟨_,dx,es,n,rfl,o1,o2,q⟩
  ·cases e
 | @inst x dx D es n fs' k1 k2 o1 o2 q=>cases e; exact ⟨x,dx,es,n,rfl,o1,o2,q⟩
 | _=>cases e
theorem Ev (k x : Str) (t : Tok) : (Value.str k t).isStr x = (k == x):=rfl
theorem mJ {h : Heap} {G : Gh} {x : Str} {es : List DictEntry} {fs : List (Str × ae)} (rs : dq h G es fs) :
  (∀ a,mz x fs = some a → ∃ v,getL x es = some (some v) ∧ bO h G v a) ∧ (mz x fs = none → getL x es = some none):=
 dq.ind (P:=fun es fs=>(∀ a,mz x fs = some a → ∃ v,getL x es = some (some v) ∧ bO h G v a) ∧ (mz x fs = none → getL x es = some none)) ⟨fun a e=>(nomatch e),fun _=>rfl⟩ (fun hs k t v a es fs r _ ih=>by
  have ref : (⟨hs,.str k t,v⟩ : DictEntry).refKey = false:=rfl
  unfold mz getL
  rw [List.find?_cons]
  by_cases hk : (k == x) = true
  ·have e1 : (⟨hs,.str k t,v⟩ : DictEntry).key.isStr x = true:=hk
   rw [e1,if_pos hk]
   exact ⟨fun b e=>by cases e; exact ⟨v,rfl,r⟩,fun e=>(nomatch e)⟩
  ·have hk' : (k == x) = false:=by simpa using hk
   have e1 : (⟨hs,.str k t,v⟩ : DictEntry).key.isStr x = false:=hk'
   rw [e1,if_neg hk,List.any_cons,ref,Bool.false_or]
   exact ih) rs
theorem eZ (Γ : Gl K B p loose mg mb) {o : Expr} {name : Str} {C f : Addr} {apos pos : Pos} {e1 : Expr} {rest : List Expr} {lo : Loc → Mo ae} {ms : Loc → Mo (List ae)} {F : List ae → Mo ae} (ho : bT prog w B b sg o lo) (hes : iH prog w B b sg (e1 :: rest) ms)
  (hc : ij prog w B b (.ref f) F) (hg : plainGet K C name = true) (hf : findIn K (.ref C) name = some (some (.ref f))) (hfn : isFn K (.ref f) = true) (hk : keepIn K (.ref f) = true)
  (ht : ∀ env,rE o name apos pos (e1 :: rest) env:=by intro _; exact ⟨_,rfl⟩)
  (he : ∀ env,starEach (e1 :: rest) env = (false,eval e1 env) :: starEach rest env:=by intro _; rfl) (hplain : ∀ env,(backTo pos (starEach rest env)).any (·.1) = false:=by intro _; rfl) :
  bT prog w B b sg (.Call (.Attribute o name apos) (e1 :: rest) [] pos) (eB C name F lo ms):=by
 intro A Φ s G mm loc M v M' R hΦ S e Q E h
 obtain ⟨a,M1,ea,f1⟩:=aL e
 obtain ⟨u,M2,e2,f2⟩:=aL f1
 obtain ⟨as,M3,e3,f3⟩:=aL f2
 have hcl : ∃ fs,nB a M1 = some (C,fs) ∧ mz name fs = none ∧ M2 = M1:=by
  unfold pz at e2
  split at e2
  ·rename_i hD
   split at e2
   ·rename_i q; cases e2; obtain ⟨rfl,q⟩:=q; exact ⟨fs,hD,q,rfl⟩
   ·cases e2
  ·cases e2
 obtain ⟨fs,h1c,hno,rfl⟩:=hcl
 obtain ⟨pl,hm⟩:=ht Φ.env
 refine MethodCall_ (pl:=pl) ?_ hm
 refine ho A Φ s G mm loc M a _ R hΦ S ea _ _ fun h1 tk1 G1 x S1 X1 r1=>?_
 obtain ⟨xa,dx,es,n,rfl,o1,o2,q⟩:=wE S1.core r1 h1c
 refine method_inst S1.fr Γ.X ⟨o1,rfl,rfl,o2⟩ hg hf hfn ((mJ q).2 hno) ?_
 refine callWith_K Γ.X hk ?_ (he _) (hplain _)
 refine hes A Φ pos { s with heap:=h1,toks:=tk1 } G1 mm loc M2 as M3 R hΦ S1 e3 _ _ fun h2 tk2 G2 xs S2 X2 r2=>⟨S2.core.inK Γ,?_⟩
 exact fX (s:={ s with heap:=h2,toks:=tk2 }) hc R S2 (.cons (r1.mono X2.solid) r2) f3 _ _ fun h3 tk3 G3 y S3 X3 r3=>h h3 tk3 G3 y S3 (X1.trans (X2.trans X3)) r3
noncomputable def CX (m : Loc → Mo (Fl × Loc)) (loc : Loc) : Mo ae:=bnd (m loc) fun r=>match r.1 with
 | .ret v=>ret v
 | _=>ret .none
structure Fw (sg : Sg) (ps : List Str) : Prop where
 nd : sg.names.Nodup
 loc : ∀ x ∈ sg.names,sg.scope.names.lookup x = some .local
 kind : sg.scope.kind = .function
 co : sg.scope.isCoroutine = false
 gen : sg.scope.isGenerator = false
 cell : ∀ x ∈ sg.scope.names,x.2 ≠ .cell
 pre : ps <+: sg.names
noncomputable def ye (sg : Sg) (ps : List Str) : Bool:=decide sg.names.Nodup && sg.names.all (fun x=>sg.scope.names.lookup x == some .local) && (sg.scope.kind == .function) && !sg.scope.isCoroutine && !sg.scope.isGenerator && sg.scope.names.all (fun x=>x.2 != .cell) && ps.isPrefixOf sg.names
theorem bt {sg : Sg} {ps : List Str} (h : ye sg ps = true) : Fw sg ps:=by
 unfold ye at h
 simp only [Bool.and_eq_true,decide_eq_true_eq,List.all_eq_true,beq_iff_eq,Bool.not_eq_true',bne_iff_ne,ne_eq] at h
 obtain ⟨⟨⟨⟨⟨⟨h1,h2⟩,h3⟩,h4⟩,h5⟩,h6⟩,h7⟩:=h
 exact ⟨h1,h2,h3,h4,h5,h6,List.isPrefixOf_iff_prefix.mp h7⟩
theorem u3 {ps : List Str} : ∀ {vs : List Value} {i : Nat} {x : Str} {v : Value},ps.Nodup → ps[i]? = some x → vs[i]? = some v → (ps.zip vs).lookup x = some v:=by
 induction ps with
 | nil=>intro vs i x v _ e; simp at e
 | cons q ps ih=>
  intro vs i x v nd e1 e2
  cases vs with
  | nil=>simp at e2
  | cons y vs=>
   rw [List.nodup_cons] at nd
   cases i with
   | zero=>simp at e1 e2; subst e1 e2; simp
   | succ i=>
    simp at e1 e2
    have hne : x ≠ q:=fun e=>nd.1 (e ▸ List.mem_of_getElem? e1)
    rw [List.zip_cons_cons,List.lookup_cons,beq_eq_false_iff_ne.mpr hne]
    exact ih nd.2 e1 e2
theorem vB {l : List (Str × Value)} {x : Str} {v : Value} (nd : (l.map (·.1)).Nodup) (e : l.lookup x = some v) : l.reverse.lookup x = some v:=by
 induction l with
 | nil=>cases e
 | cons q l ih=>
  rw [List.map_cons,List.nodup_cons] at nd
  rw [List.lookup_cons] at e
  rw [List.reverse_cons,List.lookup_append]
  by_cases hx : (x == q.1) = true
  ·rw [hx] at e
   have hn : l.reverse.lookup x = none:=by
    rw [List.lookup_eq_none_iff]
    intro r hr
    refine bne_iff_ne.mpr fun q'=>nd.1 ?_
    rw [← beq_iff_eq.mp hx,q']
    exact List.mem_map_of_mem (List.mem_reverse.mp hr)
   rw [hn,List.lookup_cons,hx]
   exact e
  ·have : (x == q.1) = false:=by simpa using hx
   rw [this] at e
   rw [ih nd.2 e]; rfl
noncomputable def fO (n : Nat) (as : List ae) : Loc:=as.map some ++ List.replicate (n - as.length) none
noncomputable def aP (k : Nat) (n : Nat) (dfl : List ae) (m : Loc → Mo (Fl × Loc)) (as : List ae) : Mo ae:=
 if as.length + dfl.length < k ∨ k < as.length then dK else CX m (fO n (as ++ dfl.drop (dfl.length - (k - as.length))))
theorem mf {n : Nat} {as : List ae} {i : Nat} {a : ae} (e : (fO n as)[i]? = some (some a)) : as[i]? = some a:=by
 unfold fO at e
 by_cases h : i < as.length
 ·rw [List.getElem?_append_left (by simpa using h)] at e
  rw [List.getElem?_map] at e
  cases q : as[i]? with
  | none=>rw [q] at e; cases e
  | some b=>rw [q] at e; cases e; rfl
 ·rw [List.getElem?_append_right (by simpa using h)] at e
  exfalso
  have:=List.mem_of_getElem? e
  rw [List.mem_replicate] at this
  cases this.2
theorem cn (Γ : Gl K B p loose mg mb) {name qual : Str} {params : Arguments} {body : List Stmt} {dV kV doc pm cdv ct oc : Value} {an od : Option Addr} {osl : Array (Option Value)} {f : Addr} {ps : List Str} {dfl : List ae} {m : Loc → Mo (Fl × Loc)}
  (ho : K.lookup f = some ⟨oc,od,.func (fnOf name qual params body sg.scope dV kV doc pm an cdv ct),osl⟩) (hcd : codeIn K cdv qual = true) (ok : Fw sg ps)
  (hbind : ∀ (s : Shared) (xs : List Value),K.In s.heap → ps.length ≤ xs.length + dfl.length → xs.length ≤ ps.length → ∃ ds,(∀ h G,bf h G ds (dfl.drop (dfl.length - (ps.length - xs.length)))) ∧ BindsTo s (fnOf name qual params body sg.scope dV kV doc pm an cdv ct) ⟨xs,[]⟩ (ps.zip (xs ++ ds)))
  (hb : cz prog w B b sg body m) : cv prog w B (b + 1) (.ref f) (aP ps.length sg.names.length dfl m):=by
 intro A s G M xs as r M' R C rs e Rs h
 unfold aP at e
 split at e
 ·cases e
 rename_i hlen
 have hl:=rs.length
 have X:=C.inK Γ
 obtain ⟨ds,hds,hB⟩:=hbind s xs X (KH hlen hl) (Jp hlen hl)
 have hps : ps.Nodup:=by
  obtain ⟨t,ht⟩:=ok.pre
  have:=ok.nd; rw [← ht] at this
  exact (List.nodup_append.mp this).1
 have hdl:=(hds s.heap G).length
 refine codeAny_call_def (fd:=fnOf name qual params body sg.scope dV kV doc pm an cdv ct) (body:=body) (binds:=ps.zip (xs ++ ds)) (Nat.lt_of_le_of_lt (Nat.le_add_right _ _) R.dp) (X _ _ ho) rfl (Γ.T.nolimit.keeps fun b o e=>(C.base b o e).2) (codeRec_of X hcd) rfl hB ok.cell (fun x hx=>?_) (fun h₁ hns hk₁=>?_) ok.co ok.gen ok.kind
 ·have : x.1 ∈ ps:=(List.of_mem_zip hx).1
  exact ok.loc _ (ok.pre.subset this)
 obtain ⟨⟨fl,locE⟩,ME,eb,e⟩:=aL e
 let Φ : Frm:=⟨callEnv (fnOf name qual params body sg.scope dV kV doc pm an cdv ct) s.heap.objs.size f,sg.names,[s.heap.objs.size]⟩
 have hLt : s.heap.objs.size < h₁.objs.size:=by
  obtain ⟨o,a1,a2,hL,a3⟩:=hns
  exact Heap.lt_size hL
 have gr : my s.heap G h₁ (G.putAll [s.heap.objs.size] .frame):=by
  refine ⟨fun a k=>?_,List.prefix_refl _,Nat.le_of_lt hLt,fun a=>?_⟩
  ·exact ⟨G.putAll_out _ (fun q=>k (List.mem_singleton.mp q ▸ C.free)),fun o e=>hk₁ a o e⟩
  ·by_cases q : a = s.heap.objs.size
   ·subst q; obtain ⟨o,a1,a2,hL,a3⟩:=hns; exact .inr ⟨o,hL⟩
   ·rw [G.putAll_out _ (fun z=>q (List.mem_singleton.mp z))]; exact (C.live a).imp id fun ⟨o,e⟩=>⟨o,hk₁ a o e⟩
 have hzl : (xs ++ ds).length = ps.length:=by
  rw [List.length_append,hdl,List.length_drop]; exact GI hlen hl
 have S : St prog w B Φ h₁ (G.putAll [s.heap.objs.size] .frame) (fun x=>(ps.zip (xs ++ ds)).reverse.lookup x) (fO sg.names.length (as ++ dfl.drop (dfl.length - (ps.length - as.length)))) M:=by
  refine ⟨C.grow gr C.len,hns,fun a ha=>?_,fun x c e=>(nomatch e),C.size,⟨ok.kind,rfl,rfl,ok.nd,fun x hx=>.inl (ok.loc x hx),List.mem_singleton.mpr rfl,fun x c e=>(nomatch e),fun x y c e=>(nomatch e)⟩,fun i x a e1 e2=>?_⟩
  ·obtain rfl:=List.mem_singleton.mp ha
   exact ⟨G.putAll_in _ ha,by obtain ⟨o,a1,a2,hL,a3⟩:=hns; exact ⟨o,hL⟩⟩
  have e3:=mf e2
  have rr : bf h₁ (G.putAll [s.heap.objs.size] .frame) (xs ++ ds) (as ++ dfl.drop (dfl.length - (ps.length - as.length))):=(rs.mono gr.ext.solid).append (by rw [← hl]; exact hds _ _)
  obtain ⟨v,hv,q⟩:=rr.get e3
  refine ⟨v,.inl ⟨ok.loc x (List.mem_of_getElem? e1),?_⟩,q⟩
  have hip : i < ps.length:=hzl ▸ (List.getElem?_eq_some_iff.mp hv).1
  have e4 : ps[i]? = some x:=by
   obtain ⟨t,ht⟩:=ok.pre
   have e1' : sg.names[i]? = some x:=e1
   rw [← ht,List.getElem?_append_left hip] at e1'
   exact e1'
  refine vB ?_ (u3 hps e4 hv)
  rw [List.map_fst_zip (o28 hzl)]
  exact hps
 refine hb (A.deeper Φ.env) Φ { s with heap:=h₁,toks:=_ } _ _ _ M fl locE ME ⟨R.hd,by have:=R.dp; show A.depth + 1 + b < _; exact FE this,by have:=R.un; show A.units + 3 + 8 * b < _; exact ER this⟩ ⟨⟨rfl,rfl⟩,fun x c e=>(nomatch e)⟩ S eb _ _ fun h' tk' G' mm' x S' X' r'=>?_
 have XX:=gr.ext.trans X'
 cases r' with
 | ret q=>cases e; exact h h' tk' G' _ S'.core XX q
 | next=>cases e; exact h h' tk' G' _ S'.core XX .none
 | brk=>cases e; exact h h' tk' G' _ S'.core XX .none
structure Dd (sg : Sg) (ps : List Str) : Prop where
 nd : sg.names.Nodup
 loc : ∀ x ∈ sg.names,sg.scope.names.lookup x = some .local ∨ (sg.scope.names.lookup x = some .cell ∧ x ∈ (cellsFrom 0 sg.scope.names []).map (·.1))
 kind : sg.scope.kind = .function
 co : sg.scope.isCoroutine = false
 gen : sg.scope.isGenerator = false
 cnd : ((cellsFrom 0 sg.scope.names []).map (·.1)).Nodup
 pre : ps <+: sg.names
noncomputable def wU (sg : Sg) (ps : List Str) : Bool:=decide sg.names.Nodup && sg.names.all (fun x=>sg.scope.names.lookup x == some .local || (sg.scope.names.lookup x == some .cell && ((cellsFrom 0 sg.scope.names []).map (·.1)).contains x)) && (sg.scope.kind == .function) && !sg.scope.isCoroutine && !sg.scope.isGenerator && decide ((cellsFrom 0 sg.scope.names []).map (·.1)).Nodup && ps.isPrefixOf sg.names
theorem kB {sg : Sg} {ps : List Str} (h : wU sg ps = true) : Dd sg ps:=by
 unfold wU at h
 simp only [Bool.and_eq_true,decide_eq_true_eq,List.all_eq_true,beq_iff_eq,Bool.not_eq_true',Bool.or_eq_true,List.contains_iff_mem] at h
 obtain ⟨⟨⟨⟨⟨⟨h1,h2⟩,h3⟩,h4⟩,h5⟩,h6⟩,h7⟩:=h
 exact ⟨h1,h2,h3,h4,h5,h6,List.isPrefixOf_iff_prefix.mp h7⟩
theorem gC {cs : List (Str × Addr)} {x : Str} (h : x ∈ cs.map (·.1)) : ∃ c,cs.lookup x = some c:=by
 induction cs with
 | nil=>cases h
 | cons q cs ih=>
  rw [List.lookup_cons]
  cases hb : x == q.1 with
  | true=>exact ⟨_,rfl⟩
  | false=>
   rw [List.map_cons] at h
   rcases List.mem_cons.mp h with e | h
   ·rw [e] at hb; simp at hb
   ·exact ih h
theorem lI {kd : Str → Option NameKind} : ∀ {ps : List Str} {vs : List Value} {m : Str → Option Value} {x : Str},x ∉ ps → bindL kd (ps.zip vs) m x = m x
 | [],_,_,_,_=>rfl
 | _ :: _,[],_,_,_=>rfl
 | q :: ps,v :: vs,m,x,h=>by
  rw [List.zip_cons_cons]
  show bindL kd (ps.zip vs) _ x = _
  rw [lI (fun e=>h (List.mem_cons_of_mem _ e))]
  have hne : x ≠ q:=fun e=>h (e ▸ List.mem_cons_self)
  split <;> simp [hne]
theorem lH {kd : Str → Option NameKind} : ∀ {ps : List Str} {vs : List Value} {m : Str → Option Value} {x : Str},x ∉ ps → bindC kd (ps.zip vs) m x = m x
 | [],_,_,_,_=>rfl
 | _ :: _,[],_,_,_=>rfl
 | q :: ps,v :: vs,m,x,h=>by
  rw [List.zip_cons_cons]
  show bindC kd (ps.zip vs) _ x = _
  rw [lH (fun e=>h (List.mem_cons_of_mem _ e))]
  have hne : x ≠ q:=fun e=>h (e ▸ List.mem_cons_self)
  split <;> simp [hne]
theorem pB {kd : Str → Option NameKind} : ∀ {ps : List Str} {vs : List Value} {m : Str → Option Value} {i : Nat} {x : Str} {v : Value},ps.Nodup → ps[i]? = some x → vs[i]? = some v → kd x = some .local → bindL kd (ps.zip vs) m x = some v
 | [],_,_,i,_,_,_,e,_,_=>by simp at e
 | _ :: _,[],_,_,_,_,_,_,e,_=>by simp at e
 | q :: ps,u :: vs,m,0,x,v,nd,e1,e2,k=>by
  simp at e1 e2; subst e1 e2
  rw [List.nodup_cons] at nd
  rw [List.zip_cons_cons]
  show bindL kd (ps.zip vs) _ q = _
  rw [lI nd.1,if_pos k]; simp
 | q :: ps,u :: vs,m,i + 1,x,v,nd,e1,e2,k=>by
  simp at e1 e2
  rw [List.nodup_cons] at nd
  rw [List.zip_cons_cons]
  exact pB nd.2 e1 e2 k
theorem pv {kd : Str → Option NameKind} : ∀ {ps : List Str} {vs : List Value} {m : Str → Option Value} {i : Nat} {x : Str} {v : Value},ps.Nodup → ps[i]? = some x → vs[i]? = some v → kd x ≠ some .local → bindC kd (ps.zip vs) m x = some v
 | [],_,_,i,_,_,_,e,_,_=>by simp at e
 | _ :: _,[],_,_,_,_,_,_,e,_=>by simp at e
 | q :: ps,u :: vs,m,0,x,v,nd,e1,e2,k=>by
  simp at e1 e2; subst e1 e2
  rw [List.nodup_cons] at nd
  rw [List.zip_cons_cons]
  show bindC kd (ps.zip vs) _ q = _
  rw [lH nd.1,if_neg k]; simp
 | q :: ps,u :: vs,m,i + 1,x,v,nd,e1,e2,k=>by
  simp at e1 e2
  rw [List.nodup_cons] at nd
  rw [List.zip_cons_cons]
  exact pv nd.2 e1 e2 k
theorem pZ (Γ : Gl K B p loose mg mb) {name qual : Str} {params : Arguments} {body : List Stmt} {dV kV doc pm cdv ct oc : Value} {an od : Option Addr} {osl : Array (Option Value)} {f : Addr} {ps : List Str} {m : Loc → Mo (Fl × Loc)}
  (ho : K.lookup f = some ⟨oc,od,.func (fnOf name qual params body sg.scope dV kV doc pm an cdv ct),osl⟩) (hcd : codeIn K cdv qual = true) (ok : Dd sg ps)
  (hbind : ∀ (xs : List Value),xs.length = ps.length → bindArgs (fnOf name qual params body sg.scope dV kV doc pm an cdv ct) ⟨xs,[]⟩ = pure (ps.zip xs))
  (hb : cz prog w B b sg body m) : cv prog w B (b + 1) (.ref f) (aP ps.length sg.names.length [] m):=by
 intro A s G M xs as r M' R C rs e Rs h
 unfold aP at e
 split at e
 ·cases e
 rename_i hlen
 have hl:=rs.length
 have X:=C.inK Γ
 have hlp : xs.length = ps.length:=by simp at hlen; exact IQ hl hlen
 have hps : ps.Nodup:=by
  obtain ⟨t,ht⟩:=ok.pre
  have:=ok.nd; rw [← ht] at this
  exact (List.nodup_append.mp this).1
 have keys : (cellsFrom (s.heap.objs.size + 1) sg.scope.names []).map (·.1) = (cellsFrom 0 sg.scope.names []).map (·.1):=cellsFrom_names _ _ _ _ _ rfl
 refine codeAny_call_cells (fd:=fnOf name qual params body sg.scope dV kV doc pm an cdv ct) (body:=body) (binds:=ps.zip xs) (Nat.lt_of_le_of_lt (Nat.le_add_right _ _) R.dp) (X _ _ ho) rfl (Γ.T.nolimit.keeps fun b o e=>(C.base b o e).2) (codeRec_of X hcd) rfl (hbind xs hlp) rfl (fun x hx=>?_) (fun s₁ Y=>?_) ok.co ok.gen ok.kind
 ·have : x.1 ∈ ps:=(List.of_mem_zip hx).1
  rcases ok.loc _ (ok.pre.subset this) with k | ⟨k,k2⟩
  ·exact .inl k
  ·refine .inr ⟨k,?_⟩
   obtain ⟨c,hc⟩:=gC (keys ▸ k2)
   show (List.lookup x.1 (cellsFrom (s.heap.objs.size + 1) sg.scope.names [])).isSome = true
   rw [hc]; rfl
 obtain ⟨h₁,tk,rfl,hk₁⟩:=Y.done
 obtain ⟨⟨fl,locE⟩,ME,eb,e⟩:=aL e
 have hns:=Y.toInCall.ns
 let cs:=cellsFrom (s.heap.objs.size + 1) sg.scope.names []
 let Φ : Frm:=⟨callEnvC (fnOf name qual params body sg.scope dV kV doc pm an cdv ct) s.heap.objs.size f,sg.names,s.heap.objs.size :: cs.map (·.2)⟩
 have hlk : ∀ c,c ∈ cs.map (·.2) → ∃ n,cs.lookup n = some c:=fun c hc=>by
  obtain ⟨q,hq,rfl⟩:=List.mem_map.mp hc
  exact ⟨q.1,lookup_of_mem_nodup (by show ((cellsFrom _ _ _).map (·.1)).Nodup; rw [keys]; exact ok.cnd) hq⟩
 have habove : ∀ a ∈ Φ.own,s.heap.objs.size ≤ a:=fun a ha=>by
  rcases List.mem_cons.mp ha with rfl | ha
  ·exact Nat.le_refl _
  ·obtain ⟨n,hn⟩:=hlk a ha
   exact Nat.le_of_lt (Y.above n a (mem_of_lookup hn))
 have hlive : ∀ a ∈ Φ.own,∃ o,h₁.get? a = some o:=fun a ha=>by
  rcases List.mem_cons.mp ha with rfl | ha
  ·obtain ⟨o,a1,a2,hL,a3⟩:=hns; exact ⟨o,hL⟩
  ·obtain ⟨n,hn⟩:=hlk a ha
   obtain ⟨o,e,_⟩:=Y.cell n a hn
   exact ⟨o,e⟩
 have hLt : s.heap.objs.size < h₁.objs.size:=by
  obtain ⟨o,a1,a2,hL,a3⟩:=hns
  exact Heap.lt_size hL
 have gr : my s.heap G h₁ (G.putAll Φ.own .frame):=by
  refine ⟨fun a k=>?_,List.prefix_refl _,Nat.le_of_lt hLt,fun a=>?_⟩
  ·exact ⟨G.putAll_out _ (fun q=>k (C.freeAt (habove a q))),fun o e=>hk₁ a o e⟩
  ·by_cases q : a ∈ Φ.own
   ·exact .inr (hlive a q)
   ·rw [G.putAll_out _ q]; exact (C.live a).imp id fun ⟨o,e⟩=>⟨o,hk₁ a o e⟩
 have S : St prog w B Φ h₁ (G.putAll Φ.own .frame) (bindL Φ.env.kindOf (ps.zip xs) fun _=>none) (fO sg.names.length (as ++ ([] : List ae).drop (([] : List ae).length - (ps.length - as.length)))) M:=by
  refine ⟨C.grow gr C.len,hns,fun a ha=>⟨G.putAll_in _ ha,hlive a ha⟩,fun x c e=>⟨⟨_,Y.cell x c e⟩,.inl (List.mem_cons_of_mem _ (List.mem_map.mpr ⟨(x,c),mem_of_lookup e,rfl⟩))⟩,C.size,⟨ok.kind,rfl,rfl,ok.nd,fun x hx=>?_,List.mem_cons_self,fun x c e=>Nat.ne_of_gt (Y.above x c (mem_of_lookup e)),fun x y c e1 e2=>name_of_addr Y.apart (mem_of_lookup e1) (mem_of_lookup e2)⟩,fun i x a e1 e2=>?_⟩
  ·rcases ok.loc x hx with k | ⟨k,k2⟩
   ·exact .inl k
   ·exact .inr ⟨k,gC (keys ▸ k2)⟩
  have e3:=mf e2
  simp only [List.drop_nil,List.append_nil] at e3
  have rr : bf h₁ (G.putAll Φ.own .frame) xs as:=rs.mono gr.ext.solid
  obtain ⟨v,hv,q⟩:=rr.get e3
  refine ⟨v,?_,q⟩
  have hip : i < ps.length:=hlp ▸ (List.getElem?_eq_some_iff.mp hv).1
  have e4 : ps[i]? = some x:=by
   obtain ⟨t,ht⟩:=ok.pre
   have e1' : sg.names[i]? = some x:=e1
   rw [← ht,List.getElem?_append_left hip] at e1'
   exact e1'
  rcases ok.loc x (List.mem_of_getElem? e1) with k | ⟨k,k2⟩
  ·exact .inl ⟨k,pB hps e4 hv k⟩
  ·obtain ⟨c,hc⟩:=gC (keys ▸ k2)
   refine .inr ⟨c,k,hc,?_⟩
   have:=Y.cell x c hc
   rw [pv hps e4 hv (fun z=>by have z' : sg.scope.names.lookup x = some .local:=z; rw [k] at z'; cases z')] at this
   exact this
 refine hb (A.deeper Φ.env) Φ { s with heap:=h₁,toks:=tk } _ _ _ M fl locE ME ⟨R.hd,by have:=R.dp; show A.depth + 1 + b < _; exact FE this,by have:=R.un; show A.units + 3 + 8 * b < _; exact ER this⟩ ⟨⟨rfl,rfl⟩,fun x c e=>List.mem_cons_of_mem _ (List.mem_map.mpr ⟨(x,c),mem_of_lookup e,rfl⟩)⟩ S eb _ _ fun h' tk' G' mm' x S' X' r'=>?_
 have XX:=gr.ext.trans X'
 cases r' with
 | ret q=>cases e; exact h h' tk' G' _ S'.core XX q
 | next=>cases e; exact h h' tk' G' _ S'.core XX .none
 | brk=>cases e; exact h h' tk' G' _ S'.core XX .none
noncomputable def gF (C : Addr) (F : List ae → Mo ae) (as : List ae) : Mo ae:=fun M=>match F (.mref M.length :: as) (M ++ [.inst C []]) with
 | some (.none,M')=>some (.mref M.length,M')
 | _=>none
theorem lk (A : Around) (C : Addr) (rest : List Value) (kw : List (Str × Value)) : (A.under (.builtin "type.__call__" ⟨.ref C :: rest,kw⟩)).depth = A.depth + 1:=by
 first | rfl | simp [Around.under,Code.weight,Code.frames,Code.isFrame,Code.isCreation,Code.isGuard,Code.isCaller,guardIds]
theorem lC (A : Around) (C : Addr) (rest : List Value) (kw : List (Str × Value)) : (A.under (.builtin "type.__call__" ⟨.ref C :: rest,kw⟩)).units = A.units + 1:=by
 first | rfl | simp [Around.under,Code.cUnits,Code.frames,Code.isFrame]
theorem pk (Γ : Gl K B p loose mg mb) {C f : Addr} {F : List ae → Mo ae} (hm : makesIn K C = true) (hi : findIn K (.ref C) "__init__" = some (some (.ref f))) (hf : typeIn K (.ref f) = some (.type "function"))
  (hc : cv prog w B b (.ref f) F) : cv prog w B (b + 1) (.ref C) (gF C F):=by
 intro A s G M xs as r M' R Co rs e Rs h
 have X:=Co.inK Γ
 unfold gF at e
 split at e
 ·rename_i e1
  cases e
  obtain ⟨hh,g,d,t,os⟩:=s
  refine make_core (makes_of X hm) (looks_findIn X hi) (fun self=>bind_fn X self hf) (.inl rfl) ?_
  let G1 : Gh:={ tag:=((G.put hh.objs.size (.mut G.ρ.length)).put (hh.objs.size + 1) (.mut G.ρ.length)).tag,ρ:=G.ρ ++ [hh.objs.size + 1] }
  have s1 : (hh.push emptyDict).objs.size = hh.objs.size + 1:=Heap.size_push ..
  have gr : my hh G ((hh.push emptyDict).push (instObj C hh.objs.size)) G1:=by
   refine ⟨fun a k=>?_,List.prefix_append _ _,by rw [Heap.size_push,s1]; exact G7,fun a=>?_⟩
   ·have n1 : a ≠ hh.objs.size:=fun q=>k (q ▸ Co.free)
    have n2 : a ≠ hh.objs.size + 1:=fun q=>k (Co.freeAt (by rw [q]; exact Nat.le_succ _))
    exact ⟨by show ((G.put _ _).put _ _).tag a = _; rw [Gh.put_ne _ _ n2,Gh.put_ne _ _ n1],fun o e=>Heap.get?_push_of_some _ (Heap.get?_push_of_some _ e)⟩
   ·by_cases q2 : a = hh.objs.size + 1
    ·subst q2; exact .inr ⟨_,by rw [← s1]; exact Heap.get?_push_size _ rfl⟩
    ·by_cases q1 : a = hh.objs.size
     ·subst q1; exact .inr ⟨_,Heap.get?_push_of_some _ (Heap.get?_push_size _ rfl)⟩
     ·show ((G.put _ _).put _ _).tag a = _ ∨ _
      rw [Gh.put_ne _ _ q2,Gh.put_ne _ _ q1]
      exact (Co.live a).imp id fun ⟨o,e⟩=>⟨o,Heap.get?_push_of_some _ (Heap.get?_push_of_some _ e)⟩
  have hr : G1.ρ[M.length]? = some (hh.objs.size + 1):=by
   show (G.ρ ++ [_])[M.length]? = _
   rw [← Co.len]; simp
  have C1 : bI prog w B ((hh.push emptyDict).push (instObj C hh.objs.size)) G1 (M ++ [.inst C []]):=by
   refine Co.growM gr (by show (G.ρ ++ [_]).length = _; rw [List.length_append,Co.len]; rfl) ⟨hh.objs.size + 1,hh.objs.size,[],0,hr,?_,?_,?_,?_,.nil⟩
   ·show ((G.put _ _).put _ _).tag _ = _; rw [Gh.put_same,Co.len]
   ·show ((G.put _ _).put _ _).tag _ = _; rw [Gh.put_ne _ _ (Nat.ne_of_lt (Nat.lt_succ_self _)),Gh.put_same,Co.len]
   ·rw [← s1]; exact Heap.get?_push_size _ rfl
   ·exact Heap.get?_push_of_some _ (Heap.get?_push_size _ rfl)
  refine hc (A.under _) ⟨_,g,d,t,os⟩ G1 _ _ _ _ _ ⟨R.hd,?_,?_⟩ C1 (.cons (.mref hr) (rs.mono gr.ext.solid)) e1 _ fun h' tk' G' x C' X' r'=>?_
  ·rw [lk]; exact Nat.lt_of_le_of_lt (Nat.le_of_eq (Nat.succ_add _ _)) R.dp
  ·rw [lC]; exact Nat.lt_of_le_of_lt (Nat.le_trans (Nat.le_of_eq (Nat.add_right_comm _ _ _)) (Nat.add_le_add_left (show 1 ≤ 8 by decide) _)) R.un
  ·cases r'
   exact ⟨rfl,h h' tk' G' _ C' (gr.ext.trans X') (.mref (eC X'.ρ hr))⟩
 ·cases e
end
end Mine
end
section
namespace Mine
section
variable {prog : Program} {w : World} {B : Heap} {b : Nat} {sg : Sg}
theorem bI.same {A : Around} {t : Sem Value} {s : Shared} {G : Gh} {M : List ah} {r : ae} (C : bI prog w B s.heap G M) {v : Value} {tk : Nat}
  (k : ∀ (Q E : Value → Shared → Prop),Q v { s with toks:=tk } → wpAny (model prog w) A t Q E s) (hv : bO s.heap G v r) : gG prog w B A t s G r M:=by
 intro Q E h
 exact k Q E (h s.heap tk G v C (Ext.refl _ _) hv)
noncomputable def i2i (f : Int → Int → Int) (ok : Int → Int → Bool) : ae → ae → Mo ae
 | .int a,.int c=>if ok a c then ret (.int (f a c)) else dK
 | _,_=>dK
noncomputable def i2b (f : Int → Int → Bool) : ae → ae → Mo ae
 | .int a,.int c=>ret (.bool (f a c))
 | _,_=>dK
theorem gZ {α : Type} {a r : α} {M M' : List ah} (e : ret a M = some (r,M')) : r = a ∧ M' = M:=by cases e; exact ⟨rfl,rfl⟩
theorem iT {t : Value → Value → Sem Value} {f : Int → Int → Int} {ok : Int → Int → Bool}
  (k : ∀ (A : Around) (s : Shared) (a c : Int) (u v : Tok) (Q E : Value → Shared → Prop),ok a c = true → Q (.int (f a c) s.toks) { s with toks:=s.toks + 1 } → wpAny (model prog w) A (t (.int a u) (.int c v)) Q E s) : cH prog w B b t (i2i f ok):=by
 intro A s G M x y a c r M' R C hx hy e
 unfold i2i at e
 split at e
 ·cases hx; cases hy
  split at e
  ·rename_i hok
   obtain ⟨rfl,rfl⟩:=gZ e
   exact C.same (fun Q E h=>k A s _ _ _ _ Q E hok h) (.int ..)
  ·cases e
 ·cases e
theorem AA {t : Value → Value → Sem Value} {f : Int → Int → Bool}
  (k : ∀ (A : Around) (s : Shared) (a c : Int) (u v : Tok) (Q E : Value → Shared → Prop),Q (.bool (f a c)) s → wpAny (model prog w) A (t (.int a u) (.int c v)) Q E s) : cH prog w B b t (i2b f):=by
 intro A s G M x y a c r M' R C hx hy e
 unfold i2b at e
 split at e
 ·cases hx; cases hy
  obtain ⟨rfl,rfl⟩:=gZ e
  exact C.same (tk:=s.toks) (fun Q E h=>k A s _ _ _ _ Q E h) (.bool ..)
 ·cases e
noncomputable def rj : Int → Int → Bool:=fun _ _=>true
noncomputable def fit (c : Int) : Bool:=decide (c.natAbs < 1073741824)
noncomputable def eH:=i2i (· + ·) rj
theorem fM : cH prog w B b (binaryOp .Add) eH:=iT fun A s a c u v Q E _ h=>P.add_int h
theorem zR : cH prog w B b (inplaceOp .Add) eH:=iT fun A s a c u v Q E _ h=>P.iadd_int h
noncomputable def k0:=i2i (· - ·) rj
theorem yK : cH prog w B b (binaryOp .Sub) k0:=iT fun A s a c u v Q E _ h=>P.sub_int h
theorem Dk : cH prog w B b (inplaceOp .Sub) k0:=iT fun A s a c u v Q E _ h=>P.isub_int h
noncomputable def lh:=i2i (· * ·) fun a _=>fit a
theorem Ad : cH prog w B b (binaryOp .Mult) lh:=iT fun A s a c u v Q E hok h=>P.mul_int h (IntMulOk.of_left (PyProof.Rows.intBits_le (Nat.lt_trans (of_decide_eq_true hok) (by decide))))
noncomputable def qM:=i2i Int.fdiv fun _ c=>decide (c ≠ 0) && fit c
theorem CB : cH prog w B b (binaryOp .FloorDiv) qM:=iT fun A s a c u v Q E hok h=>by
 rw [Bool.and_eq_true] at hok
 exact PyProof.Rows.floordiv_int (of_decide_eq_true hok.1) h (.inl (PyProof.noPylong_small (of_decide_eq_true hok.2)))
noncomputable def rP:=i2i Int.fmod fun _ c=>decide (c ≠ 0)
theorem CZ : cH prog w B b (binaryOp .Mod) rP:=iT fun A s a c u v Q E hok h=>PyProof.Rows.mod_int' (of_decide_eq_true hok) h
noncomputable def mB:=i2i Builtin.bitAnd rj
theorem yF : cH prog w B b (binaryOp .BitAnd) mB:=iT fun A s a c u v Q E _ h=>PyProof.Rows.and_int h
noncomputable def oOr:=i2i Builtin.bitOr rj
theorem GM : cH prog w B b (binaryOp .BitOr) oOr:=iT fun A s a c u v Q E _ h=>PyProof.Rows.or_int h
noncomputable def Cu:=i2i (fun a n=>a * 2 ^ n.toNat) fun a n=>decide (0 ≤ n) && decide (n ≤ 1000000) && fit a
theorem Ey : cH prog w B b (binaryOp .LShift) Cu:=iT fun A s a c u v Q E hok h=>by
 rw [Bool.and_eq_true,Bool.and_eq_true] at hok
 have h3:=of_decide_eq_true hok.2
 exact PyProof.Rows.lshift_int_small (of_decide_eq_true hok.1.1) (of_decide_eq_true hok.1.2) (Nat.lt_trans h3 (by decide)) h
noncomputable def Bp:=i2i (fun a n=>a.fdiv (2 ^ n.toNat)) fun _ n=>decide (0 ≤ n)
theorem FK : cH prog w B b (binaryOp .RShift) Bp:=iT fun A s a c u v Q E hok h=>PyProof.Rows.rshift_int (of_decide_eq_true hok) h
noncomputable def oLt:=i2b fun a c=>decide (a < c)
theorem D5 : cH prog w B b (compareOp .Lt) oLt:=AA fun A s a c u v Q E h=>P.lt_int h
noncomputable def oGt:=i2b fun a c=>decide (a > c)
theorem D6 : cH prog w B b (compareOp .Gt) oGt:=AA fun A s a c u v Q E h=>P.gt_int h
noncomputable def oGe:=i2b fun a c=>decide (a ≥ c)
theorem Dy : cH prog w B b (compareOp .GtE) oGe:=AA fun A s a c u v Q E h=>P.ge_int h
noncomputable def xR : ae → Mo ae
 | .int a=>ret (.int (-a))
 | _=>dK
theorem wh : pa prog w B b (unaryOp .USub) xR:=by
 intro A s G M x a r M' R C hx e
 unfold xR at e
 split at e
 ·cases hx
  obtain ⟨rfl,rfl⟩:=gZ e
  exact C.same (fun Q E h=>P.neg_int h) (.int ..)
 ·cases e
noncomputable def eA : ae → Bool
 | .none=>true
 | _=>false
theorem bO.beq_none {h : Heap} {G : Gh} {x : Value} {a : ae} (r : bO h G x a) : (x == Value.none) = eA a:=by
 cases r <;> rfl
noncomputable def oIs : ae → ae → Mo ae
 | a,.none=>ret (.bool (eA a))
 | _,_=>dK
noncomputable def iL : ae → ae → Mo ae
 | a,.none=>ret (.bool (!eA a))
 | _,_=>dK
theorem mZ : cH prog w B b (compareOp .IsNot) iL:=by
 intro A s G M x y a c r M' R C hx hy e
 unfold iL at e
 split at e
 ·cases hy
  obtain ⟨rfl,rfl⟩:=gZ e
  exact C.same (tk:=s.toks) (fun Q E h=>isNot_none (by rw [hx.beq_none]; exact h)) (.bool ..)
 ·cases e
end
end Mine
end
section
namespace Mine
section
variable {prog : Program} {w : World} {B : Heap} {b : Nat} {sg : Sg}
noncomputable def cA (a : ae) (M : List ah) : Option (List ae):=match a with
 | .lst vs=>some vs
 | .mref i=>(match M[i]? with
  | some (.lst vs)=>some vs
  | _=>none)
 | _=>none
theorem fP {h : Heap} {G : Gh} {M : List ah} {v : Value} {a : ae} {vs : List ae} (c : bI prog w B h G M) (r : bO h G v a) (e : cA a M = some vs) :
  ∃ x items,v = .ref x ∧ h.IsList x (List.toArray items) ∧ bf h G items vs:=by
 cases r with
 | @mref i ad r=>
  unfold cA at e
  dsimp only at e
  split at e
  ·rename_i hm
   cases e
   obtain ⟨x,items,n,r',t,o,q⟩:=c.muts i _ hm
   rw [r] at r'; cases r'
   exact ⟨_,items,rfl,⟨_,o,rfl,n,rfl⟩,q⟩
  ·cases e
 | @lst ad items vs' k p rs=>cases e; exact ⟨_,items,rfl,p,rs⟩
 | _=>cases e
noncomputable def bV (n : Nat) : Bool:=decide (n ≤ 1000000)
theorem b7 {n : Nat} (h : bV n = true) : n ≤ sizeLine:=by rw [sizeLine_eq]; exact Nat.le_trans (of_decide_eq_true h) (by decide)
noncomputable def rO (vs : List ae) : Mo ae:=fun M=>some (.mref M.length,M ++ [.lst vs])
theorem dS {vs : List ae} {M M' : List ah} {r : ae} (e : rO vs M = some (r,M')) : r = .mref M.length ∧ M' = M ++ [.lst vs]:=by cases e; exact ⟨rfl,rfl⟩
theorem bI.newList_val {h : Heap} {G : Gh} {M : List ah} (c : bI prog w B h G M) : bO (h.push o) (G.add h.objs.size) (.ref h.objs.size) (.mref M.length):=.mref (by rw [← c.len]; exact G.add_ρ _)
noncomputable def ff : List ae → Mo ae
 | [a]=>fun M=>match cA a M with
  | some vs=>if bV vs.length then some (.int vs.length,M) else none
  | none=>none
 | _=>dK
theorem gV : ij prog w B b (.builtin "len") ff:=by
 intro A s G M xs as r M' R C rs e
 unfold ff at e
 split at e
 ·cases rs with
  | cons r1 r2=>
   cases r2
   split at e
   ·rename_i hv
    split at e
    ·rename_i hs
     cases e
     obtain ⟨x,items,rfl,hl,q⟩:=fP C r1 hv
     have e1:=(List.size_toArray (as:=items)).trans q.length
     intro Q E h
     refine call_len_list hl ?_ ?_
     ·rw [e1]; exact Int.lt_of_le_of_lt (Int.ofNat_le.mpr (of_decide_eq_true hs)) (by decide)
     ·rw [e1]; exact h s.heap _ G _ C (Ext.refl _ _) (.int ..)
    ·cases e
   ·cases e
 ·cases e
theorem iU {items : List Value} {i : Nat} {x : Value} (e : items[i]? = some x) : (List.toArray items)[i]? = some x:=by simpa using e
noncomputable def pb (k : Int) (n : Nat) : Option Nat:=if 0 ≤ k then some k.toNat else if -(n : Int) ≤ k then some (k + n).toNat else none
noncomputable def aV (a k : ae) : Mo ae:=fun M=>match a,k with
 | .str x,.int i=>(match (seqIndex? i x.length).bind (x.cps[·]?) with
  | some c=>if decide (-1000000 ≤ i) && decide (i ≤ 1000000) then some (.str ⟨#[c]⟩,M) else none
  | none=>none)
 | .mref j,.int i=>(match M[j]? with
  | some (.lst vs)=>if decide (-1000000 ≤ i) && decide (i ≤ 1000000) then (match (pb i vs.length).bind (vs[·]?) with
   | some v=>some (v,M)
   | none=>none) else none
  | some (.idict kvs)=>(match kvs.lookup i with
   | some v=>some (v,M)
   | none=>none)
  | _=>none)
 | .mref j,.str x=>(match M[j]? with
  | some (.sdict kvs)=>(match kvs.lookup x with
   | some v=>some (v,M)
   | none=>none)
  | _=>none)
 | .lst vs,.int i=>if decide (-1000000 ≤ i) && decide (i ≤ 1000000) then (match (pb i vs.length).bind (vs[·]?) with
   | some v=>some (v,M)
   | none=>none) else none
 | _,_=>none
theorem pA {A : Around} {s : Shared} {G : Gh} {x : Addr} {items : List Value} {vs : List ae} {i : Int} {u : Tok} {v : ae} (hl : s.heap.IsList x (List.toArray items)) (q : bf s.heap G items vs)
  (hb : (decide (-1000000 ≤ i) && decide (i ≤ 1000000)) = true) (e : (pb i vs.length).bind (vs[·]?) = some v) : ∃ y,bO s.heap G y v ∧ ∀ (Q E : Value → Shared → Prop),Q y s → wpAny (model prog w) A (getItem (.ref x) (.int i u)) Q E s:=by
 rw [Bool.and_eq_true] at hb
 have h1:=of_decide_eq_true hb.1
 have h2:=of_decide_eq_true hb.2
 rw [Option.bind_eq_some_iff] at e
 obtain ⟨n,e1,e2⟩:=e
 obtain ⟨y,hy,r⟩:=q.get e2
 have hlen:=q.length
 unfold pb at e1
 split at e1
 ·cases e1
  exact ⟨y,r,fun Q E h=>wpAny_getItem_list hl (by assumption) (Int.lt_of_le_of_lt h2 (by decide)) (iU hy) h⟩
 ·split at e1
  ·cases e1
   have e3 : (List.toArray items).size = vs.length:=by simp [hlen]
   exact ⟨y,r,fun Q E h=>wpAny_getItem_list_neg hl (Ku h1 h2 (by assumption)) (by rw [e3]; assumption) (Int.le_trans (by decide) h1) (by rw [e3]; exact iU hy) h⟩
  ·cases e1
theorem fc {K : Type} [DecidableEq K] {h : Heap} {G : Gh} {ps : List (K × Value)} {kvs : List (K × ae)} (r : dT h G ps kvs) (k : K) :
  (∀ a,kvs.lookup k = some a → ∃ v,valueAt ps k = some v ∧ bO h G v a) ∧ (kvs.lookup k = none → valueAt ps k = none):=by
 induction r with
 | nil=>exact ⟨fun a e=>(nomatch e),fun _=>rfl⟩
 | @cons k' v a vs as r rs ih=>
  by_cases hk : k' = k
  ·subst hk
   have e1 : valueAt ((k',v) :: vs) k' = some v:=by simp [valueAt]
   refine ⟨fun b e=>?_,fun e=>?_⟩
   ·rw [List.lookup_cons_self] at e; cases e; exact ⟨v,e1,r⟩
   ·rw [List.lookup_cons_self] at e; cases e
  ·have e1 : valueAt ((k',v) :: vs) k = valueAt vs k:=by simp [valueAt,hk]
   have e2 : ((k',a) :: as).lookup k = as.lookup k:=by
    have : (k == k') = false:=by simpa using fun e=>hk e.symm
    rw [List.lookup_cons,this]
   rw [e1,e2]
   exact ih
theorem uB : cH prog w B b getItem aV:=by
 intro A s G M x y a k r M' R C hx hy e
 unfold aV at e
 split at e
 ·split at e
  ·rename_i hc
   split at e
   ·rename_i hb
    cases e
    cases hx; cases hy
    rw [Bool.and_eq_true] at hb
    have h1:=of_decide_eq_true hb.1
    have h2:=of_decide_eq_true hb.2
    refine C.same (fun Q E h=>P.getItem_str ?_ hc h) (.str ..)
    simp only [Bool.or_eq_false_iff,decide_eq_false_iff_not]
    exact ⟨Int.not_lt.mpr (Int.le_trans (by decide) h1),Int.not_le.mpr (Int.lt_of_le_of_lt h2 (by decide))⟩
   ·cases e
  ·cases e
 ·split at e
  ·rename_i hm
   split at e
   ·rename_i hb
    split at e
    ·rename_i hv
     cases e
     obtain ⟨ad,items,rfl,hl,q⟩:=fP C hx (by unfold cA; dsimp only; rw [hm])
     cases hy
     obtain ⟨z,rz,k⟩:=pA (A:=A) (prog:=prog) (w:=w) hl q hb hv
     exact C.same (tk:=s.toks) k rz
    ·cases e
   ·cases e
  ·rename_i hm
   split at e
   ·rename_i hv
    cases e
    cases hx with
    | @mref _ ad r=>
     obtain ⟨ad',ps,r',t,hd,q⟩:=C.muts j _ hm
     rw [r] at r'; cases r'
     obtain ⟨z,hz,rz⟩:=(fc q i).1 _ hv
     cases hy
     exact C.same (fun Q E h=>wpAny_getItem_of (intKind_is prog w i _) hd.mapOf hz h) rz
   ·cases e
  ·cases e
 ·split at e
  ·rename_i hm
   split at e
   ·rename_i hv
    cases e
    cases hx with
    | @mref _ ad r=>
     obtain ⟨ad',ps,r',t,hd,q⟩:=C.muts j _ hm
     rw [r] at r'; cases r'
     obtain ⟨z,hz,rz⟩:=(fc q x_1).1 _ hv
     cases hy
     exact C.same (fun Q E h=>wpAny_getItem_of (strKind_is prog w x_1 _) hd.mapOf hz h) rz
   ·cases e
  ·cases e
 ·split at e
  ·rename_i hb
   split at e
   ·rename_i hv
    cases e
    cases hx with
    | lst kk hl q=>
     cases hy
     obtain ⟨z,rz,k⟩:=pA (A:=A) (prog:=prog) (w:=w) hl q hb hv
     exact C.same (tk:=s.toks) k rz
   ·cases e
  ·cases e
 ·cases e
theorem gI {A : Around} {s : Shared} {E : Value → Shared → Prop} {value slice : Expr} {o i : Value} {ops : List Value} {T id : String} {Q : Value → Shared → Prop} (hT : s.TypeIs o T)
  (hl : typeLookup (.type T) "__getitem__" = pure (some (.builtin id))) (h : wpAny (model prog w) A (getItem o i) Q E s)
  (hs : subscripted slice false o i = operate ops (getItem o i)) :
  wpAny (model prog w) A (subscriptTail value slice o i) Q E s:=by
 unfold subscriptTail
 refine wpAny_bind ?_
 rw [getitemInPython_of_ne hT.not_modules]
 refine wpAny_bind (wpAny_specialOf hT hl ?_)
 have fin : wpAny (model prog w) A (subscripted slice false o i) (fun r s₃=>wpAny (model prog w) A (letTemporaryGo value o r >>= fun _=>pure r) Q E s₃) E s:=by
  rw [hs]
  exact wpAny_operating (wpAny_mono h (fun r s₃ h₃=>wpAny_bind (wpAny_letTemporaryGo (wpAny_pure h₃))) fun _ _ x=>x)
 first
  | exact wpAny_pure (wpAny_bind fin)
  | exact wpAny_bind (wpAny_pure (wpAny_bind fin))
  | exact wpAny_bind fin
theorem aI {el er : Expr} (hs : ∀ o i,subscripted er false o i = operate [o,i] (getItem o i):=by intro _ _; rfl) : cH prog w B b (subscriptTail el er) aV:=by
 intro A s G M x y a k r M' R C hx hy e Q E h
 have hg:=uB A s G M x y a k r M' R C hx hy e Q E h
 unfold aV at e
 split at e
 ·cases hx
  exact gI (typeIs_str s _ _) PySem.F.slot_str_getitem.lookup hg (hs _ _)
 ·cases hx with
  | @mref _ ad r=>
   split at e
   ·rename_i hm
    obtain ⟨ad',items,n,r',t,o,q⟩:=C.muts j _ hm
    rw [r] at r'; cases r'
    exact gI (T := "list") ⟨_,o,rfl⟩ slot_list_getitem.lookup hg (hs _ _)
   ·rename_i hm
    obtain ⟨ad',ps,r',t,hd,q⟩:=C.muts j _ hm
    rw [r] at r'; cases r'
    exact gI hd.typeIs slot_dict_getitem.lookup hg (hs _ _)
   ·cases e
 ·cases hx with
  | @mref _ ad r=>
   split at e
   ·rename_i hm
    obtain ⟨ad',ps,r',t,hd,q⟩:=C.muts j _ hm
    rw [r] at r'; cases r'
    exact gI hd.typeIs slot_dict_getitem.lookup hg (hs _ _)
   ·cases e
 ·cases hx with
  | lst kk hl q=>exact gI hl.typeIs slot_list_getitem.lookup hg (hs _ _)
 ·cases e
end
end Mine
end
section
namespace Mine
section
variable {prog : Program} {w : World} {B : Heap} {b : Nat} {sg : Sg} {K : Frag} {p : Program} {loose : List Str} {mg mb : Str → Option Value}
noncomputable def cM : List Addr:=[32,60,116,219,240,276]
noncomputable def CO (K : Frag) (C : Addr) (x : Str) : Bool:=plainGet K C x && hasDictIn K C && (match findIn K (.ref C) x with
 | some attr=>noGet K attr
 | none=>false)
noncomputable def Da (K : Frag) (C : Addr) (x : Str) : Bool:=decide (findIn K (.ref C) "__setattr__" = some (some (.builtin "object.__setattr__"))) && plainOver K C && (decide (takerIn K C x = some none)) && (clsIn K C).any (·.hasDict)
noncomputable def cL (K : Frag) (x : Str) : Bool:=cM.all fun C=>CO K C x
noncomputable def bA (K : Frag) (x : Str) : Bool:=cM.all fun C=>Da K C x
noncomputable def GB (v : Value) : Prop:=handedIn v = true
theorem bO.handed {h : Heap} {G : Gh} {x : Value} {a : ae} (r : bO h G x a) : handedIn x = true:=by cases r <;> rfl
noncomputable def aK (x : Str) (a : ae) : Mo ae:=fun M=>match nB a M with
 | some (C,fs)=>if cM.contains C then (match mz x fs with
  | some v=>some (v,M)
  | none=>none) else none
 | none=>none
theorem wX {C : Addr} (h : cM.contains C = true) : C ∈ cM:=by simpa using h
theorem aQ (Γ : Gl K B p loose mg mb) {x : Str} (hx : cL K x = true) : pa prog w B b (fun v=>getAttr v x true) (aK x):=by
 intro A s G M y a r M' R C hy e
 unfold aK at e
 split at e
 ·rename_i hD
  split at e
  ·rename_i hown
   split at e
   ·rename_i hv
    cases e
    obtain ⟨xa,dx,es,n,rfl,o1,o2,q⟩:=wE C hy hD
    obtain ⟨z,hz,rz⟩:=(mJ (x:=x) q).1 _ hv
    have ok:=List.all_eq_true.mp hx _ (wX hown)
    unfold CO at ok
    rw [Bool.and_eq_true,Bool.and_eq_true] at ok
    obtain ⟨⟨k1,k2⟩,k3⟩:=ok
    split at k3
    ·rename_i hattr
     exact C.same (fun Q E h=>get_value (C.inK Γ) ⟨o1,rfl,rfl,o2⟩ (plainGet_of k1).1 (findObj_own (od:=dictOf es n) k2 hattr k3 hz) rz.handed h) rz
    ·cases k3
   ·cases e
  ·cases e
 ·cases e
theorem zy {A : Around} {s : Shared} {R : Result → Shared → Prop} {x dx C : Addr} {ox od : Obj} {name : Str} {tk : Tok} {v : Value} {es : List DictEntry} {n : Nat} (X : K.In s.heap) (I : InstAt s.heap x ox C (some od)) (hd : ox.dict = some dx) (hp : plainOver K C = true) (ht : takerIn K C name = some none) (hh : (clsIn K C).any (·.hasDict) = true)
  (hl : (lookIn name od).isSome = true) (D : s.heap.get? dx = some od)
  (e' : (Obj.putName name (PyData.keyHash w.params name) (.str name s.toks) v od) = dictOf es n) (hz : es.length ≤ 1000)
  (h : R (.ok (.ret .none)) { s with heap:=s.heap.update dx (Obj.putName name (PyData.keyHash w.params name) (.str name s.toks) v),toks:=s.toks + 1 }) :
  codeAny (model prog w) A (.call (.builtin "object.__setattr__") ⟨[.ref x,.str name tk,v],[]⟩) R s:=by
 refine osa_open X I hp ht fun b=>?_
 obtain ⟨cd,hc,hd'⟩:=any_some hh
 have D' : (s.heap.update dx (Obj.putName name (PyData.keyHash w.params name) (.str name s.toks) v)).get? dx = some (dictOf es n):=e' ▸ Heap.get?_update_self _ D (e' ▸ rfl)
 obtain ⟨hx,hcl,hn,-⟩:=I
 obtain ⟨oc,odi,oda,osl⟩:=ox
 dsimp only at hcl hd
 subst hcl hd
 refine wpAny_bind (wpAny_pure (wpAny_bind (wpAny_bind (wpAny_loadPart hx (wpAny_bind ((looks_clsIn X hc).here ?_))))))
 rw [hd']
 refine wpAny_pure (a:=some dx) (wpAny_bind (wpAny_pure (wpAny_bind ?_)))
 unfold nsSet
 refine wpAny_bind (wpAny_bind (wpAny_askSetting (wpAny_pure (wpAny_bind (wpAny_mkText (wpAny_bind (wpAny_loadPart D ?_)))))))
 unfold lookIn at hl
 split at hl
 ·rename_i q
  rw [q]
  dsimp only
  have c : (!es_1.any (·.key.isStr name) && es_1.any (·.refKey)) = false:=by
   rw [← Array.any_toList,← Array.any_toList]
   split at hl
   ·rename_i he
    rw [List.any_eq_true.mpr ⟨e,List.mem_of_find?_eq_some he,List.find?_some he⟩]; rfl
   ·split at hl
    ·cases hl
    ·rename_i z; rw [Bool.not_eq_true] at z; rw [z,Bool.and_false]
  rw [aRefKeyMayBeTheName_at,c]
  refine wpAny_updatePart D ?_
  refine wpAny_bind (wpAny_lookBehind D' (pastItsLine_dict (by rw [List.size_toArray,sizeLine_eq]; exact JK hz)) ?_)
  exact wpAny_pure h
 ·cases hl
noncomputable def jv (x : Str) (v : ae) : List (Str × ae) → List (Str × ae)
 | []=>[(x,v)]
 | (k,a) :: r=>if k == x then (k,v) :: r else (k,a) :: jv x v r
theorem lP (x : Str) (v : ae) : ∀ fs,(jv x v fs).length ≤ fs.length + 1
 | []=>Nat.le_refl _
 | (k,a) :: r=>by
  unfold jv
  split
  ·simp
  ·simp; exact lP x v r
theorem dq.length {h : Heap} {G : Gh} : ∀ {es : List DictEntry} {fs : List (Str × ae)},dq h G es fs → es.length = fs.length
 | _,_,.nil=>rfl
 | _,_,.cons _ rs=>by simp [rs.length]
theorem dq.put {h : Heap} {G : Gh} {x : Str} {hsh : Int} {t : Tok} {v : Value} {a : ae} (r : bO h G v a) : ∀ {es : List DictEntry} {fs : List (Str × ae)},dq h G es fs → dq h G (putL x hsh (.str x t) v es) (jv x a fs)
 | _,_,.nil=>.cons r .nil
 | _,_,.cons (hs:=hs) (k:=k) (t:=u) (v:=v') (a:=a') (es:=es) (fs:=fs) q rs=>by
  unfold putL jv
  by_cases hk : (k == x) = true
  ·have e1 : (⟨hs,.str k u,v'⟩ : DictEntry).key.isStr x = true:=hk
   rw [if_pos e1,if_pos hk]
   exact .cons r rs
  ·have hk' : ¬ (⟨hs,.str k u,v'⟩ : DictEntry).key.isStr x = true:=hk
   rw [if_neg hk',if_neg hk]
   exact .cons q (rs.put r)
theorem dq.getL_isSome {h : Heap} {G : Gh} {x : Str} {es : List DictEntry} {fs : List (Str × ae)} (r : dq h G es fs) : (getL x es).isSome = true:=by
 cases hf : mz x fs with
 | none=>rw [(mJ r).2 hf]; rfl
 | some a=>obtain ⟨v,e,_⟩:=(mJ r).1 a hf; rw [e]; rfl
noncomputable def bS (x : Str) (a v : ae) : Mo Unit:=fun M=>match a with
 | .mref i=>(match M[i]? with
  | some (.inst C fs)=>if cM.contains C && decide (fs.length ≤ 900) then some ((),M.set i (.inst C (jv x v fs))) else none
  | _=>none)
 | _=>none
theorem bm (Γ : Gl K B p loose mg mb) {x : Str} (hx : bA K x = true) : zn prog w B b (fun ov v=>setAttr ov x v) (bS x):=by
 intro A s G M y z a c M' R C hy hz e Q E h
 unfold bS at e
 split at e
 ·split at e
  ·rename_i hm
   split at e
   ·rename_i hown
    cases e
    rw [Bool.and_eq_true] at hown
    have hlen:=of_decide_eq_true hown.2
    cases hy with
    | @mref _ ad r=>
     obtain ⟨xa,dx,es,n,r',t1,t2,o1,o2,q⟩:=C.muts i _ hm
     rw [r] at r'; cases r'
     have ok:=List.all_eq_true.mp hx _ (wX hown.1)
     unfold Da at ok
     rw [Bool.and_eq_true,Bool.and_eq_true,Bool.and_eq_true] at ok
     obtain ⟨⟨⟨k1,k2⟩,k3⟩,k4⟩:=ok
     have I : InstAt s.heap ad (instObj _ dx) _ (some (dictOf es n)):=⟨o1,rfl,rfl,o2⟩
     refine set_plain (C.inK Γ) I (of_decide_eq_true k1) ?_
     have hl:=q.length
     have e':=putName_dict x (PyData.keyHash w.params x) (.str x (s.toks + 1)) z es n
     refine zy (s:={ s with toks:=s.toks + 1 }) (C.inK Γ) I rfl k2 (of_decide_eq_true k3) k4 q.getL_isSome o2 e' ?_ ?_
     ·exact Nat.le_trans (Nat.le_trans (Nat.le_of_eq (dq.put (hsh:=PyData.keyHash w.params x) (t:=s.toks + 1) (x:=x) hz q).length) (lP x _ _)) (Nat.le_trans (Nat.succ_le_succ hlen) (by decide))
     ·have SB : Heap.SameBut dx s.heap (s.heap.update dx (Obj.putName x (PyData.keyHash w.params x) (.str x (s.toks + 1)) z)):=Heap.SameBut.update ..
      have og:=Heap.get?_update_self (Obj.putName x (PyData.keyHash w.params x) (.str x (s.toks + 1)) z) o2 (by rw [e']; rfl)
      rw [e'] at og
      have ne : ad ≠ dx:=fun e=>by rw [e,o2] at o1; cases o1
      have sol:=gj t2 SB
      refine h _ _ G (C.turn t2 SB ⟨_,og⟩ ⟨ad,dx,_,_,r,t1,t2,?_,og,(q.mono sol).put (hz.mono sol)⟩) (fH t2 SB)
      exact (SB.2 ad ne).trans o1
   ·cases e
  ·cases e
 ·cases e
noncomputable def jE {K : Type} [DecidableEq K] (kvs : List (K × ae)) (k : K) (v : ae) : List (K × ae):=
 if kvs.any (fun kv=>kv.1 = k) then kvs.map (fun kv=>if kv.1 = k then (kv.1,v) else kv) else kvs ++ [(k,v)]
theorem dT.stored {K : Type} [DecidableEq K] {h : Heap} {G : Gh} {k : K} {v : Value} {a : ae} (r : bO h G v a) {ps : List (K × Value)} {kvs : List (K × ae)} (rs : dT h G ps kvs) : dT h G (PySem.stored ps k v) (jE kvs k a):=by
 have e1 : ps.any (fun kv=>kv.1 = k) = kvs.any (fun kv=>kv.1 = k):=by
  induction rs with
  | nil=>rfl
  | cons q rs ih=>simp only [List.any_cons,ih]
 unfold PySem.stored jE
 rw [e1]
 split
 ·clear e1
  rename_i hany
  clear hany
  induction rs with
  | nil=>exact .nil
  | @cons k' v' a' vs as q rs ih=>
   rw [List.map_cons,List.map_cons]
   by_cases hk : k' = k
   ·rw [if_pos hk,if_pos hk]; exact .cons r ih
   ·rw [if_neg hk,if_neg hk]; exact .cons q ih
 ·clear e1
  rename_i hany
  clear hany
  induction rs with
  | nil=>exact .cons r .nil
  | cons q rs ih=>exact .cons q ih
theorem dT.length {K : Type} {h : Heap} {G : Gh} {ps : List (K × Value)} {kvs : List (K × ae)} (rs : dT h G ps kvs) : ps.length = kvs.length:=by
 induction rs with
 | nil=>rfl
 | cons q rs ih=>simp [ih]
noncomputable def fK (a k v : ae) : Mo Unit:=fun M=>match a,k with
 | .mref i,.int x=>(match M[i]? with
  | some (.idict kvs)=>if bV kvs.length then some ((),M.set i (.idict (jE kvs x v))) else none
  | _=>none)
 | .mref i,.str x=>(match M[i]? with
  | some (.sdict kvs)=>if bV kvs.length then some ((),M.set i (.sdict (jE kvs x v))) else none
  | _=>none)
 | _,_=>none
theorem iQ {K : Type} [DecidableEq K] {knd : PySem.KeyKind prog w K} {h : Heap} {a : Addr} {kvs : List (K × Value)} (d : h.DictOf knd a kvs) : ∃ o,h.get? a = some o:=let ⟨o,es,ep,e,r⟩:=d; ⟨o,e⟩
theorem lE : zg prog w B b setItem fK:=by
 intro A s G M x y z a k v M' R C hx hy hz e Q E h
 unfold fK at e
 split at e
 ·split at e
  ·rename_i hm
   split at e
   ·rename_i hs
    cases e
    cases hx with
    | @mref _ ad r=>
     obtain ⟨ad',ps,r',t,hd,q⟩:=C.muts i _ hm
     rw [r] at r'; cases r'
     cases hy
     refine wpAny_setItem_pairs (intKind_is prog w _ _) hd (fun h' hd' SB=>?_) (by rw [q.length]; exact b7 hs)
     have sol:=gj t SB
     exact h h' _ G (C.turn t SB (iQ hd') ⟨ad,_,r,t,hd',(q.mono sol).stored (hz.mono sol)⟩) (fH t SB)
   ·cases e
  ·cases e
 ·split at e
  ·rename_i hm
   split at e
   ·rename_i hs
    cases e
    cases hx with
    | @mref _ ad r=>
     obtain ⟨ad',ps,r',t,hd,q⟩:=C.muts i _ hm
     rw [r] at r'; cases r'
     cases hy
     refine wpAny_setItem_pairs (strKind_is prog w _ _) hd (fun h' hd' SB=>?_) (by rw [q.length]; exact b7 hs)
     have sol:=gj t SB
     exact h h' _ G (C.turn t SB (iQ hd') ⟨ad,_,r,t,hd',(q.mono sol).stored (hz.mono sol)⟩) (fH t SB)
   ·cases e
  ·cases e
 ·cases e
end
end Mine
end
section
namespace Mine
section
variable {prog : Program} {w : World} {B : Heap} {b : Nat} {sg : Sg}
theorem bI.mlist {h : Heap} {G : Gh} {M : List ah} {x : Value} {i : Nat} {vs : List ae} (C : bI prog w B h G M) (r : bO h G x (.mref i)) (hm : M[i]? = some (.lst vs)) :
  ∃ a items n,x = .ref a ∧ G.ρ[i]? = some a ∧ G.tag a = .mut i ∧ h.get? a = some (listOf (List.toArray items) n) ∧ bf h G items vs:=by
 cases r with
 | @mref _ ad r=>
  obtain ⟨a,items,n,r',t,o,q⟩:=C.muts i _ hm
  rw [r] at r'; cases r'
  exact ⟨_,items,n,rfl,r,t,o,q⟩
theorem bI.turnList {h h' : Heap} {G : Gh} {M : List ah} {i : Nat} {a : Addr} {items : List Value} {vs : List ae} {n : Nat} (C : bI prog w B h G M) (r : G.ρ[i]? = some a) (t : G.tag a = .mut i) (SB : Heap.SameBut a h h') (o : h'.get? a = some (listOf (List.toArray items) n)) (q : bf h G items vs) :
  bI prog w B h' G (M.set i (.lst vs)):=C.turn t SB ⟨_,o⟩ ⟨a,items,n,r,t,o,q.mono (gj t SB)⟩
noncomputable def be : List ae → Mo ae
 | [.mref i,v]=>fun M=>(match M[i]? with
  | some (.lst vs)=>if bV vs.length then some (.none,M.set i (.lst (vs ++ [v]))) else none
  | _=>none)
 | _=>dK
theorem cN : ij prog w B b (.builtin "list.append") be:=by
 intro A s G M xs as r M' R C rs e Q E h
 unfold be at e
 split at e
 ·split at e
  ·rename_i hm
   split at e
   ·rename_i hs
    cases e
    cases rs with
    | cons r1 r2=>
     cases r2 with
     | cons r2 r3=>
      cases r3
      obtain ⟨a,items,n,rfl,ρ,t,o,q⟩:=C.mlist r1 hm
      refine append_at o (fun h' SB o'=>?_) (by rw [List.size_toArray,q.length]; exact b7 hs)
      have o2:=o'
      rw [List.push_toArray] at o2
      exact h h' s.toks G _ (C.turnList ρ t SB o2 (q.append (.cons r2 .nil))) (fH t SB) .none
   ·cases e
  ·cases e
 ·cases e
noncomputable def lq : List ae → Mo ae
 | [.mref i]=>fun M=>(match M[i]? with
  | some (.lst vs)=>if bV vs.length then (match vs.getLast? with
   | some v=>some (v,M.set i (.lst vs.dropLast))
   | none=>none) else none
  | _=>none)
 | _=>dK
theorem bf.take {h : Heap} {G : Gh} {v : List Value} {as : List ae} (n : Nat) (r : bf h G v as) : bf h G (v.take n) (as.take n):=
 bf.ind (P:=fun v a=>∀ n,bf h G (v.take n) (a.take n)) (fun n=>by rw [List.take_nil,List.take_nil]; exact .nil) (fun _ _ _ _ r _ ih n=>by
  cases n with
  | zero=>exact .nil
  | succ n=>exact .cons r (ih n)) r n
theorem bf.drop {h : Heap} {G : Gh} {v : List Value} {as : List ae} (n : Nat) (r : bf h G v as) : bf h G (v.drop n) (as.drop n):=
 bf.ind (P:=fun v a=>∀ n,bf h G (v.drop n) (a.drop n)) (fun n=>by rw [List.drop_nil,List.drop_nil]; exact .nil) (fun _ _ _ _ r rs ih n=>by
  cases n with
  | zero=>exact .cons r rs
  | succ n=>exact ih n) r n
theorem bf.reverse {h : Heap} {G : Gh} {v : List Value} {as : List ae} (r : bf h G v as) : bf h G v.reverse as.reverse:=
 bf.ind (P:=fun v a=>bf h G v.reverse a.reverse) .nil (fun _ _ _ _ r _ ih=>by rw [List.reverse_cons,List.reverse_cons]; exact ih.append (.cons r .nil)) r
theorem ze : ij prog w B b (.builtin "list.pop") lq:=by
 intro A s G M xs as r M' R C rs e Q E h
 unfold lq at e
 split at e
 ·split at e
  ·rename_i hm
   split at e
   ·rename_i hs
    split at e
    ·rename_i hv
     cases e
     cases rs with
     | cons r1 r2=>
      cases r2
      obtain ⟨a,items,n,rfl,ρ,t,o,q⟩:=C.mlist r1 hm
      have hlen:=q.length
      rw [List.getLast?_eq_getElem?] at hv
      obtain ⟨y,hy,ry⟩:=q.get hv
      have hlt:=(List.getElem?_eq_some_iff.mp hy).1
      refine call_meets F.slot_list_pop ⟨_,o,rfl⟩ F.entry_list_pop (F.args_list_pop_1 _) (MeetsSeq.list_pop_last a (List.toArray items) n y (by rw [List.size_toArray,hlen]; exact iU hy) (by rw [List.size_toArray,hlen]; exact b7 hs)) ⟨o,?_⟩
      have SB : Heap.SameBut a s.heap (s.heap.update a (Obj.mapSeq fun xs=>xs.eraseIdxIfInBounds ((List.toArray items).size - 1))):=Heap.SameBut.update ..
      have o2:=get?_update_seq o (fun xs=>xs.eraseIdxIfInBounds ((List.toArray items).size - 1))
      have e3 : (List.toArray items).eraseIdxIfInBounds ((List.toArray items).size - 1) = List.toArray (items.take (vs.length - 1)):=by
       rw [List.size_toArray,hlen]
       rw [Array.eraseIdxIfInBounds,dif_pos (by rw [List.size_toArray]; exact hlt)]
       rw [List.eraseIdx_toArray]
       congr 1
       rw [List.eraseIdx_eq_take_drop_succ,List.drop_of_length_le (IE hlen),List.append_nil]
      rw [e3] at o2
      refine h _ s.toks G y (C.turnList ρ t SB o2 ?_) (fH t SB) (ry.mono (gj t SB))
      rw [List.dropLast_eq_take]
      exact q.take _
    ·cases e
   ·cases e
  ·cases e
 ·cases e
noncomputable def iB : List ae → Mo ae
 | [.mref i]=>fun M=>(match M[i]? with
  | some (.lst vs)=>if bV vs.length then some (.none,M.set i (.lst vs.reverse)) else none
  | _=>none)
 | _=>dK
theorem xy : ij prog w B b (.builtin "list.reverse") iB:=by
 intro A s G M xs as r M' R C rs e Q E h
 unfold iB at e
 split at e
 ·split at e
  ·rename_i hm
   split at e
   ·rename_i hs
    cases e
    cases rs with
    | cons r1 r2=>
     cases r2
     obtain ⟨a,items,n,rfl,ρ,t,o,q⟩:=C.mlist r1 hm
     have hlen:=q.length
     refine call_meets F.slot_list_reverse ⟨_,o,rfl⟩ F.entry_list_reverse (F.args_list_reverse_1 _) (AutoSeq1.list_reverse_list_0 a (List.toArray items) n (by rw [List.size_toArray,hlen]; exact b7 hs)) ⟨o,?_⟩
     have SB : Heap.SameBut a s.heap (s.heap.update a (Obj.mapSeq fun x=>x.reverse)):=Heap.SameBut.update ..
     have o2:=get?_update_seq o (fun xs=>xs.reverse)
     rw [List.reverse_toArray] at o2
     exact h _ s.toks G _ (C.turnList ρ t SB o2 q.reverse) (fH t SB) .none
   ·cases e
  ·cases e
 ·cases e
noncomputable def eY : List ae → Mo ae
 | [.mref i,a]=>fun M=>(match M[i]? with
  | some (.lst vs)=>(match a with
   | .lst us=>if bV (vs.length + us.length) then some (.none,M.set i (.lst (vs ++ us))) else none
   | _=>none)
  | _=>none)
 | _=>dK
theorem nK : ij prog w B b (.builtin "list.extend") eY:=by
 intro A s G M xs as r M' R C rs e Q E h
 unfold eY at e
 split at e
 ·split at e
  ·rename_i hm
   split at e
   ·split at e
    ·rename_i hs
     cases e
     cases rs with
     | cons r1 r2=>
      cases r2 with
      | cons r2 r3=>
       cases r3
       obtain ⟨a,items,n,rfl,ρ,t,o,q⟩:=C.mlist r1 hm
       have hlen:=q.length
       cases r2 with
       | @lst ad it2 _ kk hl q2=>
        have hlen2:=q2.length
        have hsz:=of_decide_eq_true hs
        obtain ⟨⟨oc,od,oda,osl⟩,ho2,hc2,n2,hd2⟩:=hl
        simp only at hc2 hd2
        subst hc2 hd2
        have T1 : s.TypeIs (.ref a) "list" := ⟨_,o,rfl⟩
        refine wpAny_call_entry F.slot_list_extend T1 F.entry_list_extend ?_ (F.args_list_extend_2 _ _)
        show wpAny _ _ (Builtin.List.listExtendWith (.ref a) (.ref ad) .none) _ _ s
        unfold Builtin.List.listExtendWith
        refine wpAny_bind (wpAny_typeOf (T := "list") ⟨_,ho2,rfl⟩ ?_)
        have ht : (Value.type "list" == Value.type "list") = true:=by rfl
        rw [if_pos (by rw [ht]; simp)]
        refine wpAny_bind (listItems_at ho2 rfl ?_)
        refine wpAny_bind (listItems_at o rfl ?_)
        have hno : (!(List.toArray items).isEmpty && Builtin.List.listTooLong ((List.toArray items).size + (List.toArray it2).size)) = false:=by
         have : Builtin.List.listTooLong ((List.toArray items).size + (List.toArray it2).size) = false:=by
          unfold Builtin.List.listTooLong
          rw [sizeLine_eq,List.size_toArray,List.size_toArray]
          exact decide_eq_false (fun a=>Jj hlen hlen2 hsz a)
         rw [this,Bool.and_false]
        rw [hno]
        have SB : Heap.SameBut a s.heap (s.heap.update a (Obj.mapSeq fun x=>x ++ List.toArray it2)):=Heap.SameBut.update ..
        have o2:=get?_update_seq o (fun x=>x ++ List.toArray it2)
        rw [List.append_toArray] at o2
        refine wpAny_bind (listUpdate_at o rfl ?_ (by rw [List.size_toArray,sizeLine_eq]; exact IV hlen hlen2 hsz) (by rw [Array.size_append,List.size_toArray,List.size_toArray,sizeLine_eq]; exact Hr hlen hlen2 hsz))
        refine wpAny_pure ⟨_,rfl,?_⟩
        exact h _ s.toks G _ (C.turnList ρ t SB o2 (q.append q2)) (fH t SB) .none
    ·cases e
   ·cases e
  ·cases e
 ·cases e
noncomputable def ni : List ae → Mo ae
 | [a]=>fun M=>(match cA a M with
  | some vs=>if bV vs.length then rO vs M else none
  | none=>none)
 | _=>dK
theorem bI.keepNew {h h' : Heap} {G : Gh} {M : List ah} {items : List Value} {vs : List ae} {n : Nat} (C : bI prog w B h G M) (k : ∀ b o,h.get? b = some o → h'.get? b = some o) (a : Addr) (ha : h.objs.size ≤ a) (o : h'.get? a = some (listOf (List.toArray items) n)) (q : bf h G items vs) :
  bI prog w B h' (G.add a) (M ++ [.lst vs]) ∧ Ext h G h' (G.add a) ∧ bO h' (G.add a) (.ref a) (.mref M.length):=by
 have gr : my h G h' (G.add a):=by
  refine ⟨fun b hb=>?_,List.prefix_append _ _,?_,fun b=>?_⟩
  ·have hne : b ≠ a:=fun e=>hb (C.freeAt (e ▸ ha))
   exact ⟨G.put_ne _ hne,fun o e=>k b o e⟩
  ·exact Nat.le_trans ha (Nat.le_of_lt (Heap.lt_size o))
  ·by_cases hb : b = a
   ·subst hb; exact .inr ⟨_,o⟩
   ·show (G.put _ _).tag b = _ ∨ _
    rw [G.put_ne _ hb]
    exact (C.live b).imp id fun ⟨o,e⟩=>⟨o,k b o e⟩
 have hr : (G.add a).ρ[M.length]? = some a:=by rw [← C.len]; exact G.add_ρ _
 refine ⟨C.growM gr (by simp [Gh.add,C.len]) ⟨a,items,n,hr,by rw [← C.len]; exact G.add_tag _,o,q.mono gr.ext.solid⟩,gr.ext,.mref hr⟩
theorem Al : ij prog w B b (.type "list") ni:=by
 intro A s G M xs as r M' R C rs e Q E h
 unfold ni at e
 split at e
 ·cases rs with
  | cons r1 r2=>
   cases r2
   split at e
   ·rename_i hv
    split at e
    ·rename_i hs
     obtain ⟨rfl,rfl⟩:=dS e
     obtain ⟨x,items,rfl,⟨o,ho,hc,n,hd⟩,q⟩:=fP C r1 hv
     refine call_list_seq x (.inl rfl) ho hc hd (fun h' c' k o'=>?_) (by rw [List.size_toArray,q.length]; exact b7 hs)
     obtain ⟨c1,c2,c3⟩:=C.keepNew k _ (Nat.le_refl _) o' q
     exact h h' s.toks _ _ c1 c2 c3
    ·cases e
   ·cases e
 ·cases e
theorem bI.pushFroz {h : Heap} {G : Gh} {M : List ah} (C : bI prog w B h G M) (o : Obj) (hf : o.isFreed = false:=by rfl) : bI prog w B (h.push o) (G.put h.objs.size .froz) M ∧ Ext h G (h.push o) (G.put h.objs.size .froz):=⟨C.push o .froz hf,C.push_ext o .froz hf⟩
noncomputable def cX : List ae → Mo ae
 | [.int n]=>ret (.rng 0 n 1)
 | [.int a,.int c,.int d]=>if decide (d ≠ 0) && fit d then ret (.rng a c d) else dK
 | _=>dK
theorem fq : ij prog w B b (.type "range") cX:=by
 intro A s G M xs as r M' R C rs e Q E h
 unfold cX at e
 split at e
 ·cases rs with
  | cons r1 r2=>
   cases r2
   cases r1
   obtain ⟨rfl,rfl⟩:=gZ e
   refine call_range_1 ?_
   obtain ⟨c1,c2⟩:=C.pushFroz { cls:=.type "range",data:=.fields #[.int 0 s.toks,.int _ _,.int 1 (s.toks + 1)] }
   exact h _ _ _ _ c1 c2 (.rng (by rw [Gh.put_same]; rfl) (Heap.get?_push_size _ rfl))
 ·cases rs with
  | cons r1 r2=>
   cases r2 with
   | cons r2 r3=>
    cases r3 with
    | cons r3 r4=>
     cases r4; cases r1; cases r2; cases r3
     split at e
     ·rename_i hok
      obtain ⟨rfl,rfl⟩:=gZ e
      rw [Bool.and_eq_true] at hok
      refine call_range_3 (of_decide_eq_true hok.1) ?_ (.inl (PyProof.noPylong_small (of_decide_eq_true hok.2)))
      obtain ⟨c1,c2⟩:=C.pushFroz { cls:=.type "range",data:=.fields #[.int _ _,.int _ _,.int _ _] }
      exact h _ _ _ _ c1 c2 (.rng (by rw [Gh.put_same]; rfl) (Heap.get?_push_size _ rfl))
     ·cases e
 ·cases e
noncomputable def g3 (a c : ae) : Mo ae:=fun M=>match cA a M,cA c M with
 | some vs,some us=>if bV (vs.length + us.length) then rO (vs ++ us) M else none
 | _,_=>none
theorem u6 : cH prog w B b (binaryOp .Add) g3:=by
 intro A s G M x y a c r M' R C hx hy e Q E h
 unfold g3 at e
 split at e
 ·rename_i h1 h2
  split at e
  ·rename_i hs
   obtain ⟨rfl,rfl⟩:=dS e
   obtain ⟨x,items,rfl,⟨⟨oc,od,oda,osl⟩,ho,hc,n,hd⟩,q⟩:=fP C hx h1
   obtain ⟨y,items2,rfl,⟨⟨oc2,od2,oda2,osl2⟩,ho2,hc2,n2,hd2⟩,q2⟩:=fP C hy h2
   simp only at hc hd hc2 hd2
   subst hc hd hc2 hd2
   have hsz:=of_decide_eq_true hs
   have l1:=q.length
   have l2:=q2.length
   refine concat_meets ⟨_,ho,rfl⟩ ⟨_,ho2,rfl⟩ noFill_list_add seq_list_add PySem.F.slot_list_add PySem.F.entry_list_add (PySem.F.args_list_add_2 _ _) (list_addW x y (List.toArray items) (List.toArray items2) n n2 od od2 osl osl2 (by rw [List.size_toArray,List.size_toArray,sizeLine_eq]; exact I2 hsz l1 l2)) ⟨ho,ho2,?_⟩
   rw [List.append_toArray]
   obtain ⟨c1,c2,c3⟩:=C.keepNew (h':=s.heap.push (listOf (List.toArray (items ++ items2)) 0)) (fun b o e=>Heap.get?_push_of_some _ e) _ (Nat.le_refl _) (Heap.get?_push_size _ rfl) (q.append q2)
   exact h _ s.toks _ _ c1 c2 c3
  ·cases e
 ·cases e
noncomputable def bC (ms : Loc → Mo (List ae)) : Loc → Mo ae:=fun loc=>bnd (ms loc) fun vs M=>if bV vs.length then rO vs M else none
theorem St.newList {Φ : Frm} {h : Heap} {G : Gh} {mm : Str → Option Value} {loc : Loc} {M : List ah} {items : List Value} {vs : List ae} (S : St prog w B Φ h G mm loc M) (q : bf h G items vs) :
  St prog w B Φ (h.push (listOf (List.toArray items) 0)) (G.add h.objs.size) mm loc (M ++ [.lst vs]) ∧ Ext h G (h.push (listOf (List.toArray items) 0)) (G.add h.objs.size) ∧ bO (h.push (listOf (List.toArray items) 0)) (G.add h.objs.size) (.ref h.objs.size) (.mref M.length):=by
 obtain ⟨c1,c2,c3⟩:=S.core.keepNew (h':=h.push (listOf (List.toArray items) 0)) (fun b o e=>Heap.get?_push_of_some _ e) _ (Nat.le_refl _) (Heap.get?_push_size _ rfl) q
 exact ⟨S.grow c1 (S.core.grow_pushM _ rfl),c2,c3⟩
theorem bx {es : List Expr} {pos : Pos} {ms : Loc → Mo (List ae)} (hes : iH prog w B b sg es ms) : bT prog w B b sg (.List es pos) (bC ms):=by
 intro A Φ s G mm loc M r M' R hΦ S e Q E h
 obtain ⟨vs,M1,e1,e⟩:=aL e
 split at e
 ·rename_i hs
  obtain ⟨rfl,rfl⟩:=dS e
  refine wpAny_List ?_
  refine hes A Φ pos s G mm loc M vs M1 R hΦ S e1 _ _ fun h1 tk1 G1 xs S1 X1 r1=>⟨by rw [r1.length]; exact b7 hs,?_⟩
  obtain ⟨c1,c2,c3⟩:=S1.newList r1
  exact h _ tk1 _ _ c1 (X1.trans c2) c3
 ·cases e
noncomputable def jA (ms : Loc → Mo (List ae)) : Loc → Mo ae:=fun loc=>bnd (ms loc) fun vs M=>if bV vs.length then some (.tup vs,M) else none
theorem pn {es : List Expr} {k : Nat} {pos : Pos} {ms : Loc → Mo (List ae)} (hes : iH prog w B b sg es ms) : bT prog w B b sg (.Tuple es k pos) (jA ms):=by
 intro A Φ s G mm loc M r M' R hΦ S e Q E h
 obtain ⟨vs,M1,e1,e⟩:=aL e
 split at e
 ·rename_i hs
  cases e
  refine wpAny_Tuple ?_
  refine hes A Φ pos s G mm loc M vs _ R hΦ S e1 _ _ fun h1 tk1 G1 xs S1 X1 r1=>⟨by rw [r1.length]; exact b7 hs,?_⟩
  have X2:=S1.core.push_ext { cls:=.type "tuple",data:=.seq xs.toArray } .froz
  have S2:=S1.push { cls:=.type "tuple",data:=.seq xs.toArray } .froz
  refine h _ tk1 _ _ S2 (X1.trans X2) (.tup (items:=xs) (by rw [Gh.put_same]; rfl) ⟨_,Heap.get?_push_size _ rfl,rfl,_,rfl⟩ (r1.mono X2.solid))
 ·cases e
noncomputable def kS : Loc → Mo ae:=fun _ M=>some (.mref M.length,M ++ [.idict []])
end
end Mine
end
section
open PySem PySem.W PySem.Spec PySem.Calls PySem.SeqAt PyProof.Rows
namespace Mine
section
variable {prog : Program} {w : World} {B : Heap} {b : Nat} {sg : Sg}
mutual
noncomputable def hV : ae → Option PyData
 | .int i=>some (.int i)
 | .str x=>some (.str x)
 | .lst vs=>(eG vs).map .list
 | .tup vs=>(eG vs).map .tuple
 | _=>none
noncomputable def eG : List ae → Option (List PyData)
 | []=>some []
 | a :: r=>match hV a,eG r with
  | some x,some xs=>some (x :: xs)
  | _,_=>none
end
theorem bO.reads {h : Heap} {G : Gh} {v : Value} {a : ae} {d : PyData} (r : bO h G v a) : hV a = some d → ∃ as,Reads h v d as:=
 bO.rec (motive_1:=fun v a _=>∀ d,hV a = some d → ∃ as,Reads h v d as) (motive_2:=fun v a _=>∀ d,eG a = some d → ∃ as,ReadsAll h v d as) (motive_3:=fun _ _ _=>True)
  (fun _ e=>by unfold hV at e; cases e) (fun _ _ e=>by unfold hV at e; cases e) (fun i t _ e=>by unfold hV at e; cases e; exact ⟨_,.int i t⟩) (fun x t _ e=>by unfold hV at e; cases e; exact ⟨_,.str x t⟩)
  (fun k l _ ih _ e=>by
   unfold hV at e
   obtain ⟨ds,e1,rfl⟩:=Option.map_eq_some_iff.mp e
   obtain ⟨as,q⟩:=ih _ e1
   obtain ⟨o,ho,hc,n,hd⟩:=l
   exact ⟨_,.list ho hc hd q⟩)
  (fun k l _ ih _ e=>by
   unfold hV at e
   obtain ⟨ds,e1,rfl⟩:=Option.map_eq_some_iff.mp e
   obtain ⟨as,q⟩:=ih _ e1
   obtain ⟨o,ho,hc,n,hd⟩:=l
   exact ⟨_,.tuple ho hc hd q⟩)
  (fun _ _ _ _ _ _ _ e=>by unfold hV at e; cases e) (fun _ _ _ e=>by unfold hV at e; cases e) (fun _ _ e=>by unfold hV at e; cases e)
  (fun _ e=>by unfold eG at e; cases e; exact ⟨_,.nil⟩)
  (fun _ _ i1 i2 _ e=>by
   unfold eG at e
   split at e
   ·rename_i e1 e2
    cases e
    obtain ⟨as,q⟩:=i1 _ e1
    obtain ⟨bs,qs⟩:=i2 _ e2
    exact ⟨_,.cons q qs⟩
   ·cases e) trivial (fun _ _ _ _=>trivial) r d
theorem bf.reads {h : Heap} {G : Gh} {v : List Value} {a : List ae} {d : List PyData} (r : bf h G v a) : eG a = some d → ∃ as,ReadsAll h v d as:=
 bf.ind (P:=fun v a=>∀ d,eG a = some d → ∃ as,ReadsAll h v d as) (fun _ e=>by unfold eG at e; cases e; exact ⟨_,.nil⟩) (fun _ _ _ _ r _ ih _ e=>by
  unfold eG at e
  split at e
  ·rename_i e1 e2
   cases e
   obtain ⟨as,q⟩:=r.reads e1
   obtain ⟨bs,qs⟩:=ih _ e2
   exact ⟨_,.cons q qs⟩
  ·cases e) r d
noncomputable def cK (a : ae) (M : List ah) : Option PyData:=match a with
 | .mref i=>(match M[i]? with
  | some (.lst vs)=>(eG vs).map .list
  | _=>none)
 | a=>hV a
theorem j5 {h : Heap} {G : Gh} {M : List ah} {v : Value} {a : ae} {d : PyData} (c : bI prog w B h G M) (r : bO h G v a) (e : cK a M = some d) : ∃ as,Reads h v d as:=by
 unfold cK at e
 split at e
 ·split at e
  ·rename_i hm
   obtain ⟨ds,e1,rfl⟩:=Option.map_eq_some_iff.mp e
   obtain ⟨a,items,n,rfl,ρ,t,o,q⟩:=c.mlist r hm
   obtain ⟨as,q'⟩:=q.reads e1
   exact ⟨_,.list o rfl rfl q'⟩
  ·cases e
 ·exact r.reads e
theorem eV.un64 {A : Around} (r : eV A b) (h : 9 ≤ b) : A.units + 72 < cLine:=Nat.lt_of_le_of_lt (Nat.add_le_add_left (Nat.mul_le_mul_left 8 h) _) r.un
noncomputable def oEq (a c : ae) : Mo ae:=fun M=>match a,c with
 | .int x,.int y=>some (.bool (decide (x = y)),M)
 | .str x,.str y=>some (.bool (decide (x = y)),M)
 | a,c=>(match cK a M,cK c M with
  | some d,some e=>if shaped d && shaped e then some (.bool (PyData.eqv d e),M) else none
  | _,_=>none)
noncomputable def oNe (a c : ae) : Mo ae:=fun M=>match a,c with
 | .int x,.int y=>some (.bool (!decide (x = y)),M)
 | .str x,.str y=>some (.bool (!decide (x = y)),M)
 | a,c=>(match cK a M,cK c M with
  | some d,some e=>if shaped d && shaped e then some (.bool (!PyData.eqv d e),M) else none
  | _,_=>none)
theorem wi (x y : Str) : (x.cps.toList == y.cps.toList) = decide (x = y):=by
 rw [Bool.eq_iff_iff,beq_iff_eq,decide_eq_true_eq]
 constructor
 ·intro e
  obtain ⟨⟨a⟩⟩:=x
  obtain ⟨⟨c⟩⟩:=y
  cases e
  rfl
 ·intro e; rw [e]
theorem cx (hb : 9 ≤ b) : cH prog w B b (compareOp .Eq) oEq:=by
 intro A s G M x y a c r M' R C hx hy e
 unfold oEq at e
 split at e
 ·cases hx; cases hy; cases e
  exact C.same (tk:=s.toks) (fun Q E h=>P.eq_int (by rw [show ((_ : Int) == _) = decide (_ = _) from rfl]; exact h)) (.bool ..)
 ·cases hx; cases hy; cases e
  exact C.same (tk:=s.toks) (fun Q E h=>P.eq_str (by rw [wi]; exact h)) (.bool ..)
 ·split at e
  ·rename_i e' h1 h2
   split at e
   ·rename_i hs
    cases e
    rw [Bool.and_eq_true] at hs
    obtain ⟨as,q1⟩:=j5 C hx h1
    obtain ⟨bs,q2⟩:=j5 C hy h2
    exact C.same (tk:=s.toks) (fun Q E h=>eq_dataH q1 q2 hs.1 hs.2 (Nat.lt_trans (Nat.add_lt_add_left (by decide) _) (R.un64 hb)) h) (.bool ..)
   ·cases e
  ·cases e
theorem xH (hb : 9 ≤ b) : cH prog w B b (compareOp .NotEq) oNe:=by
 intro A s G M x y a c r M' R C hx hy e
 unfold oNe at e
 split at e
 ·cases hx; cases hy; cases e
  exact C.same (tk:=s.toks) (fun Q E h=>P.ne_int (by rw [show ((_ : Int) != _) = !decide (_ = _) from rfl]; exact h)) (.bool ..)
 ·cases hx; cases hy; cases e
  exact C.same (tk:=s.toks) (fun Q E h=>P.ne_str (by rw [show ((_ : List Nat) != _) = !(_ == _) from rfl,wi]; exact h)) (.bool ..)
 ·split at e
  ·rename_i e' h1 h2
   split at e
   ·rename_i hs
    cases e
    rw [Bool.and_eq_true] at hs
    obtain ⟨as,q1⟩:=j5 C hx h1
    obtain ⟨bs,q2⟩:=j5 C hy h2
    exact C.same (tk:=s.toks) (fun Q E h=>ne_dataH q1 q2 hs.1 hs.2 (Nat.lt_trans (Nat.add_lt_add_left (by decide) _) (R.un64 hb)) h) (.bool ..)
   ·cases e
  ·cases e
noncomputable def iS (a c : ae) (M : List ah) : Option Bool:=match a,c with
 | .int x,.mref i=>(match M[i]? with
  | some (.idict kvs)=>some (kvs.lookup x).isSome
  | some (.lst vs)=>(match eG vs with
   | some ds=>if shaped (.list ds) then some (ds.any fun y=>PyData.eqv y (.int x)) else none
   | none=>none)
  | _=>none)
 | a,.tup vs=>(match hV a,eG vs with
  | some d,some ds=>if shaped d && shaped (.tuple ds) then some (ds.any fun y=>PyData.eqv y d) else none
  | _,_=>none)
 | a,c=>(match cK a M,cA c M with
  | some d,some vs=>(match eG vs with
   | some ds=>if shaped d && shaped (.list ds) then some (ds.any fun y=>PyData.eqv y d) else none
   | none=>none)
  | _,_=>none)
theorem lR {ds : List PyData} (h : shaped (.list ds) = true) : PyData.canLayAll0 ds = true ∧ PyData.depthAll ds ≤ 64:=by
 unfold shaped at h
 rw [Bool.and_eq_true] at h
 have h1 : PyData.canLayAll0 ds = true:=by have:=h.1; unfold PyData.canLay0 at this; exact this
 have h2:=of_decide_eq_true h.2
 unfold PyData.depth at h2
 exact ⟨h1,(FH h2)⟩
theorem u2 {ds : List PyData} (h : shaped (.tuple ds) = true) : PyData.canLayAll0 ds = true ∧ PyData.depthAll ds ≤ 64:=by
 unfold shaped at h
 rw [Bool.and_eq_true] at h
 have h1 : PyData.canLayAll0 ds = true:=by have:=h.1; unfold PyData.canLay0 at this; exact this
 have h2:=of_decide_eq_true h.2
 unfold PyData.depth at h2
 exact ⟨h1,(FH h2)⟩
theorem ic {d : PyData} (h : shaped d = true) : d.canLay0 = true:=(Bool.and_eq_true_iff.mp h).1
theorem lT {h : Heap} {G : Gh} {M : List ah} {i : Nat} {a : Addr} (c : bI prog w B h G M) (hsys : ∃ o,B.get? sysModules = some o) (t : G.tag a = .mut i) : (a == sysModules) = false:=by
 rw [beq_eq_false_iff_ne]
 intro e
 subst e
 obtain ⟨o,ho⟩:=hsys
 rw [(c.base _ _ ho).1] at t
 cases t
noncomputable def DG (prog : Program) (w : World) (A : Around) (s : Shared) (x y : Value) (bb : Bool) : Prop:=
 ∃ k,(∀ (Q E : Value → Shared → Prop),Q (.bool bb) { s with toks:=k } → wpAny (model prog w) A (compareOp .In x y) Q E s) ∧ (∀ (Q E : Value → Shared → Prop),Q (.bool (!bb)) { s with toks:=k } → wpAny (model prog w) A (compareOp .NotIn x y) Q E s)
theorem CF (hsys : ∃ o,B.get? sysModules = some o) (hb : 9 ≤ b) {A : Around} {s : Shared} {G : Gh} {M : List ah} {x y : Value} {a c : ae} {bb : Bool} (R : eV A b) (C : bI prog w B s.heap G M) (hx : bO s.heap G x a) (hy : bO s.heap G y c) (e : iS a c M = some bb) : DG prog w A s x y bb:=by
 have hu:=R.un64 hb
 unfold iS at e
 split at e
 ·split at e
  ·rename_i hm
   cases e
   cases hy with
   | @mref _ ad r=>
    obtain ⟨ad',ps,r',t,hd,q⟩:=C.muts i _ hm
    rw [r] at r'; cases r'
    cases hx
    have ne:=lT C hsys t
    have e1 : (valueAt ps x_1).isSome = (kvs.lookup x_1).isSome:=by
     cases hl : kvs.lookup x_1 with
     | none=>rw [(fc q x_1).2 hl]; rfl
     | some a=>obtain ⟨v,hv,_⟩:=(fc q x_1).1 a hl; rw [hv]; rfl
    exact ⟨s.toks + 1,fun Q E h=>wpAny_in_of (intKind_is prog w x_1 _) ne hd.mapOf (by rw [e1]; exact h),fun Q E h=>wpAny_notIn_of (intKind_is prog w x_1 _) ne hd.mapOf (by rw [e1]; exact h)⟩
  ·rename_i hm
   split at e
   ·rename_i hds
    split at e
    ·rename_i hs
     cases e
     obtain ⟨k1,k2⟩:=lR hs
     obtain ⟨ad,items,n,rfl,ρ,t,o,q⟩:=C.mlist hy hm
     obtain ⟨as,q'⟩:=q.reads hds
     cases hx
     have rc : Reads s.heap (.ref ad) (.list ds) _:=.list o rfl rfl q'
     have hu' : A.units + 1 + min (PyData.depthAll ds) (PyData.int x_1).depth < cLine:=Eh hu k2
     exact ⟨s.toks,fun Q E h=>SeqAt.in_list_reads rc (.int ..) k1 rfl hu' h,fun Q E h=>SeqAt.notIn_list_reads rc (.int ..) k1 rfl hu' h⟩
    ·cases e
   ·cases e
  ·cases e
 ·split at e
  ·rename_i h1 h2
   split at e
   ·rename_i hs
    cases e
    rw [Bool.and_eq_true] at hs
    obtain ⟨k1,k2⟩:=u2 hs.2
    obtain ⟨bs,qx⟩:=hx.reads h1
    obtain ⟨as,rc⟩:=hy.reads (d:=.tuple xs) (by unfold hV; rw [h2]; rfl)
    have hu' : A.units + 1 + min (PyData.depthAll xs) x_3.depth < cLine:=Eh hu k2
    exact ⟨s.toks,fun Q E h=>SeqAt.in_tuple_reads rc qx k1 (ic hs.1) hu' h,fun Q E h=>SeqAt.notIn_tuple_reads rc qx k1 (ic hs.1) hu' h⟩
   ·cases e
  ·cases e
 ·split at e
  ·rename_i h1 h2
   split at e
   ·rename_i h3
    split at e
    ·rename_i hs
     cases e
     rw [Bool.and_eq_true] at hs
     obtain ⟨k1,k2⟩:=lR hs.2
     obtain ⟨bs,qx⟩:=j5 C hx h1
     obtain ⟨ad,items,rfl,⟨o,ho,hc,n,hd⟩,q⟩:=fP C hy h2
     obtain ⟨as,q'⟩:=q.reads h3
     have rc : Reads s.heap (.ref ad) (.list ds) _:=.list ho hc hd q'
     have hu' : A.units + 1 + min (PyData.depthAll ds) d.depth < cLine:=Eh hu k2
     exact ⟨s.toks,fun Q E h=>SeqAt.in_list_reads rc qx k1 (ic hs.1) hu' h,fun Q E h=>SeqAt.notIn_list_reads rc qx k1 (ic hs.1) hu' h⟩
    ·cases e
   ·cases e
  ·cases e
noncomputable def oIn (a c : ae) : Mo ae:=fun M=>(iS a c M).map fun v=>(.bool v,M)
noncomputable def dA (a c : ae) : Mo ae:=fun M=>(iS a c M).map fun v=>(.bool (!v),M)
theorem Fa (hsys : ∃ o,B.get? sysModules = some o) (hb : 9 ≤ b) : cH prog w B b (compareOp .In) oIn:=by
 intro A s G M x y a c r M' R C hx hy e
 obtain ⟨v,hv,e⟩:=Option.map_eq_some_iff.mp e
 cases e
 obtain ⟨k,k1,k2⟩:=CF hsys hb R C hx hy hv
 exact C.same k1 (.bool _)
theorem mK (hsys : ∃ o,B.get? sysModules = some o) (hb : 9 ≤ b) : cH prog w B b (compareOp .NotIn) dA:=by
 intro A s G M x y a c r M' R C hx hy e
 obtain ⟨v,hv,e⟩:=Option.map_eq_some_iff.mp e
 cases e
 obtain ⟨k,k1,k2⟩:=CF hsys hb R C hx hy hv
 exact C.same k2 (.bool _)
end
end Mine
end
section
namespace Mine
section
variable {prog : Program} {w : World} {B : Heap} {b : Nat} {sg : Sg}
theorem St.extend {Φ : Frm} {h h' : Heap} {G : Gh} {mm : Str → Option Value} {loc : Loc} {M : List ah} (S : St prog w B Φ h G mm loc M) (he : ∀ b o,h.get? b = some o → h'.get? b = some o) : St prog w B Φ h' G mm loc M ∧ Ext h G h' G:=by
 refine ⟨S.move ⟨fun b o e=>?_,fun a=>?_,S.core.len,fun i o e=>?_,?_⟩ ⟨fun _ k=>k,fun a o _ e=>he a o e,List.prefix_refl _⟩ fun a p=>⟨rfl,fun o e=>he a o e⟩,⟨fun _ _=>rfl,fun a o _ e=>he a o e,List.prefix_refl _⟩⟩
 ·obtain ⟨t,e'⟩:=S.core.base b o e
  exact ⟨t,he b o e'⟩
 ·exact (S.core.live a).imp id fun ⟨o,e⟩=>⟨o,he a o e⟩
 ·exact (S.core.muts i o e).mono prog w ⟨fun _ k=>k,fun a o _ e=>he a o e,List.prefix_refl _⟩ fun a t=>⟨t,fun o e=>he a o e⟩
 ·obtain ⟨o,e⟩:=(S.own _ S.ok.Lown).2
  exact Nat.le_trans S.above (Nat.le_of_lt (Heap.lt_size (he _ _ e)))
noncomputable def gT (n : Int) (l : Loc → Mo ae) : Loc → Mo ae:=fun loc=>bnd (l loc) fun a M=>match cA a M with
 | some vs=>if bV vs.length then rO (vs.drop n.toNat) M else none
 | none=>none
noncomputable def nz (n : Int) (l : Loc → Mo ae) : Loc → Mo ae:=fun loc=>bnd (l loc) fun a M=>match cA a M with
 | some vs=>if bV vs.length then rO (vs.take n.toNat) M else none
 | none=>none
theorem xi (items : List Value) {n : Int} (h : 0 ≤ n) : slicePick (List.toArray items) (some n) none none = List.toArray (items.drop n.toNat) := by
  rw [kms_pick_eq]
  congr 1
  unfold kms_pick kms_lo kms_hi
  rw [List.toList_toArray]
  dsimp only
  first
    | (rw [if_neg (fun a => Gg h a)]; rw [List.take_of_length_le (by rw [List.length_drop]; exact Kg)]; rcases Nat.le_total n.toNat items.length with q | q
       · rw [Nat.min_eq_left q]
       · rw [Nat.min_eq_right q, List.drop_of_length_le (Nat.le_refl _), List.drop_of_length_le q])
theorem xu (items : List Value) {n : Int} (h : 0 ≤ n) : slicePick (List.toArray items) none (some n) none = List.toArray (items.take n.toNat) := by
  rw [kms_pick_eq]
  congr 1
  unfold kms_pick kms_lo kms_hi
  rw [List.toList_toArray]
  dsimp only
  first
    | (rw [if_neg (fun a => Gg h a), List.drop_zero, Nat.sub_zero]; rcases Nat.le_total n.toNat items.length with q | q
       · rw [Nat.min_eq_left q]
       · rw [Nat.min_eq_right q, List.take_of_length_le (Nat.le_refl _), List.take_of_length_le q])
theorem ow {A : Around} {s : Shared} {Q E : Value → Shared → Prop} {value slice : Expr} {l : Addr} {items : Array Value} {vl vu : Value} {lo hi : Option Int} (hl : s.heap.IsList l items) (pl : IsPart vl lo) (pu : IsPart vu hi) (hsz : items.size ≤ sizeLine)
  (h : Q (.ref (s.heap.objs.size + 1)) { s with heap:=(s.heap.push { cls:=.type "slice",data:=.fields #[vl,vu,.none] }).push (listOf (slicePick items lo hi none) 0) })
  (hs : ∀ o i,subscripted slice false o i = operate [i,o] (getItem o i)) :
  wpAny (model prog w) A (subscriptTail value slice (.ref l) (.ref s.heap.objs.size)) Q E { s with heap:=s.heap.push { cls:=.type "slice",data:=.fields #[vl,vu,.none] } }:=by
 refine gI (T := "list") (Heap.IsList.typeIs (s:={ s with heap:=s.heap.push { cls:=.type "slice",data:=.fields #[vl,vu,.none] } }) (hl.push _)) list_getitem_lookup ?_ (hs _ _)
 refine wpAny_getItem_list_slice (hl.push _) (Heap.IsSliceOf.new ..) pl pu .none (by simp) ?_ hsz
 have e : (s.heap.push { cls:=.type "slice",data:=.fields #[vl,vu,.none] }).objs.size = s.heap.objs.size + 1:=Heap.size_push ..
 show Q (.ref (s.heap.push _).objs.size) _
 rw [e]
 exact h
theorem pd {Φ : Frm} {h : Heap} {G : Gh} {mm : Str → Option Value} {loc : Loc} {M : List ah} {items : List Value} {vs : List ae} (S : St prog w B Φ h G mm loc M) (o : Obj) (hf : o.isFreed = false) (q : bf h G items vs) :
  ∃ G',St prog w B Φ ((h.push o).push (listOf (List.toArray items) 0)) G' mm loc (M ++ [.lst vs]) ∧ Ext h G ((h.push o).push (listOf (List.toArray items) 0)) G' ∧ bO ((h.push o).push (listOf (List.toArray items) 0)) G' (.ref (h.objs.size + 1)) (.mref M.length):=by
 have S1:=S.push o .junk hf
 have X1:=S.core.push_ext o .junk hf
 obtain ⟨c1,c2,c3⟩:=S1.newList (q.mono X1.solid)
 have e : (h.push o).objs.size = h.objs.size + 1:=Heap.size_push ..
 rw [e] at c3
 exact ⟨_,c1,X1.trans c2,by rw [e]; exact c3⟩
theorem qF {n : Int} {k : Nat} {el : Expr} {p1 p2 pos : Pos} {l : Loc → Mo ae} (hl : bT prog w B b sg el l) (hn : 0 ≤ n:=by decide) : bT prog w B b sg (.Subscript el (.Slice (some (.Constant (.int n) k p1)) none none p2) pos) (gT n l):=by
 intro A Φ s G mm loc M r M' R hΦ S e Q E h
 obtain ⟨a,M1,e1,e⟩:=aL e
 split at e
 ·rename_i hv
  split at e
  ·rename_i hs
   obtain ⟨rfl,rfl⟩:=dS e
   refine Subscript_ ?_
   refine hl A Φ s G mm loc M a M1 R hΦ S e1 _ _ fun h1 tk1 G1 x S1 X1 r1=>?_
   obtain ⟨ad,items,rfl,hli,q⟩:=fP S1.core r1 hv
   refine wpAny_Slice ?_
   rw [evalPart_some]
   refine wpAny_Constant_int ?_
   rw [evalPart_none]
   refine wpAny_pure (wpAny_pure ?_)
   obtain ⟨G2,c1,c2,c3⟩:=pd S1 { cls:=.type "slice",data:=.fields #[.int n tk1,.none,.none] } rfl (q.drop n.toNat)
   refine ow (s:={ s with heap:=h1,toks:=tk1 + 1 }) hli (.int n tk1) .none (by rw [List.size_toArray,q.length]; exact b7 hs) ?_ (by intro _ _; rfl)
   rw [xi items hn]
   exact h _ _ G2 _ c1 (X1.trans c2) c3
  ·cases e
 ·cases e
theorem zm {n : Int} {k : Nat} {el : Expr} {p1 p2 pos : Pos} {l : Loc → Mo ae} (hl : bT prog w B b sg el l) (hn : 0 ≤ n:=by decide) : bT prog w B b sg (.Subscript el (.Slice none (some (.Constant (.int n) k p1)) none p2) pos) (nz n l):=by
 intro A Φ s G mm loc M r M' R hΦ S e Q E h
 obtain ⟨a,M1,e1,e⟩:=aL e
 split at e
 ·rename_i hv
  split at e
  ·rename_i hs
   obtain ⟨rfl,rfl⟩:=dS e
   refine Subscript_ ?_
   refine hl A Φ s G mm loc M a M1 R hΦ S e1 _ _ fun h1 tk1 G1 x S1 X1 r1=>?_
   obtain ⟨ad,items,rfl,hli,q⟩:=fP S1.core r1 hv
   refine wpAny_Slice ?_
   rw [evalPart_none]
   refine wpAny_pure ?_
   rw [evalPart_some]
   refine wpAny_Constant_int ?_
   refine wpAny_pure ?_
   obtain ⟨G2,c1,c2,c3⟩:=pd S1 { cls:=.type "slice",data:=.fields #[.none,.int n tk1,.none] } rfl (q.take n.toNat)
   refine ow (s:={ s with heap:=h1,toks:=tk1 + 1 }) hli .none (.int n tk1) (by rw [List.size_toArray,q.length]; exact b7 hs) ?_ (by intro _ _; rfl)
   rw [xu items hn]
   exact h _ _ G2 _ c1 (X1.trans c2) c3
  ·cases e
 ·cases e
theorem kH {pos : Pos} : bT prog w B b sg (.Dict [] [] pos) kS:=by
 intro A Φ s G mm loc M r M' R hΦ S e Q E h
 cases e
 refine wpAny_Dict_empty ?_
 have hr : (G.add s.heap.objs.size).ρ[M.length]? = some s.heap.objs.size:=by rw [← S.core.len]; exact G.add_ρ _
 have hm : MAt prog w (s.heap.push { cls:=.type "dict",data:=.dict #[] }) (G.add s.heap.objs.size) M.length (.idict []):=⟨_,[],hr,by rw [← S.core.len]; exact G.add_tag _,Heap.DictOf.new _,.nil⟩
 have c:=S.core.pushM (o:={ cls:=.type "dict",data:=.dict #[] }) rfl hm
 have g:=S.core.grow_pushM { cls:=.type "dict",data:=.dict #[] } rfl
 exact h _ s.toks _ _ (S.grow c g) g.ext (.mref hr)
noncomputable def BJ (prog : Program) (w : World) (B : Heap) (b : Nat) (sg : Sg) (keys : List (Option Expr)) (values : List Expr) (m : Loc → Mo (List (Str × ae))) : Prop:=
 ∀ (A : Around) (Φ : Frm) (pos : Pos) (s : Shared) (G : Gh) (mm : Str → Option Value) (loc : Loc) (M : List ah) (r : List (Str × ae)) (M' : List ah),
  eV A b → Φ.Of sg → St prog w B Φ s.heap G mm loc M → m loc M = some (r,M') →
  ∀ (Q : List (Value × Value) → Shared → Prop) (E : Value → Shared → Prop),
   (∀ h' tk' G' x ps,St prog w B Φ h' G' mm loc M' → Ext s.heap G h' G' → Carries (strKind prog w) x ps → dT h' G' ps r → Q x { s with heap:=h',toks:=tk' }) →
   wpAny (model prog w) A (evalPairs (pairTrees keys values Φ.env pos)) Q E s
noncomputable def EL : Loc → Mo (List (Str × ae)):=fun _=>ret []
noncomputable def rF (k : Str) (l : Loc → Mo ae) (ls : Loc → Mo (List (Str × ae))) : Loc → Mo (List (Str × ae)):=fun loc=>bnd (l loc) fun a=>bnd (ls loc) fun as=>ret ((k,a) :: as)
theorem EG : BJ prog w B b sg [] [] EL:=by
 intro A Φ pos s G mm loc M r M' R hΦ S e Q E h
 cases e
 exact evalPairs_nil (h s.heap s.toks G [] [] S (Ext.refl _ _) trivial .nil)
theorem qa {x : Str} {k : Nat} {kp : Pos} {ev : Expr} {keys : List (Option Expr)} {values : List Expr} {l : Loc → Mo ae} {ls : Loc → Mo (List (Str × ae))} (hl : bT prog w B b sg ev l) (hs : BJ prog w B b sg keys values ls) : BJ prog w B b sg (some (.Constant (.str x) k kp) :: keys) (ev :: values) (rF x l ls):=by
 intro A Φ pos s G mm loc M r M' R hΦ S e Q E h
 obtain ⟨a,M1,e1,e⟩:=aL e
 obtain ⟨as,M2,e2,e⟩:=aL e
 cases e
 unfold pairTrees
 refine evalPairs_cons ?_
 refine wpAny_Constant_str ?_
 refine wpAny_bind ?_
 refine hl A Φ { s with toks:=s.toks + 1 } G mm loc M a M1 R hΦ S e1 _ _ fun h1 tk1 G1 y S1 X1 r1=>?_
 refine wpAny_bind (wpAny_standAt (wpAny_pure ?_))
 refine hs A Φ pos { s with heap:=h1,toks:=tk1 } G1 mm loc M1 as _ R hΦ S1 e2 _ _ fun h2 tk2 G2 xs ps S2 X2 C2 r2=>?_
 exact h h2 tk2 G2 _ ((x,y) :: ps) S2 (X1.trans X2) ⟨strKind_is prog w x _,rfl,C2⟩ (.cons (r1.mono X2.solid) r2)
noncomputable def m4 (acc : List (Str × ae)) (r : List (Str × ae)) : List (Str × ae):=r.foldl (fun acc kv=>jE acc kv.1 kv.2) acc
theorem dT.merged {h : Heap} {G : Gh} {ps : List (Str × Value)} {r : List (Str × ae)} (q : dT h G ps r) : ∀ {acc : List (Str × Value)} {acc' : List (Str × ae)},dT h G acc acc' → dT h G (PySem.merged acc ps) (m4 acc' r):=by
 induction q with
 | nil=>intro acc acc' z; exact z
 | cons r rs ih=>intro acc acc' z; exact ih (dT.stored r z)
noncomputable def Aa (ms : Loc → Mo (List (Str × ae))) : Loc → Mo ae:=fun loc=>bnd (ms loc) fun r M=>some (.mref M.length,M ++ [.sdict (m4 [] r)])
theorem Cs {keys : List (Option Expr)} {values : List Expr} {pos : Pos} {ms : Loc → Mo (List (Str × ae))} (hes : BJ prog w B b sg keys values ms)
  (hall : keys.all (·.isSome) = true:=by rfl) (hl : keys.length = values.length:=by rfl) (h0 : keys ≠ []:=by simp) (hlen : keys.length ≤ 15:=by decide) : bT prog w B b sg (.Dict keys values pos) (Aa ms):=by
 intro A Φ s G mm loc M r M' R hΦ S e Q E h
 obtain ⟨vs,M1,e1,e⟩:=aL e
 cases e
 have hpl:=pairTrees_length keys values Φ.env pos hall hl
 refine wpAny_Dict_pairs (knd:=strKind prog w) (zip_pairTrees keys values Φ.env pos hall hl) (fun z=>h0 (List.length_eq_zero_iff.mp (by rw [← hpl,z]; rfl))) (by rw [hpl]; exact hlen) ?_
 have f:=S.core.free
 have S1:=S.push { cls:=.type "dict",data:=.dict #[] } .below
 have X1:=S.core.push_ext { cls:=.type "dict",data:=.dict #[] } .below
 refine hes A Φ pos { s with heap:=s.heap.push { cls:=.type "dict",data:=.dict #[] } } _ mm loc M vs M1 R hΦ S1 e1 _ _ fun h2 tk2 G2 xs ps S2 X2 C2 r2=>?_
 have tD : G2.tag s.heap.objs.size = .below:=by rw [X2.tag _ (by rw [Gh.put_same]; rfl),Gh.put_same]
 have oD : h2.get? s.heap.objs.size = some { cls:=.type "dict",data:=.dict #[] }:=X2.obj _ _ (by rw [Gh.put_same]; rfl) (Heap.get?_push_size _ rfl)
 have dD : h2.DictOf (strKind prog w) s.heap.objs.size []:=by
  obtain ⟨o,es,ep,ho,r⟩:=Heap.DictOf.new (knd:=strKind prog w) s.heap
  rw [Heap.get?_push_size _ rfl] at ho; cases ho
  exact ⟨_,es,ep,oD,r⟩
 refine ⟨ps,C2,dD,fun h3 d3 SB=>?_⟩
 have ne : ∀ a,G2.tag a ≠ .below → a ≠ s.heap.objs.size:=fun a k e=>k (e ▸ tD)
 let G3 : Gh:=G2.add s.heap.objs.size
 have sol : eN h2 G2 h3 G3:=⟨fun a k=>by
   show ((G2.put _ _).tag a).solid = true
   rw [G2.put_ne _ (ne a (by intro z; rw [z] at k; cases k))]; exact k,fun a o k e=>(SB.2 a (ne a (by intro z; rw [z] at k; cases k))).trans e,List.prefix_append _ _⟩
 have hr : G3.ρ[M1.length]? = some s.heap.objs.size:=by rw [← S2.core.len]; exact G2.add_ρ _
 have hm : MAt prog w h3 G3 M1.length (.sdict (m4 [] vs)):=⟨_,_,hr,by rw [← S2.core.len]; exact G2.add_tag _,d3,(dT.merged r2 .nil).mono sol⟩
 have c3 : bI prog w B h3 G3 (M1 ++ [.sdict (m4 [] vs)]):=by
  refine ⟨fun b o e=>?_,fun b=>?_,by simp [G3,Gh.add,S2.core.len],fun i o e=>?_,by rw [SB.1]; exact S2.core.size⟩
  ·obtain ⟨t,e'⟩:=S2.core.base b o e
   have n:=ne b (by rw [t]; exact fun z=>nomatch z)
   exact ⟨by show (G2.put _ _).tag b = _; rw [G2.put_ne _ n]; exact t,(SB.2 b n).trans e'⟩
  ·by_cases z : b = s.heap.objs.size
   ·subst z; exact .inr (iQ d3)
   ·show (G2.put _ _).tag b = _ ∨ _
    rw [G2.put_ne _ z]; exact (S2.core.live b).imp id fun ⟨o,e⟩=>⟨o,(SB.2 b z).trans e⟩
  ·by_cases hi : i < M1.length
   ·rw [List.getElem?_append_left hi] at e
    refine (S2.core.muts i o e).mono prog w sol fun a t=>?_
    have n:=ne a (by rw [t]; exact fun z=>nomatch z)
    exact ⟨by show (G2.put _ _).tag a = _; rw [G2.put_ne _ n]; exact t,fun o e=>(SB.2 a n).trans e⟩
   ·obtain ⟨hi2,_⟩:=List.getElem?_eq_some_iff.mp e
    rw [List.length_append] at hi2
    have : i = M1.length:=by simp at hi2; exact DB hi hi2
    subst this
    rw [List.getElem?_append_right (Nat.le_refl _),Nat.sub_self] at e
    cases e
    exact hm
 have nc : ∀ v,¬ h2.IsCell s.heap.objs.size v:=fun v ⟨o,e,d⟩=>by rw [oD] at e; cases e; cases d
 have S3:=S2.move c3 sol fun a p=>by
  have n:=S2.notPlace tD nc p
  exact ⟨G2.put_ne _ n,fun o e=>(SB.2 a n).trans e⟩
 have X3 : Ext s.heap G h3 G3:=by
  have X12:=X1.trans X2
  have n : ∀ a,(G.tag a).kept = true → a ≠ s.heap.objs.size:=fun a k e=>by rw [e,f] at k; cases k
  refine ⟨fun a k=>?_,fun a o k e=>(SB.2 a (n a k)).trans (X12.obj a o k e),X12.ρ.trans (List.prefix_append _ _)⟩
  show (G2.put _ _).tag a = _
  rw [G2.put_ne _ (n a k)]; exact X12.tag a k
 exact h h3 _ G3 _ S3 X3 (.mref hr)
noncomputable def Fu (i : Nat) (m : Loc → Mo (Fl × Loc)) : Loc → Mo (Fl × Loc):=fun loc=>bnd (m loc) fun r M=>match r.2[i]? with
 | some (some (.mref k))=>(match M[k]? with
  | some mo=>(match Mine.froz mo with
   | some v=>some ((r.1,r.2.set i (some v)),M.set k .gone)
   | none=>none)
  | none=>none)
 | _=>none
theorem FY (i : Nat) {st : Stmt} {m : Loc → Mo (Fl × Loc)} (h1 : ig prog w B b sg st m) : ig prog w B b sg st (Fu i m):=by
 intro A Φ s G mm loc M r loc' M' R hΦ S e Q E h
 obtain ⟨⟨fl,loc1⟩,M1,e1,e⟩:=aL e
 dsimp only at e
 split at e
 ·rename_i hk
  split at e
  ·rename_i hmo
   split at e
   ·rename_i hv
    cases e
    refine h1 A Φ s G mm loc M _ loc1 M1 R hΦ S e1 _ _ fun h2 tk2 G2 mm2 x S2 X2 r2=>?_
    have X3:=iq h2 G2 k
    have S3:=S2.move (S2.core.freeze k) X3.solid fun a p=>⟨by rcases S2.place p with q | q <;> (rw [q]; unfold Gh.freeze; dsimp only; rw [q]),fun o e=>e⟩
    refine h h2 tk2 (G2.freeze k) mm2 x ⟨S3.core,S3.ns,S3.own,S3.cell,S3.above,S3.ok,fun j y a e1 e2=>?_⟩ (X2.trans X3) ?_
    ·rw [List.getElem?_set] at e2
     by_cases hj : i = j
     ·subst hj
      rw [if_pos rfl] at e2
      split at e2
      ·cases e2
       obtain ⟨u,hu,q⟩:=S2.loc i y _ e1 hk
       exact ⟨u,hu,S2.core.frozen hmo hv q⟩
      ·cases e2
     ·rw [if_neg hj] at e2
      exact S3.loc j y a e1 e2
    ·cases r2 with
     | next=>exact .next
     | brk=>exact .brk
     | ret q=>exact .ret (q.mono X3.solid)
   ·cases e
  ·cases e
 ·cases e
noncomputable def mH (is : List Nat) (l : Loc → Mo ae) : Loc → Mo (Fl × Loc):=fun loc=>bnd (l loc) fun a M=>match cA a M with
 | some vs=>if vs.length = is.length then some ((.next,(is.zip vs).foldl (fun loc p=>loc.set p.1 (some p.2)) loc),M) else none
 | none=>none
inductive pT (sg : Sg) : List Nat → List Expr → Prop
 | nil : pT sg [] []
 | cons {i : Nat} {x : Str} {p : Pos} {is : List Nat} {es : List Expr} : sg.names[i]? = some x → pT sg is es → pT sg (i :: is) (.Name x p :: es)
theorem pT.length {is : List Nat} {es : List Expr} (t : pT sg is es) (env : Env) : (assignEach es env).length = is.length:=by
 induction t with
 | nil=>rfl
 | cons h t ih=>exact congrArg (· + 1) ih
theorem pT.plain {is : List Nat} {es : List Expr} (t : pT sg is es) (env : Env) : (assignEach es env).findIdx? (·.1) = none:=by
 induction t with
 | nil=>rfl
 | cons h t ih=>refine (List.findIdx?_cons ..).trans ?_; rw [ih]; rfl
theorem w7 {is : List Nat} {es : List Expr} (t : pT sg is es) {Φ : Frm} (hΦ : Φ.OfS sg) {A : Around} {E : Value → Shared → Prop} : ∀ {s : Shared} {G : Gh} {mm : Str → Option Value} {loc : Loc} {M : List ah} {xs : List Value} {vs : List ae} {Q : Unit → Shared → Prop},St prog w B Φ s.heap G mm loc M → bf s.heap G xs vs → vs.length = is.length →
  (∀ h' tk' mm',St prog w B Φ h' G mm' ((is.zip vs).foldl (fun loc p=>loc.set p.1 (some p.2)) loc) M → Ext s.heap G h' G → Q () { s with heap:=h',toks:=tk' }) → wpAny (model prog w) A (assignInOrder ((assignEach es Φ.env).map (·.2)) xs) Q E s:=by
 induction t with
 | nil=>
  intro s G mm loc M xs vs Q S q hl h
  cases q with
  | nil=>exact wpAny_assignInOrder_none (h s.heap s.toks mm S (Ext.refl _ _))
  | cons _ _=>simp at hl
 | @cons i x p is es hi t ih=>
  intro s G mm loc M xs vs Q S q hl h
  cases q with
  | nil=>simp at hl
  | cons r rs=>
   refine wpAny_assignInOrder_more ?_
   refine wpAny_assign_Name (iG hΦ hi S r fun h1 tk1 mm1 S1 X1=>?_)
   refine ih S1 (rs.mono X1.solid) (by simpa using hl) fun h2 tk2 mm2 S2 X2=>?_
   exact h h2 tk2 mm2 S2 (X1.trans X2)
theorem zS {is : List Nat} {es : List Expr} {k : Nat} {tp pos : Pos} {el : Expr} {l : Loc → Mo ae} (t : pT sg is es) (hl : bT prog w B b sg el l)
  (hs : ∀ env,swapsWithSole [.Tuple es k tp] el pos.line env = pure false:=by intro _; rfl) (hw : ∀ env,swappedStores [.Tuple es k tp] el env = pure none:=by intro _; rfl) : ig prog w B b sg (.Assign [.Tuple es k tp] el pos) (mH is l):=by
 intro A Φ s G mm loc M r loc' M' R hΦ S e Q E h
 obtain ⟨a,M1,e1,e⟩:=aL e
 split at e
 ·rename_i hv
  split at e
  ·rename_i hlen
   cases e
   refine Assign_Tuple ?_ (hs _) (hw _)
   refine hl A Φ s G mm _ M a _ R hΦ.1 S e1 _ _ fun h1 tk1 G1 x S1 X1 r1=>?_
   obtain ⟨ad,items,rfl,hli,q⟩:=fP S1.core r1 hv
   rw [assign_Tuple]
   refine wpAny_bind (wpAny_standAt ?_)
   unfold unpack
   rw [t.plain,t.length]
   have hn : is.length = (List.toArray items).size:=by rw [List.size_toArray,q.length,hlen]
   rw [hn]
   refine wpAny_bind (wpAny_holding (kun_itemsOf R.hd hli fun h2 he=>?_))
   have keep : ∀ b o,h1.get? b = some o → h2.get? b = some o:=fun b o e=>he b o (Nat.ne_of_lt (Heap.lt_size e)) e
   obtain ⟨S2,X2⟩:=S1.extend keep
   refine w7 t hΦ (s:={ s with heap:=h2,toks:=tk1 }) S2 (q.mono X2.solid) hlen fun h3 tk3 mm3 S3 X3=>?_
   exact h h3 tk3 G1 mm3 _ S3 (X1.trans (X2.trans X3)) .next
  ·cases e
 ·cases e
end
end Mine
end
section
namespace Mine
section
variable {prog : Program} {w : World} {B : Heap} {b : Nat} {sg : Sg} {K : Frag} {p : Program} {loose : List Str} {mg mb : Str → Option Value}
noncomputable def jg (i : Nat) (l : Loc → Mo ae) (m : Loc → Mo (Fl × Loc)) : Loc → Mo (Fl × Loc):=fun loc=>bnd (l loc) fun a=>match a with
 | .lst vs=>dY i m vs.reverse loc
 | _=>dK
theorem y9 (Γ : Gl K B p loose mg mb) {i : Nat} {x : Str} {xp fp cp pos : Pos} {el : Expr} {body : List Stmt} {l : Loc → Mo ae} {m : Loc → Mo (Fl × Loc)} (hi : sg.names[i]? = some x) (hx : nsIn K mainGlobals "reversed" = some none) (hl : bT prog w B b sg el l) (hb : cz prog w B b sg body m)
  (hsc : sg.scope.names.lookup ("reversed" : Str) = some .globalImplicit:=by rfl)
  (hs : ∀ env x,foldedSetIterable (.Call (.Name "reversed" fp) [el] [] cp) env x = pure x:=by intro _ _; rfl)
  (he : ∀ env,starEach [el] env = (false,eval el env) :: starEach [] env:=by intro _; rfl) : ig prog w B b sg (.For (.Name x xp) (.Call (.Name "reversed" fp) [el] [] cp) body [] pos) (jg i l m):=by
 intro A Φ s G mm loc M r loc' M' R hΦ S e Q E h
 obtain ⟨a,M1,e1,e⟩:=aL e
 refine wpAny_For ?_ (hs _)
 refine Call_ ?_
 refine x4 Γ S hΦ.1 hx boot_reversed (by decide) ?_ hsc (by decide)
 refine PyProof.Rows.callWith_type1 ?_ (he _) rfl
 refine (aa hl ak he) A Φ cp s G mm loc M [a] M1 R hΦ.1 S (by unfold ab; rw [qf e1]; rfl) _ _ fun h1 tk1 G1 xs S1 X1 r1=>?_
 cases r1 with
 | cons r1 r2=>
  cases r2
  cases r1 with
  | @lst ad items vs k p rs=>
   refine call_reversed_list p ?_
   refine wpAny_pyIter_revIter ⟨_,Heap.get?_push_size _ rfl,rfl,rfl⟩ ?_
   have f:=S1.core.free
   have S2:=S1.push (revObj ad (((List.toArray items).size : Int) - 1)) .below
   have X2:=Ext.start (o:=revObj ad (((List.toArray items).size : Int) - 1)) (t:=.below) f
   refine nJ (vK h1.objs.size) hi hb (s:={ s with heap:=_,toks:=tk1 }) (G₀:=G1) (s₀:=h1) R hΦ S2 (Gh.put_same ..) (by rw [f]; rfl) X2 ⟨_,_,items.length,X2.solid.tag _ k,Nat.le_refl _,⟨_,Heap.get?_push_size _ rfl,rfl,?_⟩,p.push _,?_⟩ e fun h3 tk3 G3 mm3 fl S3 X3 r3=>?_
   ·show Data.fields #[.ref ad,rawInt (((List.toArray items).size : Int) - 1)] = _
    rw [List.size_toArray]; rfl
   ·rw [List.take_of_length_le (Nat.le_refl _)]
    exact (rs.mono X2.solid).reverse
   ·exact h h3 tk3 G3 mm3 fl S3 (X1.trans X3) r3
  | _=>cases e
noncomputable def kI (cells : List (Str × Addr)) : List (Str × NameKind) → List (Str × Addr) → List (Str × Addr)
 | [],acc=>acc
 | (n,k) :: r,acc=>if k == .free then kI cells r ((n,(cells.lookup n).getD 0) :: acc) else kI cells r acc
theorem oa {env : Env} : ∀ (names : List (Str × NameKind)) (acc : List (Str × Addr)),(∀ n,(n,NameKind.free) ∈ names → (env.cells.lookup n).isSome = true) →
  (forIn names acc fun (x : Str × NameKind) (cs : List (Str × Addr))=>(do
   if x.2 == .free then do
    let a ← cellOf env x.1
    pure (ForInStep.yield ((x.1,a) :: cs))
   else pure (ForInStep.yield cs) : Sem (ForInStep (List (Str × Addr))))) = pure (kI env.cells names acc)
 | [],acc,_=>by rw [List.forIn_nil]; rfl
 | (n,k) :: r,acc,h=>by
  rw [List.forIn_cons]
  unfold kI
  have ih:=fun acc=>oa (env:=env) r acc fun n hn=>h n (List.mem_cons_of_mem _ hn)
  by_cases hk : (k == NameKind.free) = true
  ·rw [if_pos hk,if_pos hk]
   obtain ⟨c,hc⟩:=Option.isSome_iff_exists.mp (h n (by rw [← eq_of_beq hk]; exact List.mem_cons_self))
   have : cellOf env n = pure c:=by unfold cellOf; rw [hc]
   rw [this,hc]
   simp only [pure_bind,Option.getD_some]
   exact ih _
  ·rw [if_neg hk,if_neg hk]
   simp only [pure_bind]
   exact ih _
theorem rk {scope : Scope} {env : Env} (h : ∀ n,(n,NameKind.free) ∈ scope.names → (env.cells.lookup n).isSome = true) : closureFor scope env = pure (kI env.cells scope.names []):=by
 have:=oa (env:=env) scope.names [] h
 unfold closureFor
 simp only [bind_pure]
 exact this
theorem iZ {cells : List (Str × Addr)} : ∀ {names : List (Str × NameKind)} {acc : List (Str × Addr)} {n : Str} {c : Addr},(∀ n,(n,NameKind.free) ∈ names → (cells.lookup n).isSome = true) → (∀ n c,acc.lookup n = some c → cells.lookup n = some c) → (kI cells names acc).lookup n = some c → cells.lookup n = some c
 | [],acc,n,c,_,ha,e=>ha n c e
 | (m,k) :: r,acc,n,c,h,ha,e=>by
  unfold kI at e
  have h' : ∀ n,(n,NameKind.free) ∈ r → (cells.lookup n).isSome = true:=fun n hn=>h n (List.mem_cons_of_mem _ hn)
  split at e
  ·rename_i hk
   refine iZ h' (fun n c e=>?_) e
   rw [List.lookup_cons] at e
   cases hb : n == m with
   | true=>
    rw [hb] at e; cases e
    obtain ⟨c,hc⟩:=Option.isSome_iff_exists.mp (h m (by rw [← eq_of_beq hk]; exact List.mem_cons_self))
    rw [eq_of_beq hb,hc]; rfl
   | false=>rw [hb] at e; exact ha n c e
  ·exact iZ h' ha e
theorem i9 {cells : List (Str × Addr)} {n : Str} : ∀ {names : List (Str × NameKind)} {acc : List (Str × Addr)},((n,NameKind.free) ∈ names ∨ (acc.lookup n).isSome = true) → ((kI cells names acc).lookup n).isSome = true
 | [],acc,h=>by rcases h with h | h; cases h; exact h
 | (m,k) :: r,acc,h=>by
  unfold kI
  by_cases hk : (k == NameKind.free) = true
  ·rw [if_pos hk]
   refine i9 ?_
   rcases h with h | h
   ·rcases List.mem_cons.mp h with e | h
    ·cases e; right; simp
    ·exact .inl h
   ·right
    rw [List.lookup_cons]
    cases n == m <;> first | rfl | exact h
  ·rw [if_neg hk]
   refine i9 ?_
   rcases h with h | h
   ·rcases List.mem_cons.mp h with e | h
    ·cases e; exact absurd rfl hk
    ·exact .inl h
   ·exact .inr h
noncomputable def dn (scope outer : Scope) : Scope:={ scope with names:=scope.names.map fun (n,k)=>if (k == .free && outer.kind == .function && outer.names.lookup n == some .cell) then (n,.cell) else (n,k) }
theorem nR (scope : Scope) (env : Env) : relabel scope env = dn scope env.scope:=rfl
structure pC (sg : Sg) (cs : Scope) (x : Str) (fr : List (Nat × Str)) : Prop where
 kind : cs.kind = .function
 cell : ∀ y ∈ cs.names,y.2 ≠ .cell
 locs : ∀ y ∈ cs.names,y.2 = .local → cs.names.lookup y.1 = some .local
 xl : cs.names.lookup x = some .local
 nd : (x :: fr.map (·.2)).Nodup
 free : ∀ n,(n,NameKind.free) ∈ cs.names → n ∈ fr.map (·.2)
 outer : ∀ q ∈ fr,sg.names[q.1]? = some q.2 ∧ sg.scope.names.lookup q.2 = some .cell ∧ (dn cs sg.scope).names.lookup q.2 = some .cell ∧ (q.2,NameKind.free) ∈ cs.names
noncomputable def wP (sg : Sg) (cs : Scope) (x : Str) (fr : List (Nat × Str)) : Bool:=
 (cs.kind == .function) && cs.names.all (fun y=>y.2 != .cell) && cs.names.all (fun y=>y.2 != .local || cs.names.lookup y.1 == some .local) && (cs.names.lookup x == some .local) && decide (x :: fr.map (·.2)).Nodup
 && cs.names.all (fun y=>y.2 != .free || (fr.map (·.2)).contains y.1) && fr.all (fun q=>sg.names[q.1]? == some q.2 && sg.scope.names.lookup q.2 == some .cell && (dn cs sg.scope).names.lookup q.2 == some .cell && cs.names.contains (q.2,NameKind.free))
theorem kn {sg : Sg} {cs : Scope} {x : Str} {fr : List (Nat × Str)} (h : wP sg cs x fr = true) : pC sg cs x fr:=by
 unfold wP at h
 simp only [Bool.and_eq_true,List.all_eq_true,beq_iff_eq,bne_iff_ne,ne_eq,Bool.or_eq_true,decide_eq_true_eq,List.contains_iff_mem] at h
 obtain ⟨⟨⟨⟨⟨⟨h1,h2⟩,h3⟩,h4⟩,h5⟩,h6⟩,h7⟩:=h
 refine ⟨h1,h2,fun y hy hl=>(h3 y hy).resolve_left fun z=>z hl,h4,h5,fun n hn=>(h6 _ hn).resolve_left fun z=>z rfl,fun q hq=>?_⟩
 obtain ⟨⟨⟨a,b⟩,c⟩,d⟩:=h7 q hq
 exact ⟨a,b,c,d⟩
noncomputable def eF (t : Loc → Mo Bool) (m : Loc → Mo ae) (free : Loc) : List ae → List ae → Mo (List ae)
 | [],acc=>ret acc
 | a :: as,acc=>bnd (t (some a :: free)) fun ok=>if ok then bnd (m (some a :: free)) fun v=>eF t m free as (acc ++ [v]) else eF t m free as acc
noncomputable def vC : Loc → Mo Bool:=fun _=>ret true
noncomputable def vG (prog : Program) (w : World) (B : Heap) (b : Nat) (sg : Sg) (ifs : List Expr) (m : Loc → Mo Bool) : Prop:=
 ∀ (A : Around) (Φ : Frm) (s : Shared) (G : Gh) (mm : Str → Option Value) (loc : Loc) (M : List ah) (r : Bool) (M' : List ah),
  eV A b → Φ.Of sg → St prog w B Φ s.heap G mm loc M → m loc M = some (r,M') →
  ∀ (Q : Bool → Shared → Prop) (E : Value → Shared → Prop),
   (∀ h' tk' G',St prog w B Φ h' G' mm loc M' → Ext s.heap G h' G' → Q r { s with heap:=h',toks:=tk' }) →
   wpAny (model prog w) A (forIn ifs true fun c r=>if r = true then do let ok ← isTrue c Φ.env (eval c Φ.env); pure (ForInStep.yield ok) else pure (ForInStep.yield r)) Q E s
theorem Db : vG prog w B b sg [] vC:=by
 intro A Φ s G mm loc M r M' R hΦ S e Q E h
 cases e
 exact wpAny_tests_nil (h s.heap s.toks G S (Ext.refl _ _))
theorem C8 {ct : Expr} {t : Loc → Mo Bool} (ht : k8 prog w B b sg ct t) : vG prog w B b sg [ct] t:=by
 intro A Φ s G mm loc M r M' R hΦ S e Q E h
 exact wpAny_tests_one (ht A Φ s G mm loc M r M' R hΦ S e Q E h)
theorem E1 {items : List Value} {v : Value} {n : Nat} : (listOf ((List.toArray items).push v) (n + 1)) = listOf (List.toArray (items ++ [v])) (n + 1):=by rw [List.push_toArray]
theorem bf.snoc {h : Heap} {G : Gh} {v : List Value} {a : List ae} {x : Value} {y : ae} (q : bf h G v a) (r : bO h G x y) : bf h G (v ++ [x]) (a ++ [y]):=q.append (.cons r .nil)
theorem St.compExt {Φ : Frm} {h h' : Heap} {G : Gh} {mm : Str → Option Value} {loc : Loc} {M : List ah} {q : Addr} (S : St prog w B Φ h G mm loc M) (tq : G.tag q = .below) (nc : ∀ v,¬ h.IsCell q v) (hs : Heap.SameBut q h h') (hlv : ∃ o,h'.get? q = some o) : St prog w B Φ h' G mm loc M:=S.iter_step tq nc hs hlv
inductive EN (prog : Program) (w : World) (B : Heap) (Φ : Frm) (it D : Addr) (P : Heap → Gh → List ae → Prop) (s : Shared) (s₀ : Heap) (G₀ : Gh) (t : Loc → Mo Bool) (m : Loc → Mo ae) (free : Loc) (N : Nat) (o : List ae × List ah) (k : Nat) (s' : Shared) : Prop
 | mk (h' : Heap) (tk' : Nat) (G' : Gh) (mm' : Str → Option Value) (loc1 : Loc) (M1 : List ah) (as1 : List ae) (items : List Value) (acc : List ae) (n1 : Nat) (es : s' = { s with heap:=h',toks:=tk' }) (ek : k = as1.length) (S : St prog w B Φ h' G' mm' loc1 M1) (hl : ∃ z,loc1 = z :: free) (ti : G'.tag it = .below) (tD : G'.tag D = .below) (X : Ext s₀ G₀ h' G') (p : P h' G' as1) (oD : h'.get? D = some (listOf (List.toArray items) n1)) (q : bf h' G' items acc) (hn : acc.length + as1.length ≤ N) (e : eF t m free as1 acc M1 = some o)
theorem xd {it D : Addr} {P : Heap → Gh → List ae → Prop} (hP : k7 prog w it P) {x : Str} {px : Pos} {ifs : List Expr} {elt iter : Expr} {scope : Scope} {pos : Pos} {t : Loc → Mo Bool} {m : Loc → Mo ae} {sgc : Sg}
  (ht : vG prog w B b sgc ifs t) (hm : bT prog w B b sgc elt m) (hx : sgc.names[0]? = some x)
  {A : Around} {Φ : Frm} {s₀ : Heap} {s : Shared} {G₀ G : Gh} {mm : Str → Option Value} {loc free : Loc} {M M' : List ah} {as : List ae} {r : List ae} {n : Nat} (R : eV A b) (hΦ : Φ.Of sgc) (S : St prog w B Φ s.heap G mm loc M) (hloc : ∃ z,loc = z :: free)
  (hxl : Φ.env.kindOf x = some .local) (tD : G.tag D = .below) (hDi : D ≠ it) (tD0 : (G₀.tag D).kept = false) (oD : s.heap.get? D = some (listOf #[] n))
  (ti : G.tag it = .below) (t0 : (G₀.tag it).kept = false) (X0 : Ext s₀ G₀ s.heap G) (p : P s.heap G as) (e : eF t m free as [] M = some (r,M')) (hsm : bV as.length = true) {Rs : Result → Shared → Prop}
  (h : ∀ h' tk' G' mm' loc' items k,St prog w B Φ h' G' mm' loc' M' → Ext s₀ G₀ h' G' → G'.tag D = .below → h'.get? D = some (listOf (List.toArray items) k) → bf h' G' items r → Rs (.ok .next) { s with heap:=h',toks:=tk' }) :
  codeAny (model prog w) A (.compLoop (.ListComp elt [⟨.Name x px,iter,ifs,0⟩] scope pos) 0 (.ref it) (.ref D) Φ.env) Rs s:=by
 refine codeAny_compLoop_tests (EN prog w B Φ it D P s s₀ G₀ t m free as.length (r,M'))
  (fun k s' hI=>?_) as.length ⟨s.heap,s.toks,G,mm,loc,M,as,[],[],n,rfl,rfl,S,hloc,ti,tD,X0,p,oD,.nil,by simp,e⟩
 clear S hloc tD oD ti X0 p e
 obtain ⟨h',tk',G',mm',loc1,M1,as1,items,acc,n1,rfl,rfl,S1,⟨z1,hz1⟩,ti1,tD1,X1,p1,oD1,q1,hle,e⟩:=hI
 have hi' : Φ.names[0]? = some x:=by rw [hΦ.2]; exact hx
 cases as1 with
 | nil=>
  cases e
  refine hP.done A _ G' R.hd p1 _ _ fun h2 hs=>?_
  have S2:=S1.iter_end ti1 (hP.nocell _ _ _ p1) hs
  have nit : ∀ a,(G'.tag a).solid = true → a ≠ it:=fun a k y=>by rw [y,ti1] at k; cases k
  have sol : eN h' G' h2 (G'.put it .free):=⟨fun a k=>by rw [Gh.put_ne _ _ (nit a k)]; exact k,fun a o k e=>hs a o (nit a k) e,List.prefix_refl _⟩
  exact h h2 tk' _ mm' _ items n1 S2 ((X1.past t0 hs).past_free t0) (by rw [Gh.put_ne _ _ hDi]; exact tD1) (hs D _ hDi oD1) (q1.mono sol)
 | cons a as1=>
  obtain ⟨ok,M2,e1,e2⟩:=aL e
  refine hP.next A _ G' a as1 ti1 p1 _ _ fun h2 tk2 v hs p2 r2=>?_
  have S2:=S1.iter_step ti1 (hP.nocell _ _ _ p1) hs (hP.live _ _ _ p2)
  have X2:=X1.past t0 hs.extBut
  have oD2 : h2.get? D = some (listOf (List.toArray items) n1):=(hs.2 D hDi).trans oD1
  have q2:=q1.mono (hA ti1 hs)
  have hp : (Φ.env.scope.kind == .class || (Φ.env.scope.kind == .module && Φ.env.locals != Φ.env.globals)) = false:=by
   have : Φ.env.scope.kind = .function:=S1.ok.kind
   rw [this]; rfl
  refine wpAny_assign_Name (wpAny_storeName_local hxl S2.ns (fun h3 hn3 hs3=>?_) hp)
  obtain ⟨S3,X3⟩:=S2.store hi' hxl r2 hn3 hs3
  have p3:=hP.keep _ _ _ _ _ ti1 p2 X3
  have hset : loc1.set 0 (some a) = some a :: free:=by rw [hz1]; rfl
  rw [hset] at S3
  refine ht A Φ { s with heap:=h3,toks:=_ } G' _ _ M1 ok M2 R hΦ S3 e1 _ _ fun h4 tk4 G4 S4 X4=>?_
  have X34:=X3.trans X4
  have ti4 : G4.tag it = .below:=by rw [X34.tag it (by rw [ti1]; rfl)]; exact ti1
  have tD4 : G4.tag D = .below:=by rw [X34.tag D (by rw [tD1]; rfl)]; exact tD1
  have oD4 : h4.get? D = some (listOf (List.toArray items) n1):=X34.obj D _ (by rw [tD1]; rfl) oD2
  have p4:=hP.keep _ _ _ _ _ ti1 p3 X4
  have q4:=q2.mono X34.solid
  cases ok with
  | false=>
   rw [if_neg (by decide)] at e2 ⊢
   exact ⟨as1.length,Nat.lt_succ_self _,h4,tk4,G4,_,_,M2,as1,items,acc,n1,rfl,rfl,S4,⟨_,rfl⟩,ti4,tD4,X2.trans X34,p4,oD4,q4,by simp at hle ⊢; exact Kx hle,e2⟩
  | true=>
   rw [if_pos rfl] at e2 ⊢
   obtain ⟨v',M3,e3,e4⟩:=aL e2
   refine hm A Φ { s with heap:=h4,toks:=tk4 } G4 _ _ M2 v' M3 R hΦ S4 e3 _ _ fun h5 tk5 G5 y S5 X5 r5=>?_
   have ti5 : G5.tag it = .below:=by rw [X5.tag it (by rw [ti4]; rfl)]; exact ti4
   have tD5 : G5.tag D = .below:=by rw [X5.tag D (by rw [tD4]; rfl)]; exact tD4
   have oD5 : h5.get? D = some (listOf (List.toArray items) n1):=X5.obj D _ (by rw [tD4]; rfl) oD4
   have p5:=hP.keep _ _ _ _ _ ti4 p4 X5
   have q5:=q4.mono X5.solid
   refine append_at oD5 (fun h6 hs6 oD6=>?_) (by rw [List.size_toArray,q5.length]; exact Nat.le_trans (Nat.le_trans (Nat.le_add_right _ _) hle) (b7 hsm))
   have nc : ∀ v,¬ h5.IsCell D v:=fun v ⟨o,eo,d⟩=>by rw [oD5] at eo; cases eo; cases d
   have S6:=S5.iter_step tD5 nc hs6 ⟨_,oD6⟩
   have sol:=hA tD5 hs6
   have X6 : Ext s₀ G₀ h6 G5:=((X2.trans X34).trans X5).past tD0 hs6.extBut
   rw [List.push_toArray] at oD6
   exact ⟨as1.length,Nat.lt_succ_self _,h6,tk5,G5,_,_,M3,as1,items ++ [y],acc ++ [v'],n1 + 1,rfl,rfl,S6,⟨_,rfl⟩,ti5,tD5,X6,hP.keepBut _ _ _ _ _ (by rw [tD5]; rfl) hDi p5 hs6,oD6,(q5.mono sol).snoc (r5.mono sol),by simp at hle ⊢; exact IK hle,e4⟩
end
end Mine
end
section
namespace Mine
section
variable {prog : Program} {w : World} {B : Heap} {b : Nat} {sg : Sg} {K : Frag} {p : Program} {loose : List Str} {mg mb : Str → Option Value}
theorem St.turnFree {Φ : Frm} {h h' : Heap} {G : Gh} {mm : Str → Option Value} {loc : Loc} {M : List ah} {q : Addr} (S : St prog w B Φ h G mm loc M) (tq : G.tag q = .free) (hs : Heap.SameBut q h h') : St prog w B Φ h' G mm loc M ∧ Ext h G h' G:=by
 have ne : ∀ a,G.tag a ≠ .free → a ≠ q:=fun a k e=>k (e ▸ tq)
 have X : Ext h G h' G:=⟨fun _ _=>rfl,fun a o k e=>(hs.2 a (ne a fun z=>by rw [z] at k; cases k)).trans e,List.prefix_refl _⟩
 refine ⟨S.move ⟨fun b o e=>?_,fun a=>?_,S.core.len,fun i o e=>?_,by rw [hs.1]; exact S.core.size⟩ X.solid fun a pl=>⟨rfl,fun o e=>(hs.2 a (ne a fun z=>?_)).trans e⟩,X⟩
 ·obtain ⟨t,e'⟩:=S.core.base b o e
  exact ⟨t,(hs.2 b (ne b (by rw [t]; exact fun z=>nomatch z))).trans e'⟩
 ·by_cases z : a = q
  ·subst z; exact .inl tq
  ·exact (S.core.live a).imp id fun ⟨o,e⟩=>⟨o,(hs.2 a z).trans e⟩
 ·exact (S.core.muts i o e).mono prog w X.solid fun a t=>⟨t,fun o e=>(hs.2 a (ne a (by rw [t]; exact fun z=>nomatch z))).trans e⟩
 ·rcases S.place pl with y | y <;> rw [y] at z <;> cases z
noncomputable def rJ (prog : Program) (w : World) (B : Heap) (Φ : Frm) (mm : Str → Option Value) (loc : Loc) (h1 : Heap) (G1 : Gh) (vs : List ae) (M' : List ah) (D C : Addr) (h' : Heap) : Prop:=
 ∃ G',St prog w B Φ h' G' mm loc (M' ++ [.lst vs]) ∧ Ext h1 G1 h' G' ∧ bO h' G' (.ref D) (.mref M'.length) ∧ G'.tag C = .free ∧ (∃ m,h'.Ns C m) ∧ C ≠ Φ.L
theorem n5 {oi : Obj} {P : Heap → Gh → List ae → Prop} {x : Str} {px : Pos} {ifs : List Expr} {elt iter : Expr} {cs : Scope} {pos : Pos} {fr : List (Nat × Str)} {t : Loc → Mo Bool} {m : Loc → Mo ae}
  (ok : pC sg cs x fr) (ht : vG prog w B b ⟨dn cs sg.scope,x :: fr.map (·.2)⟩ ifs t) (hm : bT prog w B b ⟨dn cs sg.scope,x :: fr.map (·.2)⟩ elt m)
  {A : Around} {Φ : Frm} {s : Shared} {h1 : Heap} {G1 : Gh} {mm : Str → Option Value} {loc : Loc} {M M' : List ah} {as : List ae} {vs : List ae} (R : eV A b) (hΦ : Φ.Of sg) (S1 : St prog w B Φ h1 G1 mm loc M) (hoi : oi.isFreed = false)
  (hP : k7 prog w h1.objs.size P) (pp : P (h1.push oi) ((Φ.low G1).put h1.objs.size .below) as)
  (hself : ∀ (s' : Shared) (Q E : Value → Shared → Prop),s'.heap.get? h1.objs.size = some oi → Q (.ref h1.objs.size) s' → wpAny (model prog w) A (pyIter (.ref h1.objs.size)) Q E s')
  (e : eF t m (fr.map fun q=>(loc[q.1]?).join) as [] M = some (vs,M')) (hsm : bV as.length = true) {E : Value → Shared → Prop} {RR : Value → Addr → Result → Shared → Prop}
  (hR : ∀ D C h' tk',rJ prog w B Φ mm loc h1 G1 vs M' D C h' → RR (.ref D) C (.ok .next) { s with heap:=h',toks:=tk' }) :
  wpAny (model prog w) A (newList []) (fun acc s₃=>wpAny (model prog w) A (newFunctionEnv cs Φ.env.globals (kI Φ.env.cells cs.names []) [] Φ.env.qual none .none (some Φ.env)) (fun cenv s₄=>
   codeAny (model prog w) A (.compStart (.ListComp elt [⟨.Name x px,iter,ifs,0⟩] cs pos) 0 (.ref h1.objs.size) acc { cenv with scope:=relabel cs Φ.env }) (RR acc cenv.locals) s₄) E s₃) E { s with heap:=h1.push oi }:=by
 have hfree : ∀ n,(n,NameKind.free) ∈ cs.names → (Φ.env.cells.lookup n).isSome = true:=fun n hn=>by
  obtain ⟨q,hq,rfl⟩:=List.mem_map.mp (ok.free n hn)
  obtain ⟨o1,o2,_⟩:=ok.outer q hq
  have hmem : q.2 ∈ Φ.names:=by rw [hΦ.2]; exact List.mem_of_getElem? o1
  rcases S1.ok.kinds q.2 hmem with k | ⟨k,c,hc⟩
  ·have : Φ.env.scope.names.lookup q.2 = some .local:=k
   rw [hΦ.1,o2] at this; cases this
  ·rw [hc]; rfl
 have hcl : ∀ {n : Str} {c : Addr},(kI Φ.env.cells cs.names []).lookup n = some c → Φ.env.cells.lookup n = some c:=fun e=>iZ hfree (fun n c e=>by cases e) e
 refine wpAny_newObj_type (wpAny_newFunctionEnv ok.cell (by intro y hy; simp at hy) (fun h₁ hns₁ hsb₁=>?_) ok.kind)
 dsimp only at hns₁ hsb₁ ⊢
 have c0:=S1.lower
 have c2:=c0.push oi .below hoi
 have sz2 : (h1.push oi).objs.size = h1.objs.size + 1:=Heap.size_push ..
 generalize hH2 : h1.push oi = H2 at hns₁ hsb₁ c2 sz2 pp ⊢
 have c3:=c2.push { cls:=.type "list",data:=.seq ([] : List Value).toArray } .below
 have sz3 : (H2.push { cls:=.type "list",data:=.seq ([] : List Value).toArray }).objs.size = H2.objs.size + 1:=Heap.size_push ..
 have hD : (H2.push { cls:=.type "list",data:=.seq ([] : List Value).toArray }).get? H2.objs.size = some { cls:=.type "list",data:=.seq ([] : List Value).toArray }:=Heap.get?_push_size _ rfl
 have k23 : ∀ a o,H2.get? a = some o → (H2.push { cls:=.type "list",data:=.seq ([] : List Value).toArray }).get? a = some o:=fun a o e=>Heap.get?_push_of_some _ e
 generalize hH3 : H2.push { cls:=.type "list",data:=.seq ([] : List Value).toArray } = H3 at hns₁ hsb₁ c3 sz3 hD k23 ⊢
 let cl:=kI Φ.env.cells cs.names []
 let Φc : Frm:=⟨compEnvC cs cl H3.objs.size Φ.env,x :: fr.map (·.2),[H3.objs.size]⟩
 let G3 : Gh:=(((Φ.low G1).put h1.objs.size .below).put H2.objs.size .below)
 let G4 : Gh:=G3.put H3.objs.size .frame
 have old3 : ∀ a o,H3.get? a = some o → h₁.get? a = some o:=fun a o e=>hsb₁.extBut a o (Nat.ne_of_lt (Heap.lt_size e)) (Heap.get?_push_of_some _ e)
 have liveC : ∃ o,h₁.get? H3.objs.size = some o:=let ⟨o,a1,a2,hL,a3⟩:=hns₁; ⟨o,hL⟩
 have g34 : my H3 G3 h₁ G4:=by
  refine ⟨fun a k=>?_,List.prefix_refl _,?_,fun a=>?_⟩
  ·have hne : a ≠ H3.objs.size:=fun z=>k (z ▸ c3.free)
   exact ⟨G3.put_ne _ hne,fun o e=>old3 a o e⟩
  ·obtain ⟨o,e⟩:=liveC
   exact Nat.le_of_lt (Heap.lt_size e)
  ·by_cases z : a = H3.objs.size
   ·subst z; exact .inr liveC
   ·show (G3.put _ _).tag a = _ ∨ _
    rw [G3.put_ne _ z]
    exact (c3.live a).imp id fun ⟨o,e⟩=>⟨o,old3 a o e⟩
 have c4 : bI prog w B h₁ G4 M:=c3.grow g34 c3.len
 have nI : h1.objs.size < H2.objs.size:=Ii sz2
 have nD : H2.objs.size < H3.objs.size:=Jz sz2 sz3
 have nID:=Nat.lt_trans nI nD
 have tI4 : G4.tag h1.objs.size = .below:=by
  show ((((Φ.low G1).put _ _).put _ _).put _ _).tag _ = _
  rw [Gh.put_ne _ _ (Nat.ne_of_lt (Nat.lt_trans nI nD)),Gh.put_ne _ _ (Nat.ne_of_lt nI),Gh.put_same]
 have tD4 : G4.tag H2.objs.size = .below:=by
  show ((((Φ.low G1).put _ _).put _ _).put _ _).tag _ = _
  rw [Gh.put_ne _ _ (Nat.ne_of_lt nD),Gh.put_same]
 have fr0 : ∀ a,h1.objs.size ≤ a → (Φ.low G1).tag a = .free:=fun a ha=>c0.freeAt ha
 have X04 : Ext h1 (Φ.low G1) h₁ G4:=by
  have ne : ∀ a,((Φ.low G1).tag a).kept = true → a < h1.objs.size:=fun a k=>by
   rcases Nat.lt_or_ge a h1.objs.size with z | z
   ·exact z
   ·rw [fr0 a z] at k; cases k
  refine ⟨fun a k=>?_,fun a o k e=>?_,List.prefix_refl _⟩
  ·have:=ne a k
   show ((((Φ.low G1).put _ _).put _ _).put _ _).tag _ = _
   rw [Gh.put_ne _ _ (Nat.ne_of_lt (Nat.lt_trans this nID)),Gh.put_ne _ _ (Nat.ne_of_lt (Nat.lt_trans this nI)),Gh.put_ne _ _ (Nat.ne_of_lt this)]
  ·exact old3 a o (k23 a o (hH2 ▸ Heap.get?_push_of_some _ e))
 have low4 : ∀ {a : Addr},(Φ.low G1).tag a = .below → G4.tag a = .below:=fun {a} k=>by rw [X04.tag a (by rw [k]; rfl)]; exact k
 have X24 : Ext H2 ((Φ.low G1).put h1.objs.size .below) h₁ G4:=by
  refine ⟨fun a k=>?_,fun a o k e=>old3 a o (k23 a o e),List.prefix_refl _⟩
  have : a < H2.objs.size:=by
   rcases Nat.lt_or_ge a H2.objs.size with z | z
   ·exact z
   ·rw [c2.freeAt z] at k; cases k
  show ((((Φ.low G1).put _ _).put _ _).put _ _).tag _ = _
  rw [Gh.put_ne _ _ (Nat.ne_of_lt (Nat.lt_trans this nD)),Gh.put_ne _ _ (Nat.ne_of_lt this)]
 have hkl : ∀ y,Φc.env.kindOf y = (dn cs sg.scope).names.lookup y:=fun y=>by
  show (relabel cs Φ.env).names.lookup y = _
  rw [nR,hΦ.1]
 have hxl : Φc.env.kindOf x = some .local:=lookup_relabel_local ok.xl
 have okC : Φc.Ok:=by
  refine ⟨ok.kind,S1.ok.glob,S1.ok.blt,ok.nd,fun y hy=>?_,List.mem_singleton.mpr rfl,fun y c ec=>?_,fun y z c e1 e2=>S1.ok.inj y z c (hcl e1) (hcl e2)⟩
  ·rcases List.mem_cons.mp hy with rfl | hy
   ·exact .inl hxl
   ·obtain ⟨q,hq,rfl⟩:=List.mem_map.mp hy
    obtain ⟨o1,o2,o3,o4⟩:=ok.outer q hq
    refine .inr ⟨by rw [hkl]; exact o3,Option.isSome_iff_exists.mp (i9 (.inl o4))⟩
  ·obtain ⟨⟨v,o,eo,_⟩,_⟩:=S1.cell y c (hcl ec)
   have:=Heap.lt_size eo
   exact Nat.ne_of_lt (Nat.lt_trans this nID)
 have Sc : St prog w B Φc h₁ G4 (fun y=>([] : List (Str × Value)).reverse.lookup y) (none :: fr.map fun q=>(loc[q.1]?).join) M:=by
  refine ⟨c4,hns₁,fun a ha=>?_,fun y c ec=>?_,?_,okC,fun i y a e1 e2=>?_⟩
  ·obtain rfl:=List.mem_singleton.mp ha
   exact ⟨Gh.put_same _ _ _,liveC⟩
  ·obtain ⟨⟨v,q⟩,_⟩:=S1.cell y c (hcl ec)
   refine ⟨⟨v,IsCell.at_ q fun o e=>old3 c o (k23 c o (hH2 ▸ Heap.get?_push_of_some _ e))⟩,.inr (low4 (S1.low_place (.inr ⟨y,hcl ec⟩)))⟩
  ·show B.objs.size ≤ H3.objs.size
   exact c3.size
  ·cases i with
   | zero=>simp at e2
   | succ i=>
    rw [List.getElem?_cons_succ] at e1 e2
    rw [List.getElem?_map] at e1 e2
    cases hq : fr[i]? with
    | none=>rw [hq] at e1; cases e1
    | some q=>
     rw [hq] at e1 e2
     simp only [Option.map_some,Option.some.injEq] at e1 e2
     subst e1
     obtain ⟨o1,o2,o3,o4⟩:=ok.outer q (List.mem_of_getElem? hq)
     have e3 : loc[q.1]? = some (some a):=by
      cases z : loc[q.1]? with
      | none=>rw [z] at e2; cases e2
      | some u=>rw [z] at e2; simp at e2; rw [e2]
     obtain ⟨v,hv,r⟩:=S1.loc q.1 q.2 a (by rw [hΦ.2]; exact o1) e3
     refine ⟨v,?_,(S1.lower_val r).mono X04.solid⟩
     rcases hv with ⟨k1,_⟩ | ⟨c,k1,k2,k3⟩
     ·have : Φ.env.scope.names.lookup q.2 = some .local:=k1
      rw [hΦ.1,o2] at this; cases this
     ·obtain ⟨c',hc'⟩:=Option.isSome_iff_exists.mp (i9 (cells:=Φ.env.cells) (acc:=[]) (.inl o4))
      have : c' = c:=by have:=hcl hc'; rw [k2] at this; cases this; rfl
      subst this
      exact .inr ⟨c',by rw [hkl]; exact o3,hc',IsCell.at_ k3 fun o e=>old3 _ o (k23 _ o (hH2 ▸ Heap.get?_push_of_some _ e))⟩
 have hDI : H2.objs.size ≠ h1.objs.size:=Nat.ne_of_gt nI
 have pI:=hP.keep _ _ _ _ _ (by rw [Gh.put_same]) pp X24
 have oI : h₁.get? h1.objs.size = some oi:=old3 _ _ (k23 _ _ (hH2 ▸ Heap.get?_push_size _ hoi))
 have loop : ∀ s₃ : Shared,s₃ = { s with heap:=h₁,toks:=s.toks + ([] : List (Str × Value)).length } →
   codeAny (model prog w) A (.compLoop (.ListComp elt [⟨.Name x px,iter,ifs,0⟩] cs pos) 0 (.ref h1.objs.size) (.ref H2.objs.size) Φc.env) (RR (.ref H2.objs.size) H3.objs.size) s₃:=by
  rintro s₃ rfl
  refine xd (s₀:=h1) (G₀:=Φ.low G1) hP ht hm rfl (s:={ s with heap:=h₁,toks:=s.toks + ([] : List (Str × Value)).length }) R ⟨by show relabel cs Φ.env = _; rw [nR,hΦ.1],rfl⟩ Sc ⟨_,rfl⟩ hxl tD4 hDI (by rw [fr0 _ (Nat.le_of_lt nI)]; rfl) (old3 _ _ hD) tI4 (by rw [fr0 _ (Nat.le_refl _)]; rfl) X04 pI e hsm fun h' tk' G' mm' loc' items k S' X' tD' oD' q'=>?_
  refine hR _ _ h' tk' ?_
  have tC' : G'.tag H3.objs.size = .frame:=(S'.own _ (List.mem_singleton.mpr rfl)).1
  have liveC':=(S'.own _ (List.mem_singleton.mpr rfl)).2
  have c5 : bI prog w B h' (G'.putAll [H3.objs.size] .free) M':=S'.core.retag (t:=.frame) (fun a ha=>by obtain rfl:=List.mem_singleton.mp ha; exact tC') (fun z=>nomatch z) (fun _ z=>nomatch z) rfl (fun a ha=>by obtain rfl:=List.mem_singleton.mp ha; exact liveC')
  let G5 : Gh:=G'.putAll [H3.objs.size] .free
  let G6 : Gh:=G5.add H2.objs.size
  have tD5 : G5.tag H2.objs.size = .below:=by
   show (G'.putAll _ _).tag _ = _
   rw [G'.putAll_out _ (fun z=>Nat.ne_of_lt nD (List.mem_singleton.mp z))]; exact tD'
  have sol56 : eN h' G5 h' G6:=⟨fun a k=>by
   show ((G5.put _ _).tag a).solid = true
   rw [G5.put_ne _ (fun z=>by rw [z,tD5] at k; cases k)]; exact k,fun a o k e=>e,List.prefix_append _ _⟩
  have sol5 : eN h' G' h' G5:=fQ fun a ha=>by obtain rfl:=List.mem_singleton.mp ha; rw [tC']; rfl
  have hr : G6.ρ[M'.length]? = some H2.objs.size:=by rw [← c5.len]; exact G5.add_ρ _
  have hmat : MAt prog w h' G6 M'.length (.lst vs):=⟨H2.objs.size,items,k,hr,by rw [← c5.len]; exact G5.add_tag _,oD',(q'.mono sol5).mono sol56⟩
  have c6 : bI prog w B h' G6 (M' ++ [.lst vs]):=by
   have ne : ∀ a,G5.tag a ≠ .below → a ≠ H2.objs.size:=fun a k z=>k (z ▸ tD5)
   refine ⟨fun b o e=>?_,fun a=>?_,by show (G5.ρ ++ [_]).length = _; rw [List.length_append,c5.len,List.length_append]; rfl,fun i o e=>?_,c5.size⟩
   ·obtain ⟨tb,e'⟩:=c5.base b o e
    exact ⟨by show (G5.put _ _).tag b = _; rw [G5.put_ne _ (ne b (by rw [tb]; exact fun z=>nomatch z))]; exact tb,e'⟩
   ·by_cases z : a = H2.objs.size
    ·subst z; exact .inr ⟨_,oD'⟩
    ·show (G5.put _ _).tag a = _ ∨ _
     rw [G5.put_ne _ z]; exact c5.live a
   ·by_cases hi : i < M'.length
    ·rw [List.getElem?_append_left hi] at e
     exact (c5.muts i o e).mono prog w sol56 fun a ta=>⟨by show (G5.put _ _).tag a = _; rw [G5.put_ne _ (ne a (by rw [ta]; exact fun z=>nomatch z))]; exact ta,fun o e=>e⟩
    ·obtain ⟨hi2,_⟩:=List.getElem?_eq_some_iff.mp e
     rw [List.length_append] at hi2
     have : i = M'.length:=by simp at hi2; exact DB hi hi2
     subst this
     rw [List.getElem?_append_right (Nat.le_refl _),Nat.sub_self] at e
     cases e
     exact hmat
  have X6 : Ext h1 (Φ.low G1) h' G6:=by
   have ne : ∀ a,((Φ.low G1).tag a).kept = true → a < h1.objs.size:=fun a k=>by
    rcases Nat.lt_or_ge a h1.objs.size with z | z
    ·exact z
    ·rw [fr0 a z] at k; cases k
   refine ⟨fun a k=>?_,X'.obj,X'.ρ.trans (List.prefix_append _ _)⟩
   have:=ne a k
   show ((G'.putAll _ _).put _ _).tag a = _
   rw [Gh.put_ne _ _ (Nat.ne_of_lt (Nat.lt_trans this nI)),G'.putAll_out _ (fun z=>Nat.ne_of_lt (Nat.lt_trans this nID) (List.mem_singleton.mp z))]
   exact X'.tag a k
  have nL : ∀ a,Φ.Place a → a < h1.objs.size:=fun a pl=>by
   rcases Nat.lt_or_ge a h1.objs.size with z | z
   ·exact z
   ·have:=S1.low_place pl; rw [fr0 a z] at this; cases this
  have nown : H3.objs.size ∉ Φ.own:=fun z=>Nat.lt_asymm (nL _ (.inl z)) nID
  refine ⟨Φ.high G6,S1.back X6 c6,S1.back_ext X6,.mref hr,?_,⟨_,S'.ns⟩,fun z=>Nat.lt_asymm (nL _ (.inl S1.ok.Lown)) (z ▸ nID)⟩
  show (G6.putAll _ _).tag _ = _
  rw [G6.putAll_out _ nown]
  show ((G'.putAll _ _).put _ _).tag _ = _
  rw [Gh.put_ne _ _ (Nat.ne_of_gt nD)]
  exact G'.putAll_in _ (List.mem_singleton.mpr rfl)
 exact codeAny_compStart_list (loop _ rfl) (hself _ _ _ oI (loop _ rfl))
theorem tF {x : Str} {px : Pos} {ifs : List Expr} {elt iter : Expr} {cs : Scope} {pos : Pos} {fr : List (Nat × Str)} {t : Loc → Mo Bool} {m l : Loc → Mo ae}
  (ok : pC sg cs x fr) (hl : bT prog w B b sg iter l) (ht : vG prog w B b ⟨dn cs sg.scope,x :: fr.map (·.2)⟩ ifs t) (hm : bT prog w B b ⟨dn cs sg.scope,x :: fr.map (·.2)⟩ elt m)
  {A : Around} {Φ : Frm} {s : Shared} {G : Gh} {mm : Str → Option Value} {loc : Loc} {M M1 M' : List ah} {a : ae} {as : List ae} {vs : List ae} (R : eV A b) (hΦ : Φ.Of sg) (S : St prog w B Φ s.heap G mm loc M) (el : l loc M = some (a,M1)) (ea : cV a = some as)
  (e : eF t m (fr.map fun q=>(loc[q.1]?).join) as [] M1 = some (vs,M')) (hsm : bV as.length = true) {E : Value → Shared → Prop} {RR : Value → Addr → Result → Shared → Prop}
  (hR : ∀ D C h' tk' G' ,St prog w B Φ h' G' mm loc (M' ++ [.lst vs]) → Ext s.heap G h' G' → bO h' G' (.ref D) (.mref M'.length) → G'.tag C = .free → (∃ m,h'.Ns C m) → C ≠ Φ.L → RR (.ref D) C (.ok .next) { s with heap:=h',toks:=tk' }) :
  wpAny (model prog w) A (eval iter Φ.env) (fun x₁ s₁=>wpAny (model prog w) A (pyIter x₁) (fun it s₂=>wpAny (model prog w) A (newList []) (fun acc s₃=>
   wpAny (model prog w) A (newFunctionEnv cs Φ.env.globals (kI Φ.env.cells cs.names []) [] Φ.env.qual none .none (some Φ.env)) (fun cenv s₄=>
    codeAny (model prog w) A (.compStart (.ListComp elt [⟨.Name x px,iter,ifs,0⟩] cs pos) 0 it acc { cenv with scope:=relabel cs Φ.env }) (RR acc cenv.locals) s₄) E s₃) E s₂) E s₁) E s:=by
 refine hl A Φ s G mm loc M a M1 R hΦ S el _ _ fun h1 tk1 G1 v S1 X1 r1=>?_
 have lowfree : (Φ.low G1).tag h1.objs.size = .free:=S1.lower.free
 have fin : ∀ D C h' tk',rJ prog w B Φ mm loc h1 G1 vs M' D C h' → RR (.ref D) C (.ok .next) { s with heap:=h',toks:=tk' }:=fun D C h' tk' ⟨G',S',X',r',t',n',ne⟩=>hR D C h' tk' G' S' (X1.trans X') r' t' n' ne
 cases r1 with
 | @lst ad items vs' k pl rs=>
  cases ea
  refine wpAny_pyIter_list pl ?_
  have X2:=Ext.start (o:={ cls:=.type "list_iterator",data:=.fields #[.ref ad,.int 0 0] }) (t:=.below) lowfree
  refine n5 (s:={ s with toks:=tk1 }) (G1:=G1) (h1:=h1) (oi:={ cls:=.type "list_iterator",data:=.fields #[.ref ad,.int 0 0] }) ok ht hm R hΦ S1 rfl (ml _) ⟨ad,items,0,X2.solid.tag _ (S1.low_solid.tag _ k),⟨_,Heap.get?_push_size _ rfl,rfl,rfl⟩,pl.push _,by rw [List.drop_zero]; exact (S1.lower_vals rs).mono X2.solid⟩ ?_ e hsm fin
  intro s' Q E' ho hq
  exact wpAny_pyIter_listiter ⟨_,ho,rfl,rfl⟩ hq
 | @rng ad lo hi' st t' u v' k pl=>
  by_cases hsml : Builtin.Range.small lo hi' st = true
  ·simp only [cV,hsml,if_true] at ea
   cases ea
   refine wpAny_pyIter_range pl hsml ?_
   refine n5 (s:={ s with toks:=tk1 }) (G1:=G1) (h1:=h1) (oi:={ cls:=.type "range_iterator",data:=.fields #[rawInt lo,rawInt (Builtin.Range.rangeSize lo hi' st),rawInt st] }) ok ht hm R hΦ S1 rfl (kN _) ⟨lo,st,(Builtin.Range.rangeSize lo hi' st).toNat,?_,rfl⟩ ?_ e hsm fin
   ·have : Int.ofNat (Builtin.Range.rangeSize lo hi' st).toNat = Builtin.Range.rangeSize lo hi' st:=Int.toNat_of_nonneg (gW ..)
    rw [this]
    exact Heap.get?_push_size _ rfl
   ·intro s' Q E' ho hq
    exact wpAny_pyIter_rangeiter ho hq
  ·simp only [cV,hsml] at ea
   cases ea
 | _=>cases ea
noncomputable def iO (fr : List (Nat × Str)) (l : Loc → Mo ae) (t : Loc → Mo Bool) (m : Loc → Mo ae) : Loc → Mo ae:=fun loc=>bnd (l loc) fun a M=>match cV a with
 | some as=>if bV as.length then bnd (eF t m (fr.map fun q=>(loc[q.1]?).join) as []) rO M else none
 | none=>none
theorem wv {cs : Scope} {x : Str} {fr : List (Nat × Str)} (ok : pC sg cs x fr) {Φ : Frm} {h : Heap} {G : Gh} {mm : Str → Option Value} {loc : Loc} {M : List ah} (S : St prog w B Φ h G mm loc M) (hΦ : Φ.Of sg) : closureFor cs Φ.env = pure (kI Φ.env.cells cs.names []):=by
 refine rk fun n hn=>?_
 obtain ⟨q,hq,rfl⟩:=List.mem_map.mp (ok.free n hn)
 obtain ⟨o1,o2,_⟩:=ok.outer q hq
 have hmem : q.2 ∈ Φ.names:=by rw [hΦ.2]; exact List.mem_of_getElem? o1
 rcases S.ok.kinds q.2 hmem with k | ⟨k,c,hc⟩
 ·have : Φ.env.scope.names.lookup q.2 = some .local:=k
  rw [hΦ.1,o2] at this; cases this
 ·rw [hc]; rfl
theorem ue {x : Str} {px : Pos} {ifs : List Expr} {elt iter : Expr} {cs : Scope} {pos : Pos} {fr : List (Nat × Str)} {t : Loc → Mo Bool} {m l : Loc → Mo ae}
  (ok : pC sg cs x fr) (hl : bT prog w B b sg iter l) (ht : vG prog w B b ⟨dn cs sg.scope,x :: fr.map (·.2)⟩ ifs t) (hm : bT prog w B b ⟨dn cs sg.scope,x :: fr.map (·.2)⟩ elt m)
  (hs : ∀ env x,foldedSetIterable iter env x = pure x:=by intro _ _; rfl) : bT prog w B b sg (.ListComp elt [⟨.Name x px,iter,ifs,0⟩] cs pos) (iO fr l t m):=by
 intro A Φ s G mm loc M r M' R hΦ S e Q E h
 obtain ⟨a,M1,e1,e⟩:=aL e
 split at e
 ·rename_i has
  split at e
  ·rename_i hsm
   obtain ⟨vs,M2,e2,e⟩:=aL e
   obtain ⟨rfl,rfl⟩:=dS e
   rw [eval_ListComp]
   refine wpAny_comprehension_free (use:=none) rfl (hs _) (wv ok S hΦ) ok.kind ok.locs (tF (RR:=fun acc C=>compPost (model prog w) A E none Q acc C) ok hl ht hm R hΦ S e1 has e2 hsm fun D C h' tk' G' S' X' r' t' n' ne=>?_)
   obtain ⟨m',n'⟩:=n'
   refine ⟨m',n',fun h2 hs2=>?_⟩
   obtain ⟨S2,X2⟩:=S'.turnFree t' hs2
   exact h h2 tk' G' _ S2 (X'.trans X2) (r'.mono X2.solid)
  ·cases e
 ·cases e
theorem qb {i : Nat} {x y : Str} {px py : Pos} {ifs : List Expr} {elt iter : Expr} {cs : Scope} {pos spos : Pos} {fr : List (Nat × Str)} {t : Loc → Mo Bool} {m l : Loc → Mo ae}
  (hi : sg.names[i]? = some y) (hyl : sg.scope.names.lookup y = some .local) (ok : pC sg cs x fr) (hl : bT prog w B b sg iter l) (ht : vG prog w B b ⟨dn cs sg.scope,x :: fr.map (·.2)⟩ ifs t) (hm : bT prog w B b ⟨dn cs sg.scope,x :: fr.map (·.2)⟩ elt m)
  (hline : (py.line == pos.line) = true) (hno : (cs.names.any fun q=>q.1 == y && (q.2 == .local || q.2 == .cell)) = false)
  (hs : ∀ env x,foldedSetIterable iter env x = pure x:=by intro _ _; rfl) : ig prog w B b sg (.Assign [.Name y py] (.ListComp elt [⟨.Name x px,iter,ifs,0⟩] cs pos) spos) (a7 i (iO fr l t m)):=by
 intro A Φ s G mm loc M r loc' M' R hΦ S e Q E h
 obtain ⟨v,M0,e,e9⟩:=aL e
 cases e9
 obtain ⟨a,M1,e1,e⟩:=aL e
 split at e
 ·rename_i has
  split at e
  ·rename_i hsm
   obtain ⟨vs,M2,e2,e⟩:=aL e
   obtain ⟨rfl,rfl⟩:=dS e
   have hy : Φ.env.kindOf y = some .local:=by show Φ.env.scope.names.lookup y = _; rw [hΦ.1.1]; exact hyl
   have hsw : swapsWith (.ListComp elt [⟨.Name x px,iter,ifs,0⟩] cs pos) (some (.Name y py)) spos.line Φ.env = pure true:=by
    show (pure (Φ.env.blockKind == .function && Φ.env.kindOf y == some .local && py.line == pos.line && !(cs.names.any fun (n,k)=>n == y && (k == .local || k == .cell))) : Sem Bool) = pure true
    have hb : Φ.env.blockKind = .function:=by
     unfold Env.blockKind
     rw [S.ok.kind]; rfl
    rw [hb,hy,hline]
    have : (cs.names.any fun (n,k)=>n == y && (k == .local || k == .cell)) = false:=hno
    rw [this]; rfl
   rw [exec_Assign_Name_used _ _ _ _ hsw]
   refine wpAny_bind (wpAny_standAt (wpAny_bind ?_))
   show wpAny _ A (do let _ ← comprehension (.ListComp elt [⟨.Name x px,iter,ifs,0⟩] cs pos) cs Φ.env _ (newList []) false (eval iter Φ.env) (some (assign (.Name y py) Φ.env))) _ _ s
   refine wpAny_bind (wpAny_mono (wpAny_comprehension_free (use:=some (assign (.Name y py) Φ.env)) (Q:=fun _ s'=>Q .next s') rfl (hs _) (wv ok S hΦ.1) ok.kind ok.locs
    (tF (RR:=fun acc C=>compPost (model prog w) A E (some (assign (.Name y py) Φ.env)) (fun _ s'=>Q .next s') acc C) ok hl ht hm R hΦ.1 S e1 has e2 hsm fun D C h' tk' G' S' X' r' t' n' ne=>?_)) (fun _ s' hq=>wpAny_pure (wpAny_pure hq)) fun _ _ e=>e)
   obtain ⟨m',n'⟩:=n'
   have hp : (Φ.env.scope.kind == .class || (Φ.env.scope.kind == .module && Φ.env.locals != Φ.env.globals)) = false:=by
    have : Φ.env.scope.kind = .function:=S.ok.kind
    rw [this]; rfl
   show wpAny _ A (assign (.Name y py) Φ.env (.ref D)) _ _ _
   refine wpAny_assign_Name (wpAny_storeName_local hy S'.ns (fun h2 hn2 hs2=>?_) hp)
   obtain ⟨S2,X2⟩:=S'.store (by rw [hΦ.1.2]; exact hi) hy r' hn2 hs2
   refine ⟨m',Ns.at_ n' fun o e=>(hs2.2 C ne).trans e,fun h3 hs3=>?_⟩
   obtain ⟨S3,X3⟩:=S2.turnFree t' hs3
   exact h h3 _ G' _ _ S3 (X'.trans (X2.trans X3)) .next
  ·cases e
 ·cases e
end
end Mine
end
section
namespace Mine
noncomputable def fx : Bool → Keyed → Array Keyed → Nat → Nat → Nat → StateT SortSt Sem (Option Nat):=sortPriv% PySem.Builtin.gallop
noncomputable def gp (left : Bool) (key : Keyed) (arr : Array Keyed) (base i : Nat) : StateT SortSt Sem (Option Bool):=do
 let x ← elem' arr (base + i)
 if left then lt' x key else return (← lt' key x).map (!·)
theorem vw (left : Bool) (key : Keyed) (arr : Array Keyed) (base n hint : Nat) : fx left key arr base n hint = (do
 let mut lastofs:=0
 let mut ofs:=1
 let mut lo:=0
 let mut hi:=0
 let some right ← gp left key arr base hint | return none
 if right then
  let maxofs:=n - hint
  for _ in [0:n] do
   if ofs ≥ maxofs then break
   let some more ← gp left key arr base (hint + ofs) | return none
   if !more then break
   lastofs:=ofs
   ofs:=2 * ofs + 1
  lo:=hint + lastofs + 1
  hi:=hint + min ofs maxofs
 else
  let maxofs:=hint + 1
  for _ in [0:n] do
   if ofs ≥ maxofs then break
   let some found ← gp left key arr base (hint - ofs) | return none
   if found then break
   lastofs:=ofs
   ofs:=2 * ofs + 1
  lo:=hint + 1 - min ofs maxofs
  hi:=hint - lastofs
 for _ in [0:n] do
  if lo ≥ hi then break
  let m:=lo + (hi - lo) / 2
  let some more ← gp left key arr base m | return none
  if more then lo:=m + 1 else hi:=m
 return some hi):=rfl
section
variable {prog : Program} {w : World} {A : Around} {E : Value → Shared → Prop} {s : Shared}
noncomputable def IsK (p : Keyed) : Prop:=∃ n t,p.1 = .int n t
noncomputable def kk (p : Keyed) : Int:=numOf p.1
theorem mL {st : SortSt} {x y : Keyed} {Q : Option Bool → SortSt → Prop} (hk : kindOf st = oneType') (hx : IsK x) (hy : IsK y) (h : Q (some (decide (kk x < kk y))) st) : wpS (model prog w) A E s (lt' x y) Q st:=by
 obtain ⟨x1,x2⟩:=x
 obtain ⟨y1,y2⟩:=y
 obtain ⟨n,t,rfl⟩:=hx
 obtain ⟨m,u,rfl⟩:=hy
 rw [lt'_eq]
 refine wpS_bind (wpS_get ?_)
 rw [hk,keyLt'_oneType]
 refine wpS_bind (wpS_lift (wpAny_attempt (oneLt_int ⟨rfl,?_⟩)))
 exact wpS_pure h
theorem bP {st : SortSt} {arr : Array Keyed} {i : Nat} {p : Keyed} {Q : Keyed → SortSt → Prop} (e : arr[i]? = some p) (h : Q p st) : wpS (model prog w) A E s (elem' arr i) Q st:=by
 rw [elem'_eq,e]
 exact wpS_pure h
noncomputable def gg (left : Bool) (key x : Keyed) : Bool:=if left then decide (kk x < kk key) else !decide (kk key < kk x)
theorem rG {st : SortSt} {left : Bool} {key p : Keyed} {arr : Array Keyed} {base i : Nat} {Q : Option Bool → SortSt → Prop} (hk : kindOf st = oneType') (hx : IsK key) (e : arr[base + i]? = some p) (hy : IsK p) (h : Q (some (gg left key p)) st) : wpS (model prog w) A E s (gp left key arr base i) Q st:=by
 unfold gp
 refine wpS_bind (bP e ?_)
 unfold gg at h
 cases left with
 | true=>
  rw [if_pos rfl] at h ⊢
  exact mL hk hy hx h
 | false=>
  rw [if_neg (by decide)] at h ⊢
  refine wpS_bind (mL hk hx hy ?_)
  exact wpS_pure h
theorem nf {st : SortSt} {left : Bool} {key : Keyed} {arr : Array Keyed} {base n hint : Nat} {Q : Option Nat → SortSt → Prop} (hk : kindOf st = oneType') (hx : IsK key) (P : Nat → Bool)
  (hP : ∀ i,i < n → ∃ p,arr[base + i]? = some p ∧ IsK p ∧ gg left key p = P i) (anti : ∀ i j,i ≤ j → j < n → P j = true → P i = true) (hh : hint < n)
  (h : ∀ k,k ≤ n → (∀ i,i < k → P i = true) → (∀ i,k ≤ i → i < n → P i = false) → Q (some k) st) : wpS (model prog w) A E s (fx left key arr base n hint) Q st:=by
 have ask : ∀ (i : Nat) (R : Option Bool → SortSt → Prop),i < n → R (some (P i)) st → wpS (model prog w) A E s (gp left key arr base i) R st:=by
  intro i R hi hR
  obtain ⟨p,e,hp,ha⟩:=hP i hi
  exact rG hk hx e hp (by rw [ha]; exact hR)
 have fin : ∀ lo hi : Nat,lo ≤ hi → hi ≤ n → (∀ i,i < lo → P i = true) → (∀ i,hi ≤ i → i < n → P i = false) → wpS (model prog w) A E s (do
   let mut lo:=lo
   let mut hi:=hi
   for _ in [0:n] do
    if lo ≥ hi then break
    let m:=lo + (hi - lo) / 2
    let some more ← gp left key arr base m | return none
    if more then lo:=m + 1 else hi:=m
   return some hi) Q st:=by
  intro lo hi hl hn plo phi
  dsimp only
  refine wpS_bind (wpS_mono (wpS_forRange (I:=fun x c st'=>st' = st ∧ ∃ l r,c = (none,l,r) ∧ l ≤ r ∧ r ≤ n ∧ r - l ≤ n - x ∧ (∀ i,i < l → P i = true) ∧ (∀ i,r ≤ i → i < n → P i = false))
   (Q:=fun c st'=>st' = st ∧ ∃ r,c = (none,r,r) ∧ r ≤ n ∧ (∀ i,i < r → P i = true) ∧ (∀ i,r ≤ i → i < n → P i = false)) ?step ?fin ⟨rfl,lo,hi,rfl,hl,hn,(o0 hl hn),plo,phi⟩) ?post)
  case post=>
   rintro c st' ⟨rfl,r,rfl,h1,h2,h3⟩
   exact wpS_pure (h r h1 h2 h3)
  case fin=>
   rintro c st' ⟨rfl,l,r,rfl,h1,h2,h3,h4,h5⟩
   have : l = r:=o1 h1 h3
   subst this
   exact ⟨rfl,l,rfl,h2,h4,h5⟩
  case step=>
   rintro x c st' _ hx ⟨rfl,l,r,rfl,h1,h2,h3,h4,h5⟩
   dsimp only
   by_cases hge : l ≥ r
   ·rw [if_pos hge]
    have : l = r:=o2 h1 hge
    subst this
    exact wpS_pure ⟨rfl,l,rfl,h2,h4,h5⟩
   ·rw [if_neg hge]
    refine wpS_bind (ask (l + (r - l) / 2) _ (o3 h2 hge) ?_)
    dsimp only
    cases hm : P (l + (r - l) / 2) with
    | true=>
     rw [if_pos rfl]
     refine wpS_pure ⟨rfl,_,r,rfl,(o4 hge),h2,(o5 hx h3 hge),fun i hi=>?_,h5⟩
     exact anti i (l + (r - l) / 2) (o6 hi) (o3 h2 hge) hm
    | false=>
     rw [if_neg (by decide)]
     refine wpS_pure ⟨rfl,l,_,rfl,(o7),(o8 h2 hge),(o9 hx h3 hge),h4,fun i hi hin=>?_⟩
     cases hp : P i with
     | false=>rfl
     | true=>rw [anti _ i hi hin hp] at hm; cases hm
 rw [vw]
 refine wpS_bind (ask hint _ hh ?_)
 dsimp only
 cases hr : P hint with
 | true=>
  rw [if_pos rfl]
  refine wpS_bind (wpS_mono (wpS_forRange (I:=fun x c st'=>st' = st ∧ ∃ l o,c = (none,l,o) ∧ l < o ∧ x < o ∧ hint + l < n ∧ P (hint + l) = true)
   (Q:=fun c st'=>st' = st ∧ ∃ l o,c = (none,l,o) ∧ l < o ∧ hint + l < n ∧ P (hint + l) = true ∧ (hint + o < n → P (hint + o) = false)) ?step ?fin ⟨rfl,0,1,rfl,(o10),(o10),hh,hr⟩) ?post)
  case post=>
   rintro c st' ⟨rfl,l,o,rfl,h1,h2,h3,h4⟩
   dsimp only
   refine fin _ _ (o11 hh h1 h2) (o12 hh) (fun i hi=>anti i (hint + l) (o13 hi) h2 h3) fun i hi hin=>?_
   cases hp : P i with
   | false=>rfl
   | true=>
    have:=anti (hint + o) i (o14 hh hi hin) hin hp
    rw [h4 (o15 hh hi hin)] at this; cases this
  case fin=>
   rintro c st' ⟨rfl,l,o,rfl,h1,h2,h3,h4⟩
   exact ⟨rfl,l,o,rfl,h1,h3,h4,fun h=>absurd (Nat.lt_of_le_of_lt (Nat.le_max_right 0 n) h2) (Nat.not_lt.mpr (Nat.le_of_lt (Nat.lt_of_le_of_lt (Nat.le_add_left o hint) h)))⟩
  case step=>
   rintro x c st' _ hx ⟨rfl,l,o,rfl,h1,h2,h3,h4⟩
   dsimp only
   by_cases hge : o ≥ n - hint
   ·rw [if_pos hge]
    exact wpS_pure ⟨rfl,l,o,rfl,h1,h3,h4,fun h=>absurd h (Nat.not_lt.mpr (Nat.sub_le_iff_le_add'.mp hge))⟩
   ·rw [if_neg hge]
    refine wpS_bind (ask (hint + o) _ (o16 hh hge) ?_)
    dsimp only
    cases hm : P (hint + o) with
    | true=>exact wpS_pure ⟨rfl,o,_,rfl,(o17),(o18 (by assumption) h2),(o16 hh hge),hm⟩
    | false=>exact wpS_pure ⟨rfl,l,o,rfl,h1,h3,h4,fun _=>hm⟩
 | false=>
  rw [if_neg (by decide)]
  refine wpS_bind (wpS_mono (wpS_forRange (I:=fun x c st'=>st' = st ∧ ∃ l o,c = (none,l,o) ∧ l < o ∧ x < o ∧ l ≤ hint ∧ P (hint - l) = false)
   (Q:=fun c st'=>st' = st ∧ ∃ l o,c = (none,l,o) ∧ l < o ∧ l ≤ hint ∧ P (hint - l) = false ∧ (o ≤ hint → P (hint - o) = true)) ?step ?fin ⟨rfl,0,1,rfl,(o10),(o10),(o19),hr⟩) ?post)
  case post=>
   rintro c st' ⟨rfl,l,o,rfl,h1,h2,h3,h4⟩
   dsimp only
   refine fin _ _ (o20 h1 h2) (o21 hh h2) (fun i hi=>anti i (hint - o) (o22 hi) (o23 hh h1 h2) (h4 (o24 hi))) fun i hi hin=>?_
   cases hp : P i with
   | false=>rfl
   | true=>
    have:=anti (hint - l) i hi hin hp
    rw [h3] at this; cases this
  case fin=>
   rintro c st' ⟨rfl,l,o,rfl,h1,h2,h3,h4⟩
   exact ⟨rfl,l,o,rfl,h1,h3,h4,fun h=>absurd (Nat.lt_of_le_of_lt (Nat.le_max_right 0 n) h2) (Nat.not_lt.mpr (Nat.le_of_lt (Nat.lt_of_le_of_lt h hh)))⟩
  case step=>
   rintro x c st' _ hx ⟨rfl,l,o,rfl,h1,h2,h3,h4⟩
   dsimp only
   by_cases hge : o ≥ hint + 1
   ·rw [if_pos hge]
    exact wpS_pure ⟨rfl,l,o,rfl,h1,h3,h4,fun h=>absurd h (Nat.not_le.mpr hge)⟩
   ·rw [if_neg hge]
    refine wpS_bind (ask (hint - o) _ (o25 hh h1 hge) ?_)
    dsimp only
    cases hm : P (hint - o) with
    | true=>exact wpS_pure ⟨rfl,l,o,rfl,h1,h3,h4,fun _=>hm⟩
    | false=>exact wpS_pure ⟨rfl,o,_,rfl,(o17),(o18 (by assumption) h2),(o26 hge),hm⟩
end
end Mine
end
section
namespace Mine
noncomputable def Asc (l : List Keyed) : Prop:=(l.map kk).Pairwise (· ≤ ·)
theorem Asc.sub {l m : List Keyed} (h : Asc m) (k : l.Sublist m) : Asc l:=List.Pairwise.sublist (k.map kk) h
theorem Asc.app {l m : List Keyed} : Asc (l ++ m) ↔ Asc l ∧ Asc m ∧ ∀ x ∈ l,∀ y ∈ m,kk x ≤ kk y:=by
 unfold Asc
 rw [List.map_append,List.pairwise_append]
 refine ⟨fun ⟨h1,h2,h3⟩=>⟨h1,h2,fun x hx y hy=>h3 _ (List.mem_map.mpr ⟨x,hx,rfl⟩) _ (List.mem_map.mpr ⟨y,hy,rfl⟩)⟩,fun ⟨h1,h2,h3⟩=>⟨h1,h2,fun x hx y hy=>?_⟩⟩
 obtain ⟨x',hx',rfl⟩:=List.mem_map.mp hx
 obtain ⟨y',hy',rfl⟩:=List.mem_map.mp hy
 exact h3 _ hx' _ hy'
theorem Asc.nil : Asc []:=List.Pairwise.nil
structure MI (la lb out : List Keyed) (ia ib : Nat) : Prop where
 perm : (out ++ (la.drop ia ++ lb.drop ib)).Perm (la ++ lb)
 asc : Asc out
 le : ∀ x ∈ out,∀ y ∈ la.drop ia ++ lb.drop ib,kk x ≤ kk y
theorem MI.swap {la lb out : List Keyed} {ia ib : Nat} (h : MI la lb out ia ib) : MI lb la out ib ia:=
 ⟨((List.perm_append_comm (l₁:=lb.drop ib) (l₂:=la.drop ia)).append_left out).trans (h.perm.trans List.perm_append_comm),h.asc,fun x hx y hy=>h.le x hx y (by rw [List.mem_append] at *; exact hy.symm)⟩
theorem MI.start (la lb : List Keyed) : MI la lb [] 0 0:=⟨by simp,Asc.nil,fun x hx=>by cases hx⟩
theorem vS (l : List Keyed) (i k : Nat) : l.drop i = (l.drop i).take k ++ l.drop (i + k):=by
 rw [← List.drop_drop,List.take_append_drop]
theorem MI.takeA {la lb out : List Keyed} {ia ib : Nat} (h : MI la lb out ia ib) (k : Nat) (sa : Asc la) (hle : ∀ x ∈ (la.drop ia).take k,∀ y ∈ lb.drop ib,kk x ≤ kk y) : MI la lb (out ++ (la.drop ia).take k) (ia + k) ib:=by
 have hs:=vS la ia k
 have sd : Asc (la.drop ia):=sa.sub (List.drop_sublist ..)
 rw [hs] at sd
 obtain ⟨s1,s2,s3⟩:=Asc.app.mp sd
 have e1 : out ++ (la.drop ia).take k ++ (la.drop (ia + k) ++ lb.drop ib) = out ++ (la.drop ia ++ lb.drop ib):=by
  rw [List.append_assoc,← List.append_assoc ((la.drop ia).take k),← hs]
 refine ⟨by rw [e1]; exact h.perm,Asc.app.mpr ⟨h.asc,s1,fun x hx y hy=>h.le x hx y (List.mem_append_left _ (List.mem_of_mem_take hy))⟩,fun x hx y hy=>?_⟩
 rcases List.mem_append.mp hx with hx | hx
 ·refine h.le x hx y ?_
  rw [List.mem_append] at *
  refine hy.imp (fun hy=>?_) id
  rw [hs]; exact List.mem_append_right _ hy
 ·rcases List.mem_append.mp hy with hy | hy
  ·exact s3 x hx y hy
  ·exact hle x hx y hy
theorem MI.takeB {la lb out : List Keyed} {ia ib : Nat} (h : MI la lb out ia ib) (k : Nat) (sb : Asc lb) (hle : ∀ x ∈ (lb.drop ib).take k,∀ y ∈ la.drop ia,kk x ≤ kk y) : MI la lb (out ++ (lb.drop ib).take k) ia (ib + k):=(h.swap.takeA k sb hle).swap
theorem MI.fin {la lb out : List Keyed} {ia ib : Nat} (h : MI la lb out ia ib) (sa : Asc la) (sb : Asc lb) (hle : ∀ x ∈ la.drop ia,∀ y ∈ lb.drop ib,kk x ≤ kk y) : (out ++ la.drop ia ++ lb.drop ib).Perm (la ++ lb) ∧ Asc (out ++ la.drop ia ++ lb.drop ib):=by
 rw [List.append_assoc]
 exact ⟨h.perm,Asc.app.mpr ⟨h.asc,Asc.app.mpr ⟨sa.sub (List.drop_sublist ..),sb.sub (List.drop_sublist ..),hle⟩,h.le⟩⟩
theorem MI.last {la lb out : List Keyed} {ia ib : Nat} (h : MI la lb out ia ib) (sa : Asc la) (sb : Asc lb) (hle : ∀ x ∈ lb.drop ib,∀ y ∈ la.drop ia,kk x ≤ kk y) : (out ++ lb.drop ib ++ la.drop ia).Perm (la ++ lb) ∧ Asc (out ++ lb.drop ib ++ la.drop ia):=by
 obtain ⟨h1,h2⟩:=h.swap.fin sb sa hle
 exact ⟨h1.trans List.perm_append_comm,h2⟩
theorem Asc.first {l : List Keyed} (h : Asc l) {i : Nat} {x : Keyed} (e : l[i]? = some x) : ∀ y ∈ l.drop i,kk x ≤ kk y:=by
 intro y hy
 have hi:=(List.getElem?_eq_some_iff.mp e).1
 have hd : l.drop i = x :: l.drop (i + 1):=by
  rw [List.drop_eq_getElem_cons hi,(List.getElem?_eq_some_iff.mp e).2]
 have sd : Asc (l.drop i):=h.sub (List.drop_sublist ..)
 rw [hd] at hy sd
 rcases List.mem_cons.mp hy with rfl | hy
 ·exact Int.le_refl _
 ·exact (Asc.app (l:=[x]).mp sd).2.2 x List.mem_cons_self y hy
theorem gY {l : List Keyed} {i : Nat} {x : Keyed} (e : l[i]? = some x) : (l.drop i).take 1 = [x]:=by
 have hi:=(List.getElem?_eq_some_iff.mp e).1
 rw [List.drop_eq_getElem_cons hi,(List.getElem?_eq_some_iff.mp e).2]; rfl
end Mine
end
section
namespace Mine
noncomputable def gE (a b res : Array Keyed) : Prop:=res.toList.Perm (a.toList ++ b.toList) ∧ Asc res.toList
structure Two (a b : Array Keyed) : Prop where
 sa : Asc a.toList
 sb : Asc b.toList
 ka : ∀ p ∈ a.toList,IsK p
 kb : ∀ p ∈ b.toList,IsK p
structure MJ (a b out : Array Keyed) (ia ib : Nat) : Prop where
 mi : MI a.toList b.toList out.toList ia ib
 len : out.size = ia + ib
 ia : ia + 1 < a.size
 ib : ib < b.size
noncomputable def iK (a b : Array Keyed) : Prop:=∀ x,a[a.size - 1]? = some x → ∀ y ∈ b.toList,kk y ≤ kk x
section
variable {a b out : Array Keyed} {ia ib : Nat}
theorem fA (xs : Array Keyed) (i j : Nat) : (xs.extract i j).toList = (xs.toList.drop i).take (j - i):=by simp
theorem mT (xs : Array Keyed) (i : Nat) : (xs.extract i xs.size).toList = xs.toList.drop i:=by
 rw [fA,List.take_of_length_le]
 rw [List.length_drop,Array.length_toList]
 exact Nat.le_refl _
theorem ce {xs : Array Keyed} {i : Nat} {x : Keyed} (e : xs[i]? = some x) : xs.toList[i]? = some x:=by rw [Array.getElem?_toList]; exact e
theorem As {i : Nat} (h : i + 1 = a.size) {x : Keyed} (e : a[i]? = some x) : a.toList.drop i = [x]:=by
 have e':=ce e
 have hi:=(List.getElem?_eq_some_iff.mp e').1
 rw [List.drop_eq_getElem_cons hi,(List.getElem?_eq_some_iff.mp e').2,List.drop_of_length_le (by rw [Array.length_toList]; exact o27 h)]
theorem y6 (T : Two a b) (h : MJ a b out ia ib) : ∃ x y,a[ia]? = some x ∧ b[ib]? = some y ∧ IsK x ∧ IsK y:=by
 have h1 : ia < a.size:=Nat.lt_of_succ_lt h.ia
 refine ⟨a[ia],b[ib]'h.ib,getElem?_pos ..,getElem?_pos ..,T.ka _ (by simp),T.kb _ (by simp)⟩
theorem iA (T : Two a b) (h : MI a.toList b.toList out.toList ia ib) (e : ia = a.size ∨ ib = b.size) : gE a b (out ++ a.extract ia a.size ++ b.extract ib b.size):=by
 unfold gE
 rw [Array.toList_append,Array.toList_append,mT,mT]
 refine h.fin T.sa T.sb fun x hx y hy=>?_
 rcases e with e | e
 ·rw [List.drop_of_length_le (by rw [Array.length_toList]; exact o28 e)] at hx; cases hx
 ·rw [List.drop_of_length_le (by rw [Array.length_toList]; exact o28 e)] at hy; cases hy
theorem j1 (T : Two a b) (L : iK a b) (h : MI a.toList b.toList out.toList ia ib) (e : ia + 1 = a.size) : gE a b (out ++ b.extract ib b.size ++ a.extract ia a.size):=by
 unfold gE
 rw [Array.toList_append,Array.toList_append,mT,mT]
 refine h.last T.sa T.sb fun y hy x hx=>?_
 have hx' : a[ia]? = some a[ia]:=getElem?_pos ..
 rw [As e hx',List.mem_singleton] at hx
 subst hx
 exact L _ (by rw [show a.size - 1 = ia by exact o29 e]; exact hx') y (List.mem_of_mem_drop hy)
theorem u1 (T : Two a b) (h : MI a.toList b.toList out.toList ia ib) {x y : Keyed} (hx : a[ia]? = some x) (hy : b[ib]? = some y) (hle : kk y ≤ kk x) : MI a.toList b.toList (out.push y).toList ia (ib + 1):=by
 have:=h.takeB 1 T.sb fun z hz t ht=>by
  rw [gY (ce hy),List.mem_singleton] at hz
  subst hz
  exact Int.le_trans hle (T.sa.first (ce hx) t ht)
 rw [gY (ce hy)] at this
 rw [Array.toList_push]
 exact this
theorem yb (T : Two a b) (h : MI a.toList b.toList out.toList ia ib) {x y : Keyed} (hx : a[ia]? = some x) (hy : b[ib]? = some y) (hle : kk x ≤ kk y) : MI a.toList b.toList (out.push x).toList (ia + 1) ib:=by
 have:=h.takeA 1 T.sa fun z hz t ht=>by
  rw [gY (ce hx),List.mem_singleton] at hz
  subst hz
  exact Int.le_trans hle (T.sb.first (ce hy) t ht)
 rw [gY (ce hx)] at this
 rw [Array.toList_push]
 exact this
theorem fU {xs : Array Keyed} {i k : Nat} {z : Keyed} (h : z ∈ (xs.toList.drop i).take k) : ∃ j,j < k ∧ xs[i + j]? = some z:=by
 obtain ⟨j,hj⟩:=List.mem_iff_getElem?.mp h
 have hl:=(List.getElem?_eq_some_iff.mp hj).1
 rw [List.length_take] at hl
 rw [List.getElem?_take_of_lt (o30 hl),List.getElem?_drop,Array.getElem?_toList] at hj
 exact ⟨j,(o30 hl),hj⟩
theorem Ch (T : Two a b) (h : MI a.toList b.toList out.toList ia ib) {y : Keyed} (hy : b[ib]? = some y) (k : Nat) (hk : ∀ j,j < k → ∀ z,a[ia + j]? = some z → kk z ≤ kk y) : MI a.toList b.toList (out ++ a.extract ia (ia + k)).toList (ia + k) ib:=by
 have:=h.takeA k T.sa fun z hz t ht=>by
  obtain ⟨j,hj,e⟩:=fU hz
  exact Int.le_trans (hk j hj z e) (T.sb.first (ce hy) t ht)
 rw [Array.toList_append,fA,Nat.add_sub_cancel_left]
 exact this
theorem Ce (T : Two a b) (h : MI a.toList b.toList out.toList ia ib) {x : Keyed} (hx : a[ia]? = some x) (k : Nat) (hk : ∀ j,j < k → ∀ z,b[ib + j]? = some z → kk z ≤ kk x) : MI a.toList b.toList (out ++ b.extract ib (ib + k)).toList ia (ib + k):=by
 have:=h.takeB k T.sb fun z hz t ht=>by
  obtain ⟨j,hj,e⟩:=fU hz
  exact Int.le_trans (hk j hj z e) (T.sa.first (ce hx) t ht)
 rw [Array.toList_append,fA,Nat.add_sub_cancel_left]
 exact this
end
end Mine
end
section
namespace Mine
theorem Asc.at {xs : Array Keyed} (h : Asc xs.toList) {i j : Nat} {x y : Keyed} (hij : i ≤ j) (ex : xs[i]? = some x) (ey : xs[j]? = some y) : kk x ≤ kk y:=by
 refine h.first (ce ex) y ?_
 rw [List.mem_iff_getElem?]
 refine ⟨j - i,?_⟩
 rw [List.getElem?_drop,show i + (j - i) = j from Nat.add_sub_of_le hij]
 exact ce ey
section
variable {prog : Program} {w : World} {A : Around} {E : Value → Shared → Prop} {s : Shared}
theorem mY {st : SortSt} {left : Bool} {key : Keyed} {arr : Array Keyed} {base n hint : Nat} {Q : Option Nat → SortSt → Prop} (hk : kindOf st = oneType') (hx : IsK key) (sa : Asc arr.toList) (ka : ∀ p ∈ arr.toList,IsK p) (hn : base + n ≤ arr.size) (hh : hint < n)
  (h : ∀ k,k ≤ n → (∀ j,j < k → ∀ z,arr[base + j]? = some z → gg left key z = true) → (∀ j,k ≤ j → j < n → ∀ z,arr[base + j]? = some z → gg left key z = false) → Q (some k) st) : wpS (model prog w) A E s (fx left key arr base n hint) Q st:=by
 refine nf hk hx (fun j=>match arr[base + j]? with | some z=>gg left key z | none=>false) (fun j hj=>?_) (fun i j hij hj hp=>?_) hh fun k hk h1 h2=>h k hk (fun j hj z e=>?_) fun j hkj hj z e=>?_
 ·have hj' : base + j < arr.size:=o31 hn hj
  refine ⟨arr[base + j],getElem?_pos ..,ka _ (by simp),?_⟩
  rw [getElem?_pos arr (base + j) hj']
 ·have hi' : base + i < arr.size:=o32 hn hij hj
  have hj' : base + j < arr.size:=o31 hn hj
  have:=sa.at (i:=base + i) (j:=base + j) (o33 hij) (getElem?_pos arr (base + i) hi') (getElem?_pos arr (base + j) hj')
  rw [getElem?_pos arr (base + j) hj'] at hp
  rw [getElem?_pos arr (base + i) hi']
  dsimp only at hp ⊢
  unfold gg at hp ⊢
  cases left with
  | true=>
   rw [if_pos rfl] at hp ⊢
   rw [decide_eq_true_eq] at hp ⊢
   exact o34 hi' hj' this hp
  | false=>
   rw [if_neg (by decide)] at hp ⊢
   rw [Bool.not_eq_true',decide_eq_false_iff_not] at hp ⊢
   exact fun a=>o35 hi' hj' this hp a
 ·have:=h1 j hj
  rw [e] at this
  exact this
 ·have:=h2 j hkj hj
  rw [e] at this
  exact this
end
noncomputable def i6 (g : Nat) : StateT SortSt Sem Unit:=modify fun s=>SortSt.mk' (kindOf s) (arrOf s) (pendingOf s) g (failedOf s)
noncomputable def on : Array Keyed → Array Keyed → StateT SortSt Sem (Array Keyed):=sortPriv% PySem.Builtin.mergeLo
noncomputable abbrev LoC:=Option (Array Keyed) × Array Keyed × Nat × Nat × Nat × Nat × Nat
noncomputable def lo3 (a b : Array Keyed) (g ac bc : Nat) (out : Array Keyed) (ia ib : Nat) : StateT SortSt Sem (ForInStep LoC):=do
 let x ← elem' a ia
 if ia + 1 + 1 == a.size then return .done (some (out.push x ++ b.extract ib b.size ++ a.extract (ia + 1) a.size),out.push x,ia + 1,ib,g,ac,bc)
 if ac < 7 && bc < 7 then return .done (none,out.push x,ia + 1,ib,g,ac,bc)
 return .yield (none,out.push x,ia + 1,ib,g,ac,bc)
noncomputable def lo2 (a b : Array Keyed) (g ac bc : Nat) (out : Array Keyed) (ia ib : Nat) : StateT SortSt Sem (ForInStep LoC):=do
 let y ← elem' b ib
 if ib + 1 == b.size then return .done (some (out.push y ++ a.extract ia a.size ++ b.extract (ib + 1) b.size),out.push y,ia,ib + 1,g,ac,bc)
 let x ← elem' a ia
 match ← fx true x b (ib + 1) (b.size - (ib + 1)) 0 with
 | some k=>
  if k > 0 then
   if ib + 1 + k == b.size then return .done (some (out.push y ++ b.extract (ib + 1) (ib + 1 + k) ++ a.extract ia a.size ++ b.extract (ib + 1 + k) b.size),out.push y ++ b.extract (ib + 1) (ib + 1 + k),ia,ib + 1 + k,g,ac,k)
   else lo3 a b g ac k (out.push y ++ b.extract (ib + 1) (ib + 1 + k)) ia (ib + 1 + k)
  else lo3 a b g ac k (out.push y) ia (ib + 1)
 | _=>return .done (some (out.push y ++ a.extract ia a.size ++ b.extract (ib + 1) b.size),out.push y,ia,ib + 1,g,ac,bc)
noncomputable def lo1 (a b : Array Keyed) (g ac bc : Nat) (out : Array Keyed) (ia ib : Nat) : StateT SortSt Sem (ForInStep LoC):=do
 i6 g
 let y ← elem' b ib
 match ← fx false y a ia (a.size - ia) 0 with
 | some k=>
  if k > 0 then
   if ia + k + 1 == a.size then return .done (some (out ++ a.extract ia (ia + k) ++ b.extract ib b.size ++ a.extract (ia + k) a.size),out ++ a.extract ia (ia + k),ia + k,ib,g,k,bc)
   else if ia + k == a.size then return .done (some (out ++ a.extract ia (ia + k) ++ a.extract (ia + k) a.size ++ b.extract ib b.size),out ++ a.extract ia (ia + k),ia + k,ib,g,k,bc)
   else lo2 a b g k bc (out ++ a.extract ia (ia + k)) (ia + k) ib
  else lo2 a b g k bc out ia ib
 | _=>return .done (some (out ++ a.extract ia a.size ++ b.extract ib b.size),out,ia,ib,g,ac,bc)
noncomputable abbrev LoI:=Option (Array Keyed) × Array Keyed × Nat × Nat × Nat × Nat
noncomputable abbrev LoO:=Option (Array Keyed) × Array Keyed × Nat × Nat × Nat
noncomputable def loI (a b : Array Keyed) (g : Nat) (out : Array Keyed) (ia ib ac bc : Nat) : StateT SortSt Sem (ForInStep LoI):=do
 let y ← elem' b ib
 let x ← elem' a ia
 match ← lt' y x with
 | some v=>
  if v then
   let y ← elem' b ib
   if ib + 1 == b.size then return .done (some (out.push y ++ a.extract ia a.size ++ b.extract (ib + 1) b.size),out.push y,ia,ib + 1,0,bc + 1)
   if bc + 1 ≥ g then return .done (none,out.push y,ia,ib + 1,0,bc + 1)
   return .yield (none,out.push y,ia,ib + 1,0,bc + 1)
  else
   let x ← elem' a ia
   if ia + 1 + 1 == a.size then return .done (some (out.push x ++ b.extract ib b.size ++ a.extract (ia + 1) a.size),out.push x,ia + 1,ib,ac + 1,0)
   if ac + 1 ≥ g then return .done (none,out.push x,ia + 1,ib,ac + 1,0)
   return .yield (none,out.push x,ia + 1,ib,ac + 1,0)
 | _=>return .done (some (out ++ a.extract ia a.size ++ b.extract ib b.size),out,ia,ib,ac,bc)
noncomputable def loG (a b : Array Keyed) (g ac bc : Nat) (out : Array Keyed) (ia ib : Nat) : StateT SortSt Sem (ForInStep LoC):=if g > 1 then lo1 a b (g - 1) ac bc out ia ib else lo1 a b g ac bc out ia ib
noncomputable def FJ (a b : Array Keyed) (g ac bc : Nat) (out : Array Keyed) (ia ib : Nat) : StateT SortSt Sem (ForInStep LoO):=do
 rule "list.sort.gallop"
 let q ← forIn [0:a.size + b.size] ((none,out,ia,ib,g + 1,ac,bc) : LoC) fun _ c=>loG a b c.2.2.2.2.1 c.2.2.2.2.2.1 c.2.2.2.2.2.2 c.2.1 c.2.2.1 c.2.2.2.1
 match q.1 with
 | some z=>return .done (some z,q.2.1,q.2.2.1,q.2.2.2.1,q.2.2.2.2.1)
 | none=>
  i6 (q.2.2.2.2.1 + 1)
  return .yield (none,q.2.1,q.2.2.1,q.2.2.2.1,q.2.2.2.2.1 + 1)
noncomputable def loO (a b : Array Keyed) (g : Nat) (out : Array Keyed) (ia ib : Nat) : StateT SortSt Sem (ForInStep LoO):=do
 let r ← forIn [0:a.size + b.size] ((none,out,ia,ib,0,0) : LoI) fun _ c=>loI a b g c.2.1 c.2.2.1 c.2.2.2.1 c.2.2.2.2.1 c.2.2.2.2.2
 match r.1 with
 | some z=>return .done (some z,r.2.1,r.2.2.1,r.2.2.2.1,g)
 | none=>FJ a b g r.2.2.2.2.1 r.2.2.2.2.2 r.2.1 r.2.2.1 r.2.2.2.1
theorem tJ (a b : Array Keyed) : on a b = (do
 rule "list.sort.merge-lo"
 let y ← elem' b 0
 if 1 == b.size then return #[y] ++ a.extract 0 a.size ++ b.extract 1 b.size
 if 0 + 1 == a.size then return #[y] ++ b.extract 1 b.size ++ a.extract 0 a.size
 let st ← get
 let r ← forIn [0:a.size + b.size] ((none,#[y],0,1,gallopOf st) : LoO) fun _ c=>loO a b c.2.2.2.2 c.2.1 c.2.2.1 c.2.2.2.1
 match r.1 with
 | some z=>return z
 | none=>unsupported "internal:list.sort.merge-bound"):=by kernel_rfl
theorem MI.size {a b out : Array Keyed} {ia ib : Nat} (h : MI a.toList b.toList out.toList ia ib) (T : Two a b) : out.size = ia + ib ∨ a.size < ia ∨ b.size < ib:=by
 have:=h.perm.length_eq
 simp only [List.length_append,List.length_drop,Array.length_toList] at this
 rcases Nat.lt_or_ge a.size ia with h1 | h1
 ·exact .inr (.inl h1)
 rcases Nat.lt_or_ge b.size ib with h2 | h2
 ·exact .inr (.inr h2)
 exact .inl (Nat.add_right_cancel (this.trans (by rw [Nat.add_add_add_comm,Nat.add_sub_of_le h1,Nat.add_sub_of_le h2])))
noncomputable def fB (st st' : SortSt) : Prop:=kindOf st' = kindOf st ∧ arrOf st' = arrOf st ∧ pendingOf st' = pendingOf st ∧ failedOf st' = failedOf st
section
variable {prog : Program} {w : World} {A : Around} {E : Value → Shared → Prop} {s : Shared}
theorem il {st : SortSt} {g : Nat} {Q : Unit → SortSt → Prop} (h : ∀ st',fB st st' → Q () st') : wpS (model prog w) A E s (i6 g) Q st:=by
 unfold i6
 exact wpS_modify (h _ ⟨rfl,rfl,rfl,rfl⟩)
theorem fB.trans {a b c : SortSt} (h : fB a b) (g : fB b c) : fB a c:=⟨g.1.trans h.1,g.2.1.trans h.2.1,g.2.2.1.trans h.2.2.1,g.2.2.2.trans h.2.2.2⟩
noncomputable def LoQ (a b : Array Keyed) (n : Nat) : ForInStep LoC → Prop
 | .done c=>∃ r out ia ib g ac bc,c = (r,out,ia,ib,g,ac,bc) ∧ ((∃ res,r = some res ∧ gE a b res) ∨ (r = none ∧ MJ a b out ia ib ∧ n < ia + ib))
 | .yield c=>∃ out ia ib g ac bc,c = (none,out,ia,ib,g,ac,bc) ∧ MJ a b out ia ib ∧ n < ia + ib
theorem LoQ.fin {a b res out : Array Keyed} {n ia ib g ac bc : Nat} (h : gE a b res) : LoQ a b n (.done (some res,out,ia,ib,g,ac,bc)):=⟨_,_,_,_,_,_,_,rfl,.inl ⟨_,rfl,h⟩⟩
theorem wt {st : SortSt} {a b out : Array Keyed} {ia ib g ac bc n : Nat} {x y : Keyed} {Q : ForInStep LoC → SortSt → Prop} (T : Two a b) (L : iK a b) (m : MI a.toList b.toList out.toList ia ib) (h1 : ia + 1 < a.size) (h2 : ib < b.size) (hn : n ≤ ia + ib)
  (ex : a[ia]? = some x) (ey : b[ib]? = some y) (hle : kk x ≤ kk y) (h : ∀ r,LoQ a b n r → Q r st) : wpS (model prog w) A E s (lo3 a b g ac bc out ia ib) Q st:=by
 have md:=yb T m ex ey hle
 refine wpS_bind (bP ex ?_)
 by_cases c : ia + 1 + 1 = a.size
 ·rw [if_pos (beq_iff_eq.mpr c)]
  exact wpS_pure (h _ (.fin (j1 T L md c)))
 ·rw [if_neg (_root_.mt beq_iff_eq.mp c)]
  have h3 : ia + 1 + 1 < a.size:=Nat.lt_of_le_of_ne h1 c
  have mj : MJ a b (out.push x) (ia + 1) ib:=⟨md,(md.size T).resolve_right fun e=>e.elim (Nat.lt_asymm (Nat.lt_of_succ_lt h3)) (Nat.lt_asymm h2),h3,h2⟩
  have hl : n < ia + 1 + ib:=o36 hn
  split
  ·exact wpS_pure (h _ ⟨_,_,_,_,_,_,_,rfl,.inr ⟨rfl,mj,hl⟩⟩)
  ·exact wpS_pure (h _ ⟨_,_,_,_,_,_,rfl,mj,hl⟩)
theorem wQ {st : SortSt} {a b out : Array Keyed} {ia ib g ac bc n : Nat} {x y : Keyed} {Q : ForInStep LoC → SortSt → Prop} (hk : kindOf st = oneType') (T : Two a b) (L : iK a b) (m : MI a.toList b.toList out.toList ia ib) (h1 : ia + 1 < a.size) (h2 : ib < b.size) (hn : n ≤ ia + (ib + 1))
  (ex : a[ia]? = some x) (ey : b[ib]? = some y) (hle : kk y ≤ kk x) (h : ∀ r,LoQ a b n r → Q r st) : wpS (model prog w) A E s (lo2 a b g ac bc out ia ib) Q st:=by
 have mb:=u1 T m ex ey hle
 refine wpS_bind (bP ey ?_)
 by_cases c3 : ib + 1 = b.size
 ·rw [if_pos (beq_iff_eq.mpr c3)]
  exact wpS_pure (h _ (.fin (iA T mb (.inr c3))))
 rw [if_neg (_root_.mt beq_iff_eq.mp c3)]
 have h3 : ib + 1 < b.size:=Nat.lt_of_le_of_ne h2 c3
 have kx : IsK x:=T.ka x (List.mem_of_getElem? (ce ex))
 refine wpS_bind (bP ex ?_)
 refine wpS_bind (mY hk kx T.sb T.kb (Nat.le_of_eq (Nat.add_sub_cancel' h2)) (Nat.sub_pos_of_lt h3) fun k hk0 hlo hhi=>?_)
 have hd : ∀ z,b[ib + 1 + k]? = some z → kk x ≤ kk z:=fun z e=>by
  have:=hhi k (Nat.le_refl _) (Nat.lt_sub_iff_add_lt'.mpr (Array.getElem?_eq_some_iff.mp e).1) z e
  unfold gg at this; simpa using this
 dsimp only
 by_cases hm : k > 0
 ·rw [if_pos hm]
  have mc:=Ce T mb ex k (fun j hj z e=>Int.le_of_lt (by have:=hlo j hj z e; unfold gg at this; simpa using this))
  by_cases c4 : ib + 1 + k = b.size
  ·rw [if_pos (beq_iff_eq.mpr c4)]
   exact wpS_pure (h _ (.fin (iA T mc (.inr c4))))
  ·rw [if_neg (_root_.mt beq_iff_eq.mp c4)]
   have h4 : ib + 1 + k < b.size:=o37 h3 hk0 c4
   exact wt T L mc h1 h4 (o38 hn hm) ex (getElem?_pos b _ h4) (hd _ (getElem?_pos b _ h4)) h
 ·rw [if_neg hm]
  obtain rfl : k = 0:=Nat.eq_zero_of_not_pos hm
  exact wt T L mb h1 h3 hn ex (getElem?_pos b _ h3) (hd _ (getElem?_pos b _ h3)) h
theorem B5 {st : SortSt} {a b out : Array Keyed} {ia ib g ac bc : Nat} {Q : ForInStep LoC → SortSt → Prop} (hk : kindOf st = oneType') (T : Two a b) (L : iK a b) (m : MJ a b out ia ib)
  (h : ∀ r st',fB st st' → LoQ a b (ia + (ib + 1)) r → Q r st') : wpS (model prog w) A E s (lo1 a b g ac bc out ia ib) Q st:=by
 obtain ⟨p,q,e1,e2,k1,k2⟩:=y6 T m
 have h1:=m.ia; have h2:=m.ib
 refine wpS_bind (il fun st3 hs3=>?_)
 have hk3:=hs3.1.trans hk
 refine wpS_bind (bP e2 ?_)
 refine wpS_bind (mY hk3 k2 T.sa T.ka (o39 h1) (o40 h1) fun k hk0 hlo hhi=>?_)
 have hd : ∀ z,a[ia + k]? = some z → kk q ≤ kk z:=fun z e=>by
  have:=hhi k (Nat.le_refl _) (Nat.lt_sub_iff_add_lt'.mpr (Array.getElem?_eq_some_iff.mp e).1) z e
  unfold gg at this; exact Int.le_of_lt (by simpa using this)
 dsimp only
 by_cases hk1 : k > 0
 ·rw [if_pos hk1]
  have ma:=Ch T m.mi e2 k (fun j hj z e=>by have:=hlo j hj z e; unfold gg at this; simpa using this)
  by_cases c1 : ia + k + 1 = a.size
  ·rw [if_pos (beq_iff_eq.mpr c1)]
   exact wpS_pure (h _ _ hs3 (.fin (j1 T L ma c1)))
  rw [if_neg (_root_.mt beq_iff_eq.mp c1)]
  by_cases c2 : ia + k = a.size
  ·rw [if_pos (beq_iff_eq.mpr c2)]
   exact wpS_pure (h _ _ hs3 (.fin (iA T ma (.inl c2))))
  rw [if_neg (_root_.mt beq_iff_eq.mp c2)]
  have h4 : ia + k + 1 < a.size:=o41 h1 hk0 c1 c2
  exact wQ hk3 T L ma h4 h2 (o42 hk1) (getElem?_pos a _ (Nat.lt_of_succ_lt h4)) e2 (hd _ (getElem?_pos a _ (Nat.lt_of_succ_lt h4))) fun r hr=>h r _ hs3 hr
 ·rw [if_neg hk1]
  obtain rfl : k = 0:=Nat.eq_zero_of_not_pos hk1
  exact wQ hk3 T L m.mi h1 h2 (Nat.le_refl _) e1 e2 (hd p e1) fun r hr=>h r _ hs3 hr
theorem BV {st : SortSt} {a b out : Array Keyed} {ia ib g ac bc : Nat} {Q : ForInStep LoC → SortSt → Prop} (hk : kindOf st = oneType') (T : Two a b) (L : iK a b) (m : MJ a b out ia ib)
  (h : ∀ r st',fB st st' → LoQ a b (ia + (ib + 1)) r → Q r st') : wpS (model prog w) A E s (loG a b g ac bc out ia ib) Q st:=by
 unfold loG
 split <;> exact B5 hk T L m h
noncomputable def He (a b : Array Keyed) (n : Nat) : ForInStep LoI → Prop
 | .done c=>∃ r out ia ib ac bc,c = (r,out,ia,ib,ac,bc) ∧ ((∃ res,r = some res ∧ gE a b res) ∨ (r = none ∧ MJ a b out ia ib ∧ n < ia + ib))
 | .yield c=>∃ out ia ib ac bc,c = (none,out,ia,ib,ac,bc) ∧ MJ a b out ia ib ∧ n < ia + ib
theorem B8 {st : SortSt} {a b out : Array Keyed} {ia ib g ac bc : Nat} {Q : ForInStep LoI → SortSt → Prop} (hk : kindOf st = oneType') (T : Two a b) (L : iK a b) (m : MJ a b out ia ib)
  (h : ∀ r,He a b (ia + ib) r → Q r st) : wpS (model prog w) A E s (loI a b g out ia ib ac bc) Q st:=by
 obtain ⟨p,q,e1,e2,k1,k2⟩:=y6 T m
 have h1:=m.ia; have h2:=m.ib; have h3:=m.len
 refine wpS_bind (bP e2 (wpS_bind (bP e1 (wpS_bind (mL hk k2 k1 ?_)))))
 dsimp only
 by_cases hlt : kk q < kk p
 ·rw [if_pos (decide_eq_true hlt)]
  have mb:=u1 T m.mi e1 e2 (Int.le_of_lt hlt)
  refine wpS_bind (bP e2 ?_)
  by_cases c : ib + 1 = b.size
  ·rw [if_pos (beq_iff_eq.mpr c)]
   exact wpS_pure (h _ ⟨_,_,_,_,_,_,rfl,.inl ⟨_,rfl,iA T mb (.inr c)⟩⟩)
  ·rw [if_neg (_root_.mt beq_iff_eq.mp c)]
   have mj : MJ a b (out.push q) ia (ib + 1):=⟨mb,by rw [Array.size_push,h3]; rfl,h1,Nat.lt_of_le_of_ne h2 c⟩
   split
   ·exact wpS_pure (h _ ⟨_,_,_,_,_,_,rfl,.inr ⟨rfl,mj,Nat.lt_succ_self _⟩⟩)
   ·exact wpS_pure (h _ ⟨_,_,_,_,_,rfl,mj,Nat.lt_succ_self _⟩)
 ·rw [if_neg (by simpa using hlt)]
  have ma:=yb T m.mi e1 e2 (Int.not_lt.mp hlt)
  refine wpS_bind (bP e1 ?_)
  by_cases c : ia + 1 + 1 = a.size
  ·rw [if_pos (beq_iff_eq.mpr c)]
   exact wpS_pure (h _ ⟨_,_,_,_,_,_,rfl,.inl ⟨_,rfl,j1 T L ma c⟩⟩)
  ·rw [if_neg (_root_.mt beq_iff_eq.mp c)]
   have mj : MJ a b (out.push p) (ia + 1) ib:=⟨ma,by rw [Array.size_push,h3]; exact o43,Nat.lt_of_le_of_ne h1 c,h2⟩
   have hl : ia + ib < ia + 1 + ib:=o44
   split
   ·exact wpS_pure (h _ ⟨_,_,_,_,_,_,rfl,.inr ⟨rfl,mj,hl⟩⟩)
   ·exact wpS_pure (h _ ⟨_,_,_,_,_,rfl,mj,hl⟩)
noncomputable def FW (a b : Array Keyed) (n : Nat) : ForInStep LoO → Prop
 | .done c=>∃ res out ia ib g,c = (some res,out,ia,ib,g) ∧ gE a b res
 | .yield c=>∃ out ia ib g,c = (none,out,ia,ib,g) ∧ MJ a b out ia ib ∧ n < ia + ib
theorem yg {st : SortSt} {a b out : Array Keyed} {ia ib g ac bc n : Nat} {Q : ForInStep LoO → SortSt → Prop} (hk : kindOf st = oneType') (T : Two a b) (L : iK a b) (m : MJ a b out ia ib) (hn : n < ia + ib)
  (h : ∀ r st',fB st st' → FW a b n r → Q r st') : wpS (model prog w) A E s (FJ a b g ac bc out ia ib) Q st:=by
 refine wpS_bind (wpS_lift (wpAny_rule ⟨rfl,?_⟩))
 refine wpS_bind (wpS_mono (wpS_forRange (I:=fun x c st'=>fB st st' ∧ ∃ out ia ib g ac bc,c = (none,out,ia,ib,g,ac,bc) ∧ MJ a b out ia ib ∧ x + n < ia + ib)
  (Q:=fun c st'=>fB st st' ∧ ∃ r out ia ib g ac bc,c = (r,out,ia,ib,g,ac,bc) ∧ ((∃ res,r = some res ∧ gE a b res) ∨ (r = none ∧ MJ a b out ia ib ∧ n < ia + ib))) ?step ?fin ⟨⟨rfl,rfl,rfl,rfl⟩,_,_,_,_,_,_,rfl,m,by rw [Nat.zero_add]; exact hn⟩) ?post)
 case fin=>
  rintro c st' ⟨hs,out,ia,ib,g,ac,bc,rfl,hj,hx⟩
  have:=hj.ia; have:=hj.ib
  exfalso; exact o45 hx (by assumption) this
 case post=>
  rintro c st' ⟨hs,r,out,ia,ib,g,ac,bc,rfl,⟨res,rfl,hp⟩ | ⟨rfl,hj,hl⟩⟩
  ·exact wpS_pure (h _ _ hs ⟨_,_,_,_,_,rfl,hp⟩)
  ·exact wpS_bind (il fun st3 hs3=>wpS_pure (h _ _ (hs.trans hs3) ⟨_,_,_,_,rfl,hj,hl⟩))
 case step=>
  rintro x c st2 _ _ ⟨hs,out,ia,ib,g,ac,bc,rfl,hj,hl⟩
  show wpS (model prog w) A E s (loG a b g ac bc out ia ib) _ st2
  refine BV (hs.1.trans hk) T L hj fun r st' hs2 hr=>?_
  cases r with
  | done c=>
   obtain ⟨r,o',i',j',g',a',b',rfl,hr⟩:=hr
   exact ⟨hs.trans hs2,r,o',i',j',g',a',b',rfl,hr.imp id fun ⟨e1,e2,e3⟩=>⟨e1,e2,Nat.lt_trans (Nat.lt_of_le_of_lt (Nat.le_add_left _ _) hl) (Nat.lt_of_succ_lt e3)⟩⟩
  | yield c=>
   obtain ⟨o',i',j',g',a',b',rfl,e2,e3⟩:=hr
   exact ⟨hs.trans hs2,o',i',j',g',a',b',rfl,e2,(o46 hl e3)⟩
theorem Cg {st : SortSt} {a b out : Array Keyed} {ia ib g : Nat} {Q : ForInStep LoO → SortSt → Prop} (hk : kindOf st = oneType') (T : Two a b) (L : iK a b) (m : MJ a b out ia ib)
  (h : ∀ r st',fB st st' → FW a b (ia + ib) r → Q r st') : wpS (model prog w) A E s (loO a b g out ia ib) Q st:=by
 refine wpS_bind (wpS_mono (wpS_forRange (I:=fun x c st'=>st' = st ∧ ∃ out' ia' ib' ac bc,c = (none,out',ia',ib',ac,bc) ∧ MJ a b out' ia' ib' ∧ x + (ia + ib) ≤ ia' + ib')
  (Q:=fun c st'=>st' = st ∧ ∃ r out' ia' ib' ac bc,c = (r,out',ia',ib',ac,bc) ∧ ((∃ res,r = some res ∧ gE a b res) ∨ (r = none ∧ MJ a b out' ia' ib' ∧ ia + ib < ia' + ib'))) ?step ?fin ⟨rfl,_,_,_,_,_,rfl,m,by rw [Nat.zero_add]; exact Nat.le_refl _⟩) ?post)
 case fin=>
  rintro c st' ⟨rfl,out,ia,ib,ac,bc,rfl,hj,hx⟩
  have:=hj.ia; have:=hj.ib
  exfalso; exact o47 hx (by assumption) this
 case post=>
  rintro c st' ⟨rfl,r,out,ia,ib,ac,bc,rfl,⟨res,rfl,hp⟩ | ⟨rfl,hj,hl⟩⟩
  ·exact wpS_pure (h _ _ ⟨rfl,rfl,rfl,rfl⟩ ⟨_,_,_,_,_,rfl,hp⟩)
  ·exact yg hk T L hj hl h
 case step=>
  rintro x c st2 _ _ ⟨rfl,out',i,j,ac,bc,rfl,hj,hl⟩
  show wpS (model prog w) A E s (loI a b g out' i j ac bc) _ st2
  refine B8 hk T L hj fun r hr=>?_
  cases r with
  | done c=>
   obtain ⟨r,o',i',j',a',b',rfl,hr⟩:=hr
   exact ⟨rfl,r,o',i',j',a',b',rfl,hr.imp id fun ⟨e1,e2,e3⟩=>⟨e1,e2,Nat.lt_of_le_of_lt (Nat.le_trans (Nat.le_add_left _ _) hl) e3⟩⟩
  | yield c=>
   obtain ⟨o',i',j',a',b',rfl,e2,e3⟩:=hr
   exact ⟨rfl,o',i',j',a',b',rfl,e2,(o48 hl e3)⟩
theorem s8 {st : SortSt} {a b : Array Keyed} {Q : Array Keyed → SortSt → Prop} (hk : kindOf st = oneType') (T : Two a b) (L : iK a b) (ha : 0 < a.size) (hb : 0 < b.size) (h0 : ∀ x y,a[0]? = some x → b[0]? = some y → kk y ≤ kk x)
  (h : ∀ res st',fB st st' → gE a b res → Q res st') : wpS (model prog w) A E s (on a b) Q st:=by
 rw [tJ]
 have ea : a[0]? = some a[0]:=getElem?_pos ..
 have eb : b[0]? = some b[0]:=getElem?_pos ..
 revert ea eb
 generalize a[0] = x
 generalize b[0] = y
 intro ea eb
 have m1 : MI a.toList b.toList (#[y] : Array Keyed).toList 0 1:=u1 (out:=#[]) T (MI.start _ _) ea eb (h0 _ _ ea eb)
 have S0 : fB st st:=⟨rfl,rfl,rfl,rfl⟩
 refine wpS_bind (wpS_lift (wpAny_rule ⟨rfl,?_⟩))
 refine wpS_bind (bP eb ?_)
 by_cases hb1 : 1 = b.size
 ·rw [if_pos (beq_iff_eq.mpr hb1)]
  exact wpS_pure (h _ _ S0 (iA T m1 (.inr hb1)))
 rw [if_neg (_root_.mt beq_iff_eq.mp hb1)]
 by_cases ha1 : 0 + 1 = a.size
 ·rw [if_pos (beq_iff_eq.mpr ha1)]
  exact wpS_pure (h _ _ S0 (j1 T L m1 ha1))
 rw [if_neg (_root_.mt beq_iff_eq.mp ha1)]
 refine wpS_bind (wpS_get ?_)
 refine wpS_bind (wpS_mono (wpS_forRange (I:=fun x c st'=>fB st st' ∧ ∃ out ia ib g,c = (none,out,ia,ib,g) ∧ MJ a b out ia ib ∧ x < ia + ib)
  (Q:=fun c st'=>fB st st' ∧ ∃ res out ia ib g,c = (some res,out,ia,ib,g) ∧ gE a b res) ?step ?fin ⟨S0,_,0,1,_,rfl,⟨m1,rfl,(o49 ha ha1),(o50 ha hb hb1 ha1)⟩,Nat.lt_succ_self _⟩) ?post)
 case post=>
  rintro c st' ⟨hs,res,out,ia,ib,g,rfl,hp⟩
  exact wpS_pure (h _ _ hs hp)
 case fin=>
  rintro c st' ⟨hs,out,ia,ib,g,rfl,hj,hx⟩
  have:=hj.ia; have:=hj.ib
  exfalso; exact o51 ha hb hx (by assumption) this
 case step=>
  rintro x c st1 _ _ ⟨hs,out,ia,ib,g,rfl,hj,hx⟩
  show wpS (model prog w) A E s (loO a b g out ia ib) _ st1
  refine Cg (hs.1.trans hk) T L hj fun r st' hs2 hr=>?_
  cases r with
  | done c=>
   obtain ⟨r,o',i',j',g',rfl,hr⟩:=hr
   exact ⟨hs.trans hs2,r,o',i',j',g',rfl,hr⟩
  | yield c=>
   obtain ⟨o',i',j',g',rfl,e2,e3⟩:=hr
   exact ⟨hs.trans hs2,o',i',j',g',rfl,e2,Nat.lt_of_le_of_lt hx e3⟩
end
end Mine
end
section
namespace Mine
structure MH (la lb out : List Keyed) (na nb : Nat) : Prop where
 perm : (la.take na ++ lb.take nb ++ out.reverse).Perm (la ++ lb)
 asc : Asc out.reverse
 le : ∀ x ∈ la.take na ++ lb.take nb,∀ y ∈ out,kk x ≤ kk y
theorem MH.swap {la lb out : List Keyed} {na nb : Nat} (h : MH la lb out na nb) : MH lb la out nb na:=
 ⟨((List.perm_append_comm (l₁:=lb.take nb) (l₂:=la.take na)).append_right out.reverse).trans (h.perm.trans List.perm_append_comm),h.asc,fun x hx y hy=>h.le x (by rw [List.mem_append] at *; exact hx.symm) y hy⟩
theorem MH.start (la lb : List Keyed) : MH la lb [] la.length lb.length:=⟨by simp,Asc.nil,fun x _ y hy=>by cases hy⟩
theorem t8 (l : List Keyed) {i j : Nat} (h : i ≤ j) : l.take j = l.take i ++ (l.drop i).take (j - i):=by
 rw [← List.take_add,show i + (j - i) = j by exact o52 h]
theorem MH.takeA {la lb out : List Keyed} {na nb : Nat} (h : MH la lb out na nb) {i : Nat} (hi : i ≤ na) (sa : Asc la) (hle : ∀ x ∈ lb.take nb,∀ y ∈ (la.drop i).take (na - i),kk x ≤ kk y) : MH la lb (out ++ ((la.drop i).take (na - i)).reverse) i nb:=by
 have hs:=t8 la hi
 have sd : Asc (la.take na):=sa.sub (List.take_sublist ..)
 rw [hs] at sd
 obtain ⟨s1,s2,s3⟩:=Asc.app.mp sd
 have e1 : (out ++ ((la.drop i).take (na - i)).reverse).reverse = (la.drop i).take (na - i) ++ out.reverse:=by simp
 refine ⟨?_,?_,fun x hx y hy=>?_⟩
 ·rw [e1]
  refine List.Perm.trans ?_ h.perm
  rw [hs,List.append_assoc,List.append_assoc,List.append_assoc]
  refine List.Perm.append_left _ ?_
  rw [← List.append_assoc,← List.append_assoc]
  exact List.Perm.append_right _ List.perm_append_comm
 ·rw [e1]
  refine Asc.app.mpr ⟨s2,h.asc,fun x hx y hy=>h.le x ?_ y (List.mem_reverse.mp hy)⟩
  rw [hs]; exact List.mem_append_left _ (List.mem_append_right _ hx)
 ·rcases List.mem_append.mp hy with hy | hy
  ·refine h.le x ?_ y hy
   rw [List.mem_append] at *
   refine hx.imp (fun hx=>?_) id
   rw [hs]; exact List.mem_append_left _ hx
  ·rw [List.mem_reverse] at hy
   rcases List.mem_append.mp hx with hx | hx
   ·exact s3 x hx y hy
   ·exact hle x hx y hy
theorem MH.takeB {la lb out : List Keyed} {na nb : Nat} (h : MH la lb out na nb) {i : Nat} (hi : i ≤ nb) (sb : Asc lb) (hle : ∀ x ∈ la.take na,∀ y ∈ (lb.drop i).take (nb - i),kk x ≤ kk y) : MH la lb (out ++ ((lb.drop i).take (nb - i)).reverse) na i:=(h.swap.takeA hi sb hle).swap
theorem MH.fin {la lb out : List Keyed} {na nb : Nat} (h : MH la lb out na nb) (sa : Asc la) (sb : Asc lb) (hle : ∀ x ∈ la.take na,∀ y ∈ lb.take nb,kk x ≤ kk y) : (la.take na ++ lb.take nb ++ out.reverse).Perm (la ++ lb) ∧ Asc (la.take na ++ lb.take nb ++ out.reverse):=
 ⟨h.perm,Asc.app.mpr ⟨Asc.app.mpr ⟨sa.sub (List.take_sublist ..),sb.sub (List.take_sublist ..),hle⟩,h.asc,fun x hx y hy=>h.le x hx y (List.mem_reverse.mp hy)⟩⟩
theorem MH.first {la lb out : List Keyed} {na nb : Nat} (h : MH la lb out na nb) (sa : Asc la) (sb : Asc lb) (hle : ∀ x ∈ lb.take nb,∀ y ∈ la.take na,kk x ≤ kk y) : (lb.take nb ++ la.take na ++ out.reverse).Perm (la ++ lb) ∧ Asc (lb.take nb ++ la.take na ++ out.reverse):=by
 obtain ⟨h1,h2⟩:=h.swap.fin sb sa hle
 exact ⟨h1.trans List.perm_append_comm,h2⟩
end Mine
end
section
namespace Mine
structure MJH (a b out : Array Keyed) (na nb : Nat) : Prop where
 mi : MH a.toList b.toList out.toList na nb
 n0 : 0 < na
 n1 : na ≤ a.size
 m0 : 1 < nb
 m1 : nb ≤ b.size
noncomputable def g9 (a b : Array Keyed) : Prop:=∀ y,b[0]? = some y → ∀ x ∈ a.toList,kk y ≤ kk x
section
variable {a b out : Array Keyed} {na nb : Nat}
theorem jU (xs : Array Keyed) (n : Nat) : (xs.extract 0 n).toList = xs.toList.take n:=by rw [fA,List.drop_zero,Nat.sub_zero]
theorem Asc.lastly {xs : Array Keyed} (h : Asc xs.toList) {n : Nat} {x : Keyed} (hn : 0 < n) (e : xs[n - 1]? = some x) : ∀ y ∈ xs.toList.take n,kk y ≤ kk x:=by
 intro y hy
 obtain ⟨j,hj⟩:=List.mem_iff_getElem?.mp hy
 have hl:=(List.getElem?_eq_some_iff.mp hj).1
 rw [List.length_take] at hl
 rw [List.getElem?_take_of_lt (o30 hl),Array.getElem?_toList] at hj
 exact h.at (o53 hn hl) hj e
theorem AQ (T : Two a b) (h : MH a.toList b.toList out.toList na nb) (e : na = 0 ∨ nb = 0) : gE a b (a.extract 0 na ++ b.extract 0 nb ++ out.reverse):=by
 unfold gE
 rw [Array.toList_append,Array.toList_append,jU,jU,Array.toList_reverse]
 refine h.fin T.sa T.sb fun x hx y hy=>?_
 rcases e with e | e
 ·subst e; rw [List.take_zero] at hx; cases hx
 ·subst e; rw [List.take_zero] at hy; cases hy
theorem q9 (T : Two a b) (L : g9 a b) (h : MH a.toList b.toList out.toList na nb) (e : nb = 1) (hb : 0 < b.size) : gE a b (b.extract 0 nb ++ a.extract 0 na ++ out.reverse):=by
 unfold gE
 rw [Array.toList_append,Array.toList_append,jU,jU,Array.toList_reverse]
 refine h.first T.sa T.sb fun y hy x hx=>?_
 subst e
 obtain ⟨j,hj⟩:=List.mem_iff_getElem?.mp hy
 have hl:=(List.getElem?_eq_some_iff.mp hj).1
 rw [List.length_take] at hl
 rw [List.getElem?_take_of_lt (o54 hl),Array.getElem?_toList] at hj
 obtain rfl : j = 0:=o55 hl
 exact L y hj x (List.mem_of_mem_take hx)
theorem qL (T : Two a b) (h : MH a.toList b.toList out.toList na nb) (hn : 0 < na) (hm : 0 < nb) {x y : Keyed} (hx : a[na - 1]? = some x) (hy : b[nb - 1]? = some y) (hle : kk y ≤ kk x) : MH a.toList b.toList (out.push x).toList (na - 1) nb:=by
 have h1 : (a.toList.drop (na - 1)).take (na - (na - 1)) = [x]:=by rw [show na - (na - 1) = 1 by exact o56 hn]; exact gY (ce hx)
 have:=h.takeA (i:=na - 1) (o57 hn) T.sa fun z hz t ht=>by
  rw [h1,List.mem_singleton] at ht
  subst ht
  exact Int.le_trans (T.sb.lastly hm hy z hz) hle
 rw [h1] at this
 rw [Array.toList_push]
 exact this
theorem wq (T : Two a b) (h : MH a.toList b.toList out.toList na nb) (hn : 0 < na) (hm : 0 < nb) {x y : Keyed} (hx : a[na - 1]? = some x) (hy : b[nb - 1]? = some y) (hle : kk x ≤ kk y) : MH a.toList b.toList (out.push y).toList na (nb - 1):=by
 have h1 : (b.toList.drop (nb - 1)).take (nb - (nb - 1)) = [y]:=by rw [show nb - (nb - 1) = 1 by exact o56 hm]; exact gY (ce hy)
 have:=h.takeB (i:=nb - 1) (o57 hm) T.sb fun z hz t ht=>by
  rw [h1,List.mem_singleton] at ht
  subst ht
  exact Int.le_trans (T.sa.lastly hn hx z hz) hle
 rw [h1] at this
 rw [Array.toList_push]
 exact this
theorem Ac (T : Two a b) (h : MH a.toList b.toList out.toList na nb) (hm : 0 < nb) {y : Keyed} (hy : b[nb - 1]? = some y) {i : Nat} (hi : i ≤ na) (hk : ∀ j,i ≤ j → j < na → ∀ z,a[j]? = some z → kk y ≤ kk z) : MH a.toList b.toList (out ++ (a.extract i na).reverse).toList i nb:=by
 have:=h.takeA hi T.sa fun z hz t ht=>by
  obtain ⟨j,hj,e⟩:=fU ht
  exact Int.le_trans (T.sb.lastly hm hy z hz) (hk (i + j) (o58) (o59 hi hj) t e)
 rw [Array.toList_append,Array.toList_reverse,fA]
 exact this
theorem x8 (T : Two a b) (h : MH a.toList b.toList out.toList na nb) (hn : 0 < na) {x : Keyed} (hx : a[na - 1]? = some x) {i : Nat} (hi : i ≤ nb) (hk : ∀ j,i ≤ j → j < nb → ∀ z,b[j]? = some z → kk x ≤ kk z) : MH a.toList b.toList (out ++ (b.extract i nb).reverse).toList na i:=by
 have:=h.takeB hi T.sb fun z hz t ht=>by
  obtain ⟨j,hj,e⟩:=fU ht
  exact Int.le_trans (T.sa.lastly hn hx z hz) (hk (i + j) (o58) (o59 hi hj) t e)
 rw [Array.toList_append,Array.toList_reverse,fA]
 exact this
end
end Mine
end
section
namespace Mine
noncomputable def nC : Array Keyed → Array Keyed → StateT SortSt Sem (Array Keyed):=sortPriv% PySem.Builtin.mergeHi
noncomputable abbrev HiC:=Option (Array Keyed) × Nat × Nat × Array Keyed × Nat × Nat × Nat
noncomputable abbrev HiI:=Option (Array Keyed) × Nat × Nat × Array Keyed × Nat × Nat
noncomputable abbrev HiO:=Option (Array Keyed) × Nat × Nat × Array Keyed × Nat
noncomputable def lX (a b out : Array Keyed) (na nb : Nat):=a.extract 0 na ++ b.extract 0 nb ++ out.reverse
noncomputable def wo (a b out : Array Keyed) (na nb : Nat):=b.extract 0 nb ++ a.extract 0 na ++ out.reverse
noncomputable def hi3 (a b : Array Keyed) (g ac bc : Nat) (out : Array Keyed) (na nb : Nat) : StateT SortSt Sem (ForInStep HiC):=do
 let x ← elem' a (na - 1)
 if na - 1 == 0 then return .done (some (lX a b (out.push x) (na - 1) nb),na - 1,nb,out.push x,g,ac,bc)
 if ac < 7 && bc < 7 then return .done (none,na - 1,nb,out.push x,g,ac,bc)
 return .yield (none,na - 1,nb,out.push x,g,ac,bc)
noncomputable def hi2 (a b : Array Keyed) (g ac bc : Nat) (out : Array Keyed) (na nb : Nat) : StateT SortSt Sem (ForInStep HiC):=do
 let y ← elem' b (nb - 1)
 if nb - 1 == 1 then return .done (some (wo a b (out.push y) na (nb - 1)),na,nb - 1,out.push y,g,ac,bc)
 let x ← elem' a (na - 1)
 match ← fx true x b 0 (nb - 1) (nb - 1 - 1) with
 | some t=>
  if nb - 1 - t > 0 then
   if t == 1 then return .done (some (wo a b (out.push y ++ (b.extract t (nb - 1)).reverse) na t),na,t,out.push y ++ (b.extract t (nb - 1)).reverse,g,ac,nb - 1 - t)
   else if t == 0 then return .done (some (lX a b (out.push y ++ (b.extract t (nb - 1)).reverse) na t),na,t,out.push y ++ (b.extract t (nb - 1)).reverse,g,ac,nb - 1 - t)
   else hi3 a b g ac (nb - 1 - t) (out.push y ++ (b.extract t (nb - 1)).reverse) na t
  else hi3 a b g ac (nb - 1 - t) (out.push y) na (nb - 1)
 | _=>return .done (some (lX a b (out.push y) na (nb - 1)),na,nb - 1,out.push y,g,ac,bc)
noncomputable def hi1 (a b : Array Keyed) (g ac bc : Nat) (out : Array Keyed) (na nb : Nat) : StateT SortSt Sem (ForInStep HiC):=do
 i6 g
 let y ← elem' b (nb - 1)
 match ← fx false y a 0 na (na - 1) with
 | some t=>
  if na - t > 0 then
   if t == 0 then return .done (some (lX a b (out ++ (a.extract t na).reverse) t nb),t,nb,out ++ (a.extract t na).reverse,g,na - t,bc)
   else hi2 a b g (na - t) bc (out ++ (a.extract t na).reverse) t nb
  else hi2 a b g (na - t) bc out na nb
 | _=>return .done (some (lX a b out na nb),na,nb,out,g,ac,bc)
noncomputable def hiG (a b : Array Keyed) (g ac bc : Nat) (out : Array Keyed) (na nb : Nat) : StateT SortSt Sem (ForInStep HiC):=if g > 1 then hi1 a b (g - 1) ac bc out na nb else hi1 a b g ac bc out na nb
noncomputable def hiI (a b : Array Keyed) (g : Nat) (out : Array Keyed) (na nb ac bc : Nat) : StateT SortSt Sem (ForInStep HiI):=do
 let y ← elem' b (nb - 1)
 let x ← elem' a (na - 1)
 match ← lt' y x with
 | some v=>
  if v then
   let x ← elem' a (na - 1)
   if na - 1 == 0 then return .done (some (lX a b (out.push x) (na - 1) nb),na - 1,nb,out.push x,ac + 1,0)
   if ac + 1 ≥ g then return .done (none,na - 1,nb,out.push x,ac + 1,0)
   return .yield (none,na - 1,nb,out.push x,ac + 1,0)
  else
   let y ← elem' b (nb - 1)
   if nb - 1 == 1 then return .done (some (wo a b (out.push y) na (nb - 1)),na,nb - 1,out.push y,0,bc + 1)
   if bc + 1 ≥ g then return .done (none,na,nb - 1,out.push y,0,bc + 1)
   return .yield (none,na,nb - 1,out.push y,0,bc + 1)
 | _=>return .done (some (lX a b out na nb),na,nb,out,ac,bc)
noncomputable def FC (a b : Array Keyed) (g ac bc : Nat) (out : Array Keyed) (na nb : Nat) : StateT SortSt Sem (ForInStep HiO):=do
 rule "list.sort.gallop"
 let q ← forIn [0:a.size + b.size] ((none,na,nb,out,g + 1,ac,bc) : HiC) fun _ c=>hiG a b c.2.2.2.2.1 c.2.2.2.2.2.1 c.2.2.2.2.2.2 c.2.2.2.1 c.2.1 c.2.2.1
 match q.1 with
 | some z=>return .done (some z,q.2.1,q.2.2.1,q.2.2.2.1,q.2.2.2.2.1)
 | none=>
  i6 (q.2.2.2.2.1 + 1)
  return .yield (none,q.2.1,q.2.2.1,q.2.2.2.1,q.2.2.2.2.1 + 1)
noncomputable def hiO (a b : Array Keyed) (g : Nat) (out : Array Keyed) (na nb : Nat) : StateT SortSt Sem (ForInStep HiO):=do
 let r ← forIn [0:a.size + b.size] ((none,na,nb,out,0,0) : HiI) fun _ c=>hiI a b g c.2.2.2.1 c.2.1 c.2.2.1 c.2.2.2.2.1 c.2.2.2.2.2
 match r.1 with
 | some z=>return .done (some z,r.2.1,r.2.2.1,r.2.2.2.1,g)
 | none=>FC a b g r.2.2.2.2.1 r.2.2.2.2.2 r.2.2.2.1 r.2.1 r.2.2.1
theorem gp1 {x a b c d n : Nat} (h : x + c + d < n) (q : a + b < c + d - 1) : x + 1 + a + b < n:=by
 refine Nat.lt_trans ?_ h
 rw [Nat.add_assoc x c d,Nat.add_assoc (x + 1),Nat.add_assoc x 1,Nat.add_comm 1]
 exact Nat.add_lt_add_left (Nat.add_lt_of_lt_sub q) x
theorem gp2 {s a b m : Nat} (hx : max 0 s + a + b ≤ m) (hN : m ≤ s) (h : 0 < a) : False:=
 absurd (Nat.le_trans hx hN) (Nat.not_le.mpr (Nat.lt_of_lt_of_le (Nat.lt_add_of_pos_right h) (Nat.le_trans (Nat.add_le_add_right (Nat.le_max_right 0 s) a) (Nat.le_add_right _ b))))
theorem gp3 {x a b c d n : Nat} (h : x + c + d < n) (q : a + b < c + d) : x + 1 + a + b < n:=by
 refine Nat.lt_of_le_of_lt ?_ h
 rw [Nat.add_assoc x c d,Nat.add_assoc (x + 1),Nat.add_assoc x 1,Nat.add_comm 1]
 exact Nat.add_le_add_left q x
theorem tx (a b : Array Keyed) : nC a b = (do
 rule "list.sort.merge-hi"
 let x ← elem' a (a.size - 1)
 if a.size - 1 == 0 then return lX a b #[x] (a.size - 1) b.size
 if b.size == 1 then return wo a b #[x] (a.size - 1) b.size
 let st ← get
 let r ← forIn [0:a.size + b.size] ((none,a.size - 1,b.size,#[x],gallopOf st) : HiO) fun _ c=>hiO a b c.2.2.2.2 c.2.2.2.1 c.2.1 c.2.2.1
 match r.1 with
 | some z=>return z
 | none=>unsupported "internal:list.sort.merge-bound"):=by kernel_rfl
noncomputable def pY (a b : Array Keyed) (n : Nat) (r : Option (Array Keyed)) (out : Array Keyed) (na nb : Nat) : Prop:=(∃ res,r = some res ∧ gE a b res) ∨ (r = none ∧ MJH a b out na nb ∧ na + nb < n)
noncomputable def A3 (a b : Array Keyed) (n : Nat) (r : Option (Array Keyed)) (out : Array Keyed) (na nb : Nat) : Prop:=r = none ∧ MJH a b out na nb ∧ na + nb < n
noncomputable def HiQ (a b : Array Keyed) (n : Nat) : ForInStep HiC → Prop
 | .done c=>pY a b n c.1 c.2.2.2.1 c.2.1 c.2.2.1
 | .yield c=>A3 a b n c.1 c.2.2.2.1 c.2.1 c.2.2.1
noncomputable def H1 (a b : Array Keyed) (n : Nat) : ForInStep HiI → Prop
 | .done c=>pY a b n c.1 c.2.2.2.1 c.2.1 c.2.2.1
 | .yield c=>A3 a b n c.1 c.2.2.2.1 c.2.1 c.2.2.1
noncomputable def ES (a b : Array Keyed) (n : Nat) : ForInStep HiO → Prop
 | .done c=>∃ res,c.1 = some res ∧ gE a b res
 | .yield c=>A3 a b n c.1 c.2.2.2.1 c.2.1 c.2.2.1
theorem pY.mono {a b : Array Keyed} {n m : Nat} {r : Option (Array Keyed)} {out : Array Keyed} {na nb : Nat} (h : pY a b n r out na nb) (hn : n ≤ m) : pY a b m r out na nb:=h.imp id fun ⟨e1,e2,e3⟩=>⟨e1,e2,Nat.lt_of_lt_of_le e3 hn⟩
section
variable {prog : Program} {w : World} {A : Around} {E : Value → Shared → Prop} {s : Shared} {st : SortSt} {a b out : Array Keyed} {na nb g ac bc n : Nat} {x y : Keyed}
theorem wK {k : Nat} (h0 : 0 < na) (hn : na + nb ≤ n) : na - 1 + nb < n:=o60 h0 hn
theorem BM (h0 : 1 < nb) (hn : na + nb ≤ n) : na + (nb - 1) < n:=o61 h0 hn
theorem wC {Q : ForInStep HiC → SortSt → Prop} (T : Two a b) (m : MJH a b out na nb) (hn : na + nb ≤ n) (ex : a[na - 1]? = some x) (ey : b[nb - 1]? = some y) (hle : kk y ≤ kk x)
  (h : ∀ r,HiQ a b n r → Q r st) : wpS (model prog w) A E s (hi3 a b g ac bc out na nb) Q st:=by
 have md:=qL T m.mi m.n0 (Nat.lt_of_succ_lt m.m0) ex ey hle
 refine wpS_bind (bP ex ?_)
 by_cases c : na - 1 = 0
 ·rw [if_pos (beq_iff_eq.mpr c)]
  exact wpS_pure (h _ (.inl ⟨_,rfl,AQ T md (.inl c)⟩))
 ·rw [if_neg (_root_.mt beq_iff_eq.mp c)]
  have mj : MJH a b (out.push x) (na - 1) nb:=⟨md,Nat.pos_of_ne_zero c,Nat.le_trans (Nat.sub_le _ _) m.n1,m.m0,m.m1⟩
  have hl:=wK (k:=0) m.n0 hn
  split
  ·exact wpS_pure (h _ (.inr ⟨rfl,mj,hl⟩))
  ·exact wpS_pure (h _ ⟨rfl,mj,hl⟩)
theorem wM {Q : ForInStep HiC → SortSt → Prop} (hk : kindOf st = oneType') (T : Two a b) (F : g9 a b) (m : MJH a b out na nb) (hn : na + nb ≤ n + 1) (ex : a[na - 1]? = some x) (ey : b[nb - 1]? = some y) (hle : kk x ≤ kk y)
  (h : ∀ r,HiQ a b n r → Q r st) : wpS (model prog w) A E s (hi2 a b g ac bc out na nb) Q st:=by
 have hb : 0 < b.size:=Nat.lt_of_lt_of_le (Nat.lt_of_succ_lt m.m0) m.m1
 have mb:=wq T m.mi m.n0 (Nat.lt_of_succ_lt m.m0) ex ey hle
 refine wpS_bind (bP ey ?_)
 by_cases c3 : nb - 1 = 1
 ·rw [if_pos (beq_iff_eq.mpr c3)]
  exact wpS_pure (h _ (.inl ⟨_,rfl,q9 T F mb c3 hb⟩))
 rw [if_neg (_root_.mt beq_iff_eq.mp c3)]
 have h0:=m.m0; have h1:=m.m1
 have hm : 1 < nb - 1:=o62 c3 h0
 clear c3
 have kx : IsK x:=T.ka x (List.mem_of_getElem? (ce ex))
 refine wpS_bind (bP ex ?_)
 refine wpS_bind (mY hk kx T.sb T.kb (o63 h0 h1) (o64 h0) fun t ht0 hlo hhi=>?_)
 have h2 : ∀ j,t ≤ j → j < nb - 1 → ∀ z,b[j]? = some z → kk x ≤ kk z:=fun j hj hj2 z e=>by
  have:=hhi j hj hj2 z (by rw [Nat.zero_add]; exact e)
  unfold gg at this; simpa using this
 have h3 : ∀ j,j < t → ∀ z,b[j]? = some z → kk z ≤ kk x:=fun j hj z e=>by
  have:=hlo j hj z (by rw [Nat.zero_add]; exact e)
  unfold gg at this; exact Int.le_of_lt (by simpa using this)
 dsimp only
 by_cases c : nb - 1 - t > 0
 ·rw [if_pos c]
  have mc:=x8 T mb m.n0 ex (i:=t) ht0 h2
  by_cases c4 : t = 1
  ·rw [if_pos (beq_iff_eq.mpr c4)]
   exact wpS_pure (h _ (.inl ⟨_,rfl,q9 T F mc c4 hb⟩))
  rw [if_neg (_root_.mt beq_iff_eq.mp c4)]
  by_cases c6 : t = 0
  ·rw [if_pos (beq_iff_eq.mpr c6)]
   exact wpS_pure (h _ (.inl ⟨_,rfl,AQ T mc (.inr c6)⟩))
  rw [if_neg (_root_.mt beq_iff_eq.mp c6)]
  have h5 : t - 1 < b.size:=o65 h0 h1 c c4 c6
  exact wC T ⟨mc,m.n0,m.n1,(o66 c4 c6),(o67 h0 h1 h5)⟩ (o68 hn h0 c c4 c6) ex (getElem?_pos b _ h5) (h3 _ (o69 c6) _ (getElem?_pos b _ h5)) h
 ·rw [if_neg c]
  obtain rfl : t = nb - 1:=o70 h0 ht0 c
  have h5 : nb - 1 - 1 < b.size:=o71 h0 h1
  exact wC T ⟨mb,m.n0,m.n1,hm,(o72 h0 h1 c)⟩ (o73 hn h0 c) ex (getElem?_pos b _ h5) (h3 _ (o74 h0 c) _ (getElem?_pos b _ h5)) h
theorem BX {Q : ForInStep HiC → SortSt → Prop} (hk : kindOf st = oneType') (T : Two a b) (F : g9 a b) (m : MJH a b out na nb) (hn : na + nb ≤ n + 1)
  (h : ∀ r st',fB st st' → HiQ a b n r → Q r st') : wpS (model prog w) A E s (hi1 a b g ac bc out na nb) Q st:=by
 have n0:=m.n0; have n1:=m.n1; have m0:=m.m0; have m1:=m.m1
 have hy : nb - 1 < b.size:=o75 m0 m1
 have ey : b[nb - 1]? = some b[nb - 1]:=getElem?_pos b _ hy
 have ky : IsK b[nb - 1]:=T.kb _ (List.mem_of_getElem? (ce ey))
 revert ey ky
 generalize b[nb - 1] = y
 intro ey ky
 refine wpS_bind (il fun st3 hs3=>?_)
 have hk3:=hs3.1.trans hk
 refine wpS_bind (bP ey ?_)
 refine wpS_bind (mY hk3 ky T.sa T.ka (o76 n1) (o77 n0) fun t ht0 hlo hhi=>?_)
 have h2 : ∀ j,t ≤ j → j < na → ∀ z,a[j]? = some z → kk y ≤ kk z:=fun j hj hj2 z e=>by
  have:=hhi j hj hj2 z (by rw [Nat.zero_add]; exact e)
  unfold gg at this; exact Int.le_of_lt (by simpa using this)
 have h3 : ∀ j,j < t → ∀ z,a[j]? = some z → kk z ≤ kk y:=fun j hj z e=>by
  have:=hlo j hj z (by rw [Nat.zero_add]; exact e)
  unfold gg at this; simpa using this
 dsimp only
 by_cases c : na - t > 0
 ·rw [if_pos c]
  have ma:=Ac T m.mi (Nat.lt_of_succ_lt m0) ey (i:=t) ht0 h2
  by_cases c1 : t = 0
  ·rw [if_pos (beq_iff_eq.mpr c1)]
   exact wpS_pure (h _ _ hs3 (.inl ⟨_,rfl,AQ T ma (.inl c1)⟩))
  rw [if_neg (_root_.mt beq_iff_eq.mp c1)]
  have h5 : t - 1 < a.size:=o78 n0 n1 ht0
  exact wM hk3 T F ⟨ma,Nat.pos_of_ne_zero c1,(o79 n1 ht0),m0,m1⟩ (o80 hn ht0) (getElem?_pos a _ h5) ey (h3 _ (o69 c1) _ (getElem?_pos a _ h5)) fun r hr=>h r _ hs3 hr
 ·rw [if_neg c]
  obtain rfl : t = na:=o81 ht0 c
  have h5 : t - 1 < a.size:=o82 n0 n1
  exact wM hk3 T F m hn (getElem?_pos a _ h5) ey (h3 _ (o77 n0) _ (getElem?_pos a _ h5)) fun r hr=>h r _ hs3 hr
theorem Cv {Q : ForInStep HiC → SortSt → Prop} (hk : kindOf st = oneType') (T : Two a b) (F : g9 a b) (m : MJH a b out na nb) (hn : na + nb ≤ n + 1)
  (h : ∀ r st',fB st st' → HiQ a b n r → Q r st') : wpS (model prog w) A E s (hiG a b g ac bc out na nb) Q st:=by
 unfold hiG
 split <;> exact BX hk T F m hn h
theorem Bw {Q : ForInStep HiI → SortSt → Prop} (hk : kindOf st = oneType') (T : Two a b) (F : g9 a b) (m : MJH a b out na nb)
  (h : ∀ r,H1 a b (na + nb) r → Q r st) : wpS (model prog w) A E s (hiI a b g out na nb ac bc) Q st:=by
 have n0:=m.n0; have n1:=m.n1; have m0:=m.m0; have m1:=m.m1
 have hx : na - 1 < a.size:=o82 n0 n1
 have hy : nb - 1 < b.size:=o75 m0 m1
 have ex : a[na - 1]? = some a[na - 1]:=getElem?_pos a _ hx
 have ey : b[nb - 1]? = some b[nb - 1]:=getElem?_pos b _ hy
 have kx : IsK a[na - 1]:=T.ka _ (List.mem_of_getElem? (ce ex))
 have ky : IsK b[nb - 1]:=T.kb _ (List.mem_of_getElem? (ce ey))
 revert ex ey kx ky
 generalize a[na - 1] = x
 generalize b[nb - 1] = y
 intro ex ey kx ky
 refine wpS_bind (bP ey (wpS_bind (bP ex (wpS_bind (mL hk ky kx ?_)))))
 dsimp only
 by_cases hlt : kk y < kk x
 ·rw [if_pos (decide_eq_true hlt)]
  have md:=qL T m.mi n0 (Nat.lt_of_succ_lt m0) ex ey (Int.le_of_lt hlt)
  refine wpS_bind (bP ex ?_)
  by_cases c : na - 1 = 0
  ·rw [if_pos (beq_iff_eq.mpr c)]
   exact wpS_pure (h _ (.inl ⟨_,rfl,AQ T md (.inl c)⟩))
  ·rw [if_neg (_root_.mt beq_iff_eq.mp c)]
   have mj : MJH a b (out.push x) (na - 1) nb:=⟨md,Nat.pos_of_ne_zero c,Nat.le_of_lt hx,m0,m1⟩
   have hl:=wK (k:=0) n0 (Nat.le_refl (na + nb))
   split
   ·exact wpS_pure (h _ (.inr ⟨rfl,mj,hl⟩))
   ·exact wpS_pure (h _ ⟨rfl,mj,hl⟩)
 ·rw [if_neg (by simpa using hlt)]
  have mb:=wq T m.mi n0 (Nat.lt_of_succ_lt m0) ex ey (Int.not_lt.mp hlt)
  refine wpS_bind (bP ey ?_)
  by_cases c : nb - 1 = 1
  ·rw [if_pos (beq_iff_eq.mpr c)]
   exact wpS_pure (h _ (.inl ⟨_,rfl,q9 T F mb c (o83 hy c)⟩))
  ·rw [if_neg (_root_.mt beq_iff_eq.mp c)]
   have mj : MJH a b (out.push y) na (nb - 1):=⟨mb,n0,n1,(o84 m0 c),Nat.le_of_lt hy⟩
   have hl:=BM m0 (Nat.le_refl (na + nb))
   split
   ·exact wpS_pure (h _ (.inr ⟨rfl,mj,hl⟩))
   ·exact wpS_pure (h _ ⟨rfl,mj,hl⟩)
theorem Dp {k l n x : Nat} (h : k + l < n) (hx : x + k + l < n) (hn : n ≤ max 0 x) : False:=o85 hx hn
theorem zI {Q : ForInStep HiO → SortSt → Prop} (hk : kindOf st = oneType') (T : Two a b) (F : g9 a b) (m : MJH a b out na nb) (hn : na + nb < n) (hN : n ≤ a.size + b.size)
  (h : ∀ r st',fB st st' → ES a b n r → Q r st') : wpS (model prog w) A E s (FC a b g ac bc out na nb) Q st:=by
 refine wpS_bind (wpS_lift (wpAny_rule ⟨rfl,?_⟩))
 refine wpS_bind (wpS_mono (wpS_forRange (I:=fun x c st'=>fB st st' ∧ A3 a b n c.1 c.2.2.2.1 c.2.1 c.2.2.1 ∧ x + c.2.1 + c.2.2.1 < n)
  (Q:=fun c st'=>fB st st' ∧ pY a b n c.1 c.2.2.2.1 c.2.1 c.2.2.1) (fun x c st2 _ _ ⟨hs,hi,hx⟩=>?step) (fun c st' ⟨hs,hi,hx⟩=>(Dp hi.2.2 hx (Nat.le_trans hN (Nat.le_max_right _ _))).elim) ⟨⟨rfl,rfl,rfl,rfl⟩,⟨rfl,m,hn⟩,by rw [Nat.zero_add]; exact hn⟩) fun c st' ⟨hs,hp⟩=>?post)
 case post=>
  rcases hp with ⟨res,e,hp⟩ | ⟨e,hj,hl⟩
  ·rw [e]
   exact wpS_pure (h _ _ hs ⟨res,rfl,hp⟩)
  ·rw [e]
   exact wpS_bind (il fun st3 hs3=>wpS_pure (h _ _ (hs.trans hs3) ⟨rfl,hj,hl⟩))
 case step=>
  refine Cv (n:=c.2.1 + c.2.2.1 - 1) (hs.1.trans hk) T F hi.2.1 (o86) fun r st' hs2 hr=>?_
  have hl:=hi.2.2
  cases r with
  | done c=>exact ⟨hs.trans hs2,pY.mono hr (o87 hn hl)⟩
  | yield c=>
   obtain ⟨q1,q2,q3⟩:=hr
   exact ⟨hs.trans hs2,⟨q1,q2,(o88 hl q3)⟩,gp1 hx q3⟩
theorem BP {Q : ForInStep HiO → SortSt → Prop} (hk : kindOf st = oneType') (T : Two a b) (F : g9 a b) (m : MJH a b out na nb) (hN : na + nb ≤ a.size + b.size)
  (h : ∀ r st',fB st st' → ES a b (na + nb) r → Q r st') : wpS (model prog w) A E s (hiO a b g out na nb) Q st:=by
 refine wpS_bind (wpS_mono (wpS_forRange (I:=fun x c st'=>st' = st ∧ c.1 = none ∧ MJH a b c.2.2.2.1 c.2.1 c.2.2.1 ∧ x + c.2.1 + c.2.2.1 ≤ na + nb)
  (Q:=fun c st'=>st' = st ∧ pY a b (na + nb) c.1 c.2.2.2.1 c.2.1 c.2.2.1) (fun x c st2 _ _ ⟨hs,e,hj,hx⟩=>?step) (fun c st' ⟨hs,e,hj,hx⟩=>?fin) ⟨rfl,rfl,m,by rw [Nat.zero_add]; exact Nat.le_refl _⟩) fun c st' ⟨hs,hp⟩=>?post)
 case fin=>
  exfalso
  exact gp2 hx hN (hj.n0)
 case post=>
  subst hs
  rcases hp with ⟨res,e,hp⟩ | ⟨e,hj,hl⟩
  ·rw [e]
   exact wpS_pure (h _ _ ⟨rfl,rfl,rfl,rfl⟩ ⟨res,rfl,hp⟩)
  ·rw [e]
   exact zI hk T F hj hl hN h
 case step=>
  subst hs
  refine Bw hk T F hj fun r hr=>?_
  cases r with
  | done d=>exact ⟨rfl,pY.mono hr (Nat.le_trans (by rw [Nat.add_assoc]; exact Nat.le_add_left _ _) hx)⟩
  | yield d=>
   obtain ⟨q1,q2,q3⟩:=hr
   exact ⟨rfl,q1,q2,(o89 hx q3)⟩
theorem tg {Q : Array Keyed → SortSt → Prop} (hk : kindOf st = oneType') (T : Two a b) (L : iK a b) (F : g9 a b) (ha : 0 < a.size) (hb : 0 < b.size)
  (h : ∀ res st',fB st st' → gE a b res → Q res st') : wpS (model prog w) A E s (nC a b) Q st:=by
 rw [tx]
 have hx : a.size - 1 < a.size:=o77 ha
 have hy : b.size - 1 < b.size:=o77 hb
 have ea : a[a.size - 1]? = some a[a.size - 1]:=getElem?_pos a _ hx
 have eb : b[b.size - 1]? = some b[b.size - 1]:=getElem?_pos b _ hy
 have m0 : MH a.toList b.toList (#[] : Array Keyed).toList a.size b.size:=by have:=MH.start a.toList b.toList; rw [Array.length_toList,Array.length_toList] at this; exact this
 have m1:=qL (out:=#[]) T m0 ha hb ea eb (L _ ea _ (List.mem_of_getElem? (ce eb)))
 revert ea m1
 generalize a[a.size - 1] = x
 intro ea m1
 clear eb m0
 have S0 : fB st st:=⟨rfl,rfl,rfl,rfl⟩
 refine wpS_bind (wpS_lift (wpAny_rule ⟨rfl,?_⟩))
 refine wpS_bind (bP ea ?_)
 by_cases hb1 : a.size - 1 = 0
 ·rw [if_pos (beq_iff_eq.mpr hb1)]
  exact wpS_pure (h _ _ S0 (AQ T m1 (.inl hb1)))
 rw [if_neg (_root_.mt beq_iff_eq.mp hb1)]
 by_cases ha1 : b.size = 1
 ·rw [if_pos (beq_iff_eq.mpr ha1)]
  exact wpS_pure (h _ _ S0 (q9 T F m1 ha1 hb))
 rw [if_neg (_root_.mt beq_iff_eq.mp ha1)]
 have hb2 : 1 < b.size:=o90 hb ha1
 have hab : 0 + (a.size - 1) + b.size < a.size + b.size:=o91 hx
 refine wpS_bind (wpS_get ?_)
 refine wpS_bind (wpS_mono (wpS_forRange (I:=fun x c st'=>fB st st' ∧ c.1 = none ∧ MJH a b c.2.2.2.1 c.2.1 c.2.2.1 ∧ x + c.2.1 + c.2.2.1 < a.size + b.size)
  (Q:=fun c st'=>fB st st' ∧ ∃ res,c.1 = some res ∧ gE a b res) (fun x c st2 _ _ ⟨hs,e,hj,hx⟩=>?step) (fun c st' ⟨hs,e,hj,hx⟩=>?fin) ⟨S0,rfl,⟨m1,Nat.pos_of_ne_zero hb1,Nat.le_of_lt hx,hb2,Nat.le_refl _⟩,hab⟩) fun c st' ⟨hs,hp⟩=>?post)
 case post=>
  obtain ⟨res,e,hp⟩:=hp
  rw [e]
  exact wpS_pure (h _ _ hs hp)
 case fin=>
  exfalso
  exact gp2 (Nat.le_of_lt hx) (Nat.le_refl _) (hj.n0)
 case step=>
  have e1:=hj.n1; have e2:=hj.m1
  refine BP (hs.1.trans hk) T F hj (Nat.add_le_add e1 e2) fun r st' hs2 hr=>?_
  cases r with
  | done d=>exact ⟨hs.trans hs2,hr⟩
  | yield d=>
   obtain ⟨q1,q2,q3⟩:=hr
   exact ⟨hs.trans hs2,q1,q2,gp3 hx q3⟩
end
end Mine
end
section
namespace Mine
theorem sq (i : Nat) : mergeAt' i = (do
 let s ← get
 let (some (sa,na,power),some (sb,nb,_)):=((pendingOf s)[i]?,(pendingOf s)[i + 1]?) | unsupported "internal:list.sort.pending"
 set (setPending s (((pendingOf s).setIfInBounds i (sa,na + nb,power)).eraseIdxIfInBounds (i + 1)))
 let some k ← fx false (← elem' (arrOf s) sb) (arrOf s) sa na 0 | return false
 let (sa,na):=(sa + k,na - k)
 if na == 0 then return true
 let some nb ← fx true (← elem' (arrOf s) (sa + na - 1)) (arrOf s) sb nb (nb - 1) | return false
 if nb == 0 then return true
 let x:=(arrOf s).extract sa sb
 let y:=(arrOf s).extract sb (sb + nb)
 let merged ← if na ≤ nb then on x y else nC x y
 modify fun s=>setArr s (merged.toList.zipIdx.foldl (fun a (p,j)=>a.setIfInBounds (sa + j) p) (arrOf s))
 return (failedOf (← get)).isNone):=rfl
theorem pE {xs : Array Keyed} {b : Nat} : ∀ (ys M P S : List Keyed) (o : Nat) (xs : Array Keyed),xs.toList = P ++ M ++ S → ys.length = M.length → P.length = b + o →
  ((ys.zipIdx o).foldl (fun a (p,j)=>a.setIfInBounds (b + j) p) xs).toList = P ++ ys ++ S
 | [],M,P,S,o,xs,h,hl,_=>by
  have : M = []:=List.eq_nil_of_length_eq_zero hl.symm
  subst this
  exact h
 | y :: ys,[],P,S,o,xs,h,hl,_=>by simp at hl
 | y :: ys,m :: M,P,S,o,xs,h,hl,hp=>by
  rw [List.zipIdx_cons,List.foldl_cons]
  have:=pE (b:=b) (xs:=xs) ys M (P ++ [y]) S (o + 1) (xs.setIfInBounds (b + o) y) (by
   rw [Array.toList_setIfInBounds,h,← hp,List.append_assoc P,List.set_append_right _ _ (Nat.le_refl _),Nat.sub_self]
   simp) (by simpa using hl) (by simp; exact o92 hp)
  rw [this]
  simp
theorem u5 {xs : Array Keyed} {L S R : List Keyed} (h : xs.toList = L ++ S ++ R) {j : Nat} (hj : j < S.length) : xs[L.length + j]? = some S[j]:=by
 rw [← Array.getElem?_toList,h,List.append_assoc,List.getElem?_append_right (o58),Nat.add_sub_cancel_left,List.getElem?_append_left hj]
 exact List.getElem?_eq_getElem hj
theorem Asc.idx {l : List Keyed} (h : Asc l) {i j : Nat} (hij : i ≤ j) (hj : j < l.length) : kk (l[i]'(o93 hij hj)) ≤ kk l[j]:=by
 refine h.first (List.getElem?_eq_getElem (o93 hij hj)) _ ?_
 rw [List.mem_iff_getElem?]
 exact ⟨j - i,by rw [List.getElem?_drop,show i + (j - i) = j by exact o52 hij]; exact List.getElem?_eq_getElem hj⟩
section
variable {prog : Program} {w : World} {A : Around} {E : Value → Shared → Prop} {s : Shared}
theorem ng {st : SortSt} {left : Bool} {key : Keyed} {arr : Array Keyed} {base n hint : Nat} {L S R : List Keyed} {Q : Option Nat → SortSt → Prop} (hk : kindOf st = oneType') (hx : IsK key)
  (ha : arr.toList = L ++ S ++ R) (hb : base = L.length) (hn : n = S.length) (sa : Asc S) (ka : ∀ p ∈ S,IsK p) (hh : hint < n)
  (h : ∀ k,k ≤ n → (∀ z ∈ S.take k,gg left key z = true) → (∀ z ∈ S.drop k,gg left key z = false) → Q (some k) st) : wpS (model prog w) A E s (fx left key arr base n hint) Q st:=by
 subst hb hn
 refine nf hk hx (fun j=>match S[j]? with | some z=>gg left key z | none=>false) (fun j hj=>?_) (fun i j hij hj hp=>?_) hh fun k hk h1 h2=>h k hk (fun z hz=>?_) fun z hz=>?_
 ·refine ⟨S[j],u5 ha hj,ka _ (List.getElem_mem _),?_⟩
  rw [List.getElem?_eq_getElem hj]
 ·have:=sa.idx hij hj
  rw [List.getElem?_eq_getElem hj] at hp
  rw [List.getElem?_eq_getElem (o93 hij hj)]
  dsimp only at hp ⊢
  unfold gg at hp ⊢
  cases left with
  | true=>
   rw [if_pos rfl] at hp ⊢
   rw [decide_eq_true_eq] at hp ⊢
   exact Int.lt_of_le_of_lt this hp
  | false=>
   rw [if_neg (by decide)] at hp ⊢
   rw [Bool.not_eq_true',decide_eq_false_iff_not] at hp ⊢
   exact fun h=>hp (Int.lt_of_lt_of_le h this)
 ·obtain ⟨j,hj⟩:=List.mem_iff_getElem?.mp hz
  have hl:=(List.getElem?_eq_some_iff.mp hj).1
  rw [List.length_take] at hl
  rw [List.getElem?_take_of_lt (o96 hk hl)] at hj
  have:=h1 j (o96 hk hl)
  rw [hj] at this
  exact this
 ·obtain ⟨j,hj⟩:=List.mem_iff_getElem?.mp hz
  rw [List.getElem?_drop] at hj
  have hl:=(List.getElem?_eq_some_iff.mp hj).1
  have:=h2 (k + j) (o58) hl
  rw [hj] at this
  exact this
theorem tj {st : SortSt} {i : Nat} {L X Y R : List Keyed} {p1 p2 : List (Nat × Nat × Nat)} {pw pw2 : Nat} {Q : Bool → SortSt → Prop} (hk : kindOf st = oneType') (hf : failedOf st = none) (ha : (arrOf st).toList = L ++ X ++ Y ++ R)
  (sx : Asc X) (sy : Asc Y) (kx : ∀ p ∈ X,IsK p) (ky : ∀ p ∈ Y,IsK p) (nx : X ≠ []) (ny : Y ≠ []) (hp : (pendingOf st).toList = p1 ++ (L.length,X.length,pw) :: (L.length + X.length,Y.length,pw2) :: p2) (hi : i = p1.length)
  (h : ∀ (st' : SortSt) M,kindOf st' = oneType' → failedOf st' = none → (arrOf st').toList = L ++ M ++ R → M.Perm (X ++ Y) → Asc M → (pendingOf st').toList = p1 ++ (L.length,X.length + Y.length,pw) :: p2 → Q true st') : wpS (model prog w) A E s (mergeAt' i) Q st:=by
 rw [sq]
 have lx:=List.length_pos_iff.mpr nx
 have ly:=List.length_pos_iff.mpr ny
 refine wpS_bind (wpS_get ?_)
 have e1 : (pendingOf st)[i]? = some (L.length,X.length,pw):=by rw [← Array.getElem?_toList,hp,hi,List.getElem?_append_right (Nat.le_refl _),Nat.sub_self]; rfl
 have e2 : (pendingOf st)[i + 1]? = some (L.length + X.length,Y.length,pw2):=by rw [← Array.getElem?_toList,hp,hi,List.getElem?_append_right (o97),Nat.add_sub_cancel_left]; rfl
 rw [e1,e2]
 dsimp only
 have e3 : (((pendingOf st).setIfInBounds i (L.length,X.length + Y.length,pw)).eraseIdxIfInBounds (i + 1)).toList = p1 ++ (L.length,X.length + Y.length,pw) :: p2:=by
  rw [Array.toList_eraseIdxIfInBounds,Array.toList_setIfInBounds,hp,hi,List.set_append_right _ _ (Nat.le_refl _),Nat.sub_self,List.eraseIdx_append_of_length_le (o97),Nat.add_sub_cancel_left]
  rfl
 generalize (((pendingOf st).setIfInBounds i (L.length,X.length + Y.length,pw)).eraseIdxIfInBounds (i + 1)) = pp at e3
 refine wpS_bind (wpS_modify (f:=fun _=>setPending st pp) ?_)
 have ax : (arrOf st).toList = L ++ X ++ (Y ++ R):=by rw [ha,List.append_assoc]
 have ay : (arrOf st).toList = (L ++ X) ++ Y ++ R:=ha
 have lb : L.length + X.length = (L ++ X).length:=by simp
 have eb : (arrOf st)[L.length + X.length]? = some Y[0]:=by rw [lb]; exact u5 (j:=0) ay ly
 have kb : IsK Y[0]:=ky _ (List.getElem_mem _)
 refine wpS_bind (bP eb ?_)
 refine wpS_bind (ng hk kb ax rfl rfl sx kx lx fun k hk1 hlo hhi=>?_)
 dsimp only
 have b0 : ∀ y ∈ Y,kk Y[0] ≤ kk y:=fun y hy=>sy.first (i:=0) (List.getElem?_eq_getElem ly) y hy
 have q1 : ∀ x ∈ X.take k,kk x ≤ kk Y[0]:=fun x hx=>by have:=hlo x hx; unfold gg at this; simpa using this
 have q2 : ∀ x ∈ X.drop k,kk Y[0] < kk x:=fun x hx=>by have:=hhi x hx; unfold gg at this; simpa using this
 by_cases c1 : X.length - k = 0
 ·rw [if_pos (by simpa using c1)]
  have : X.take k = X:=List.take_of_length_le (o98 lb c1)
  rw [this] at q1
  exact wpS_pure (h (setPending st pp) (X ++ Y) hk hf (by rw [show arrOf (setPending st pp) = arrOf st from rfl,ha]; simp) (List.Perm.refl _) (Asc.app.mpr ⟨sx,sy,fun x hx y hy=>Int.le_trans (q1 x hx) (b0 y hy)⟩) e3)
 rw [if_neg (by simpa using c1)]
 have el : (arrOf st)[L.length + k + (X.length - k) - 1]? = some (X[X.length - 1]'(o99 lx lb)):=by
  rw [show L.length + k + (X.length - k) - 1 = L.length + (X.length - 1) by exact Hg lx lb hk1]
  exact u5 ax (o99 lx lb)
 have kl : IsK (X[X.length - 1]'(o99 lx lb)):=kx _ (List.getElem_mem _)
 have hl : ∀ x ∈ X,kk x ≤ kk (X[X.length - 1]'(o99 lx lb)):=fun x hx=>by
  obtain ⟨j,hj,rfl⟩:=List.mem_iff_getElem.mp hx
  exact sx.idx (Jo lx lb hj) (o99 lx lb)
 refine wpS_bind (bP el ?_)
 refine wpS_bind (ng hk kl ay lb rfl sy ky (o77 ly) fun m hm1 hmlo hmhi=>?_)
 dsimp only
 have q3 : ∀ y ∈ Y.take m,kk y < kk (X[X.length - 1]'(o99 lx lb)):=fun y hy=>by have:=hmlo y hy; unfold gg at this; simpa using this
 have q4 : ∀ y ∈ Y.drop m,kk (X[X.length - 1]'(o99 lx lb)) ≤ kk y:=fun y hy=>by have:=hmhi y hy; unfold gg at this; simpa using this
 by_cases c2 : m = 0
 ·rw [if_pos (by simpa using c2)]
  subst c2
  rw [List.drop_zero] at q4
  exact wpS_pure (h (setPending st pp) (X ++ Y) hk hf (by rw [show arrOf (setPending st pp) = arrOf st from rfl,ha]; simp) (List.Perm.refl _) (Asc.app.mpr ⟨sx,sy,fun x hx y hy=>Int.le_trans (hl x hx) (q4 y hy)⟩) e3)
 rw [if_neg (by simpa using c2)]
 have xl : ((arrOf st).extract (L.length + k) (L.length + X.length)).toList = X.drop k:=by
  rw [fA,ax,List.append_assoc,List.drop_append,List.drop_of_length_le (o58),List.nil_append,Nat.add_sub_cancel_left,List.drop_append_of_le_length hk1,List.take_append_of_le_length (by rw [List.length_drop]; exact GX lb hk1)]
  exact List.take_of_length_le (by rw [List.length_drop]; exact Jx lb hk1)
 have yl : ((arrOf st).extract (L.length + X.length) (L.length + X.length + m)).toList = Y.take m:=by
  rw [fA,ay,List.append_assoc,lb,List.drop_left,Nat.add_sub_cancel_left,List.take_append_of_le_length hm1]
 generalize (arrOf st).extract (L.length + k) (L.length + X.length) = ex at xl
 generalize (arrOf st).extract (L.length + X.length) (L.length + X.length + m) = ey at yl
 have sX : ex.size = X.length - k:=by rw [← Array.length_toList,xl,List.length_drop]
 have sY : ey.size = m:=by rw [← Array.length_toList,yl,List.length_take]; exact G8 hm1
 have T : Two ex ey:=⟨by rw [xl]; exact sx.sub (List.drop_sublist ..),by rw [yl]; exact sy.sub (List.take_sublist ..),by rw [xl]; exact fun p hp=>kx p (List.mem_of_mem_drop hp),by rw [yl]; exact fun p hp=>ky p (List.mem_of_mem_take hp)⟩
 have LA : iK ex ey:=fun x hx y hy=>by
  have hx' : ex[ex.size - 1]? = some (X[X.length - 1]'(by exact o99 lx lb)):=by
   rw [← Array.getElem?_toList,xl,List.getElem?_drop,sX,show k + (X.length - k - 1) = X.length - 1 by exact GO lx lb hk1 c1 c2 sY]
   exact List.getElem?_eq_getElem _
  rw [hx'] at hx
  cases hx
  rw [yl] at hy
  exact Int.le_of_lt (q3 y hy)
 have FB : g9 ex ey:=fun y hy x hx=>by
  have hy' : ey[0]? = some Y[0]:=by
   rw [← Array.getElem?_toList,yl,List.getElem?_take_of_lt (Jc lb hk1 c2 sY)]
   exact List.getElem?_eq_getElem _
  rw [hy'] at hy
  cases hy
  rw [xl] at hx
  exact Int.le_of_lt (q2 x hx)
 have fin : ∀ res (st1 : SortSt),fB (setPending st pp) st1 → gE ex ey res → wpS (model prog w) A E s (do
   modify fun s=>setArr s (res.toList.zipIdx.foldl (fun a (p,j)=>a.setIfInBounds (L.length + k + j) p) (arrOf s))
   return (failedOf (← get)).isNone) Q st1:=by
  intro res st1 hs hpost
  obtain ⟨hp1,hp2⟩:=hpost
  rw [xl,yl] at hp1
  refine wpS_bind (wpS_modify ?_)
  refine wpS_bind (wpS_get ?_)
  have ef : failedOf (setArr st1 (res.toList.zipIdx.foldl (fun a (p,j)=>a.setIfInBounds (L.length + k + j) p) (arrOf st1))) = none:=hs.2.2.2.trans hf
  rw [ef]
  have earr : arrOf st1 = arrOf st:=hs.2.1
  have rl:=pE (xs:=arrOf st1) (b:=L.length + k) res.toList (X.drop k ++ Y.take m) (L ++ X.take k) (Y.drop m ++ R) 0 (arrOf st1) (by
   rw [earr,ha]
   conv=>lhs; rw [← List.take_append_drop k X,← List.take_append_drop m Y]
   simp only [List.append_assoc]) (by rw [hp1.length_eq]) (by simp; exact Jd lb hk1)
  refine wpS_pure (h _ (X.take k ++ res.toList ++ Y.drop m) (hs.1.trans hk) ef ?_ ?_ ?_ ?_)
  ·refine rl.trans ?_
   simp only [List.append_assoc]
  ·refine ((hp1.append_left (X.take k)).append_right (Y.drop m)).trans ?_
   refine List.Perm.of_eq ?_
   conv=>rhs; rw [← List.take_append_drop k X,← List.take_append_drop m Y]
   simp only [List.append_assoc]
  ·have mres : ∀ z ∈ res.toList,z ∈ X.drop k ∨ z ∈ Y.take m:=fun z hz=>List.mem_append.mp (hp1.mem_iff.mp hz)
   have s1 : Asc (X.take k ++ X.drop k):=by rw [List.take_append_drop]; exact sx
   have s2 : Asc (Y.take m ++ Y.drop m):=by rw [List.take_append_drop]; exact sy
   refine Asc.app.mpr ⟨Asc.app.mpr ⟨(Asc.app.mp s1).1,hp2,fun x hx z hz=>?_⟩,(Asc.app.mp s2).2.1,fun z hz y hy=>?_⟩
   ·rcases mres z hz with hz | hz
    ·exact (Asc.app.mp s1).2.2 x hx z hz
    ·exact Int.le_trans (q1 x hx) (b0 z (List.mem_of_mem_take hz))
   ·rcases List.mem_append.mp hz with hz | hz
    ·exact Int.le_trans (hl z (List.mem_of_mem_take hz)) (q4 y hy)
    ·rcases mres z hz with hz | hz
     ·exact Int.le_trans (hl z (List.mem_of_mem_drop hz)) (q4 y hy)
     ·exact (Asc.app.mp s2).2.2 z hz y hy
  ·exact (congrArg Array.toList hs.2.2.1).trans e3
 by_cases c3 : X.length - k ≤ m
 ·rw [if_pos c3]
  exact wpS_bind (s8 hk T LA (HN lb hk1 c1 c2 sX sY) (Gz lb hk1 c2 sY) (fun x y ex ey=>FB y ey x (by rw [← Array.getElem?_toList] at ex; exact List.mem_of_getElem? ex)) fun res st1 hs hpost=>fin res st1 hs hpost)
 ·rw [if_neg c3]
  exact wpS_bind (tg hk T LA FB (I8 sX sY c3) (Gz lb hk1 c2 sY) fun res st1 hs hpost=>fin res st1 hs hpost)
end
end Mine
end
section
namespace Mine
structure Wk (a₀ : Array Keyed) (p₀ : Array (Nat × Nat × Nat)) (lo : Nat) (st : SortSt) : Prop where
 perm : (arrOf st).Perm a₀
 keep : ∀ i,i < lo → (arrOf st)[i]? = a₀[i]?
 kind : kindOf st = oneType'
 failed : failedOf st = none
 pend : pendingOf st = p₀
noncomputable def ck (xs : Array Keyed) (lo n : Nat) : Prop:=∀ i j,lo ≤ i → i ≤ j → j < lo + n → K xs i ≤ K xs j
noncomputable def fi (xs : Array Keyed) (lo n : Nat) : Prop:=∀ i j,lo ≤ i → i ≤ j → j < lo + n → K xs j ≤ K xs i
section
variable {a₀ : Array Keyed} {p₀ : Array (Nat × Nat × Nat)} {lo : Nat} {st : SortSt}
theorem Wk.size (h : Wk a₀ p₀ lo st) : (arrOf st).size = a₀.size:=h.perm.size_eq
theorem Wk.set (h : Wk a₀ p₀ lo st) {xs : Array Keyed} (hp : xs.Perm (arrOf st)) (hk : ∀ i,i < lo → xs[i]? = (arrOf st)[i]?) : Wk a₀ p₀ lo (setArr st xs):=
 ⟨hp.trans h.perm,fun i hi=>(hk i hi).trans (h.keep i hi),h.kind,h.failed,h.pend⟩
theorem Wk.at (h : Wk a₀ p₀ lo st) (h0 : IntKeys a₀) {i : Nat} (hi : i < a₀.size) : ∃ t q,(arrOf st)[i]? = some (.int (K (arrOf st) i) t,q):=
 SBase.at (st:=setPending st #[]) ⟨h.perm,h.kind,h.failed,rfl⟩ h0 hi
theorem Wk.bubble (h : Wk a₀ p₀ lo st) {src d : Nat} (hs : src < a₀.size) (hd : lo + d ≤ src) : Wk a₀ p₀ lo (setArr st (PyProof.Rows.bubble (arrOf st) src d)):=by
 refine h.set (bubble_perm _ _ _) fun i hi=>?_
 rw [getElem?_bubble (by rw [h.size]; exact hs) d (JU hd hi),if_neg (fun a=>Ho hd hi a),if_neg (fun a=>Kt hd hi a)]
theorem Wk.mirror (h : Wk a₀ p₀ lo st) {i j : Nat} (hi : lo ≤ i) (hj : j ≤ a₀.size) : Wk a₀ p₀ lo (setArr st (PyProof.Rows.mirror (arrOf st) i j ((j - i) / 2))):=by
 refine h.set (mirror_perm _ _ _ _) fun k hk=>?_
 rw [getElem?_mirror_all (by rw [h.size]; exact hj),if_neg (fun a=>GH hi hk a)]
end
section
variable {prog : Program} {w : World} {A : Around} {E : Value → Shared → Prop} {s : Shared} {a₀ : Array Keyed} {p₀ : Array (Nat × Nat × Nat)} {lo : Nat}
theorem i8 {st : SortSt} {i j : Nat} {Q : Option Bool → SortSt → Prop} (hB : Wk a₀ p₀ lo st) (h0 : IntKeys a₀) (hi : i < a₀.size) (hj : j < a₀.size)
  (h : Q (some (decide (K (arrOf st) i < K (arrOf st) j))) st) : wpS (model prog w) A E s (ltAt' i j) Q st:=by
 obtain ⟨t,p,e1⟩:=hB.at h0 hi
 obtain ⟨u,q,e2⟩:=hB.at h0 hj
 exact wpS_ltAt hB.kind e1 e2 h
theorem ltP {i P T : Nat} (h1 : ¬ i = P) (h2 : ¬ (P < i ∧ i ≤ T)) (h3 : i ≤ T) : i < P:=Nat.lt_of_le_of_ne (Nat.le_of_not_lt fun h=>h2 ⟨h,h3⟩) h1
theorem DC {j P T : Nat} (c : P < j ∧ j ≤ T) : j - 1 < T:=Nat.lt_of_lt_of_le (Nat.sub_lt (Nat.lt_of_le_of_lt (Nat.zero_le _) c.1) Nat.one_pos) c.2
theorem uC {st : SortSt} {n ok : Nat} {Q : Bool → SortSt → Prop} (h0 : IntKeys a₀) (hn : lo + n ≤ a₀.size) (hok : ok ≤ n) (hB : Wk a₀ p₀ lo st) (hs : ck (arrOf st) lo ok)
  (h : ∀ st',Wk a₀ p₀ lo st' → ck (arrOf st') lo n → Q true st') : wpS (model prog w) A E s (binarySort' lo n ok) Q st:=by
 rw [binarySort'_eq]
 refine wpS_bind (wpS_mono (wpS_forRange (I:=fun k c st'=>c = (none,()) ∧ Wk a₀ p₀ lo st' ∧ ck (arrOf st') lo (min k n))
  (Q:=fun c st'=>c = (none,()) ∧ Wk a₀ p₀ lo st' ∧ ck (arrOf st') lo n) ?step ?fin ?init) ?post)
 case post=>
  rintro c st' ⟨rfl,hB',hs'⟩
  exact wpS_pure (h st' hB' hs')
 case init=>
  refine ⟨rfl,hB,fun i j hl hij hj=>?_⟩
  by_cases h1 : ok = 0
  ·have : i = j:=Iw hl hij hj h1
   subst this; exact Int.le_refl _
  ·exact hs i j hl hij (Kw hok hj h1)
 case fin=>
  rintro c st' ⟨hc,hB',hs'⟩
  refine ⟨hc,hB',?_⟩
  rwa [show min (max (max ok 1) n) n = n by exact JM] at hs'
 case step=>
  rintro k c st' hak hkn ⟨rfl,hB',hs'⟩
  rw [show min k n = k by exact Is hkn] at hs'
  have hk : lo + k < a₀.size:=o31 hn hkn
  refine wpS_bind (wpS_mono (wpS_forRange (I:=fun x c t=>t = st' ∧ ∃ l r,c = (none,l,r) ∧ l ≤ r ∧ r ≤ k ∧ r - l ≤ k - x ∧
    (∀ i,lo ≤ i → i < lo + l → K (arrOf st') i ≤ K (arrOf st') (lo + k)) ∧ (∀ i,lo + r ≤ i → i < lo + k → K (arrOf st') (lo + k) < K (arrOf st') i))
   (Q:=fun c t=>t = st' ∧ ∃ l r,c = (none,l,r) ∧ l ≤ k ∧
    (∀ i,lo ≤ i → i < lo + l → K (arrOf st') i ≤ K (arrOf st') (lo + k)) ∧ (∀ i,lo + l ≤ i → i < lo + k → K (arrOf st') (lo + k) < K (arrOf st') i)) ?istep ?ifin ?iinit) ?ipost)
  case iinit=>exact ⟨rfl,0,k,rfl,(o19),(FI),(Jw),fun i hl hi=>absurd hi (Nat.not_lt.mpr hl),fun i h1 h2=>absurd h2 (Nat.not_lt.mpr h1)⟩
  case ifin=>
   rintro c t ⟨rfl,l,r,rfl,hlr,hrk,hm,hlo,hhi⟩
   have : l = r:=o1 hlr hm
   subst this
   exact ⟨rfl,l,l,rfl,hrk,hlo,hhi⟩
  case istep=>
   rintro x c t _ hxk ⟨rfl,l,r,rfl,hlr,hrk,hm,hlo,hhi⟩
   dsimp only
   by_cases hge : l ≥ r
   ·rw [if_pos hge]
    have : l = r:=o2 hlr hge
    subst this
    exact wpS_pure ⟨rfl,l,l,rfl,hrk,hlo,hhi⟩
   ·rw [if_neg hge]
    refine wpS_bind (i8 hB' h0 hk (HV hk hrk hge) ?_)
    by_cases hless : K (arrOf t) (lo + k) < K (arrOf t) (lo + (l + r) / 2)
    ·simp only [hless,decide_true,if_true]
     refine wpS_pure ⟨rfl,l,(l + r) / 2,rfl,(JF hge),(Ig hrk hge),(KL hxk hm hge),hlo,fun i h1 h2=>?_⟩
     exact Int.lt_of_lt_of_le hless (hs' _ _ (Kb hge) h1 h2)
    ·simp only [hless,decide_false,Bool.false_eq_true,if_false]
     refine wpS_pure ⟨rfl,(l + r) / 2 + 1,r,rfl,(JV hge),hrk,(IH hxk hm hge),fun i h1 h2=>?_,hhi⟩
     exact Int.le_trans (hs' i (lo + (l + r) / 2) h1 (GN h2) (JO hrk hge)) (Int.not_lt.mp hless)
  case ipost=>
   rintro c t ⟨rfl,l,r,rfl,hlk,hlo,hhi⟩
   show wpS _ _ _ _ (do moveDown' (lo + k) (lo + l); pure (ForInStep.yield (none,()))) _ _
   rw [moveDown'_eq]
   refine wpS_bind (wpS_modify (wpS_pure ⟨rfl,hB'.bubble hk (Kz hlk),?_⟩))
   rw [show min (k + 1) n = k + 1 by exact IY hkn]
   have hks : lo + k < (arrOf t).size:=by rw [hB'.size]; exact hk
   intro i j hl hij hj
   show K (bubble (arrOf t) (lo + k) (lo + k - (lo + l))) i ≤ K (bubble (arrOf t) (lo + k) (lo + k - (lo + l))) j
   rw [K_bubble hks (by exact E3 hlk),K_bubble hks (by exact E3 hlk),show lo + k - (lo + k - (lo + l)) = lo + l by exact HK hlk]
   have hjT : j ≤ lo + k:=Nat.le_of_lt_succ hj
   have hiT : i ≤ lo + k:=Nat.le_trans hij hjT
   split
   ·next e1=>
    split
    ·exact Int.le_refl _
    ·next n2=>
     split
     ·next c2=>exact Int.le_of_lt (hhi _ (Nat.le_sub_one_of_lt c2.1) (DC c2))
     ·next m2=>exact absurd (ltP n2 m2 hjT) (Nat.not_lt.mpr (e1 ▸ hij))
   ·next n1=>
    split
    ·next c1=>
     split
     ·next e2=>exact absurd c1.1 (Nat.not_lt.mpr (e2 ▸ hij))
     ·next n2=>
      split
      ·next c2=>exact hs' _ _ (Nat.le_sub_one_of_lt (Nat.lt_of_le_of_lt (Nat.le_add_right lo l) c1.1)) (Nat.sub_le_sub_right hij 1) (DC c2)
      ·next m2=>exact absurd (Nat.lt_of_lt_of_le c1.1 hij) (Nat.not_lt.mpr (Nat.le_of_lt (ltP n2 m2 hjT)))
    ·next m1=>
     split
     ·exact hlo _ hl (ltP n1 m1 hiT)
     ·next n2=>
      split
      ·next c2=>exact hs' _ _ hl (Nat.le_sub_one_of_lt (Nat.lt_trans (ltP n1 m1 hiT) c2.1)) (DC c2)
      ·next m2=>exact hs' _ _ hl hij (Nat.lt_of_lt_of_le (ltP n2 m2 hjT) (Nat.add_le_add_left hlk lo))
end
end Mine
end
section
namespace Mine
section
variable {prog : Program} {w : World} {A : Around} {E : Value → Shared → Prop} {s : Shared} {a₀ : Array Keyed} {p₀ : Array (Nat × Nat × Nat)} {lo : Nat}
theorem ck.more {xs : Array Keyed} {n : Nat} (h : ck xs lo n) (hn : 1 ≤ n) (hlt : ¬ K xs (lo + n) < K xs (lo + n - 1)) : ck xs lo (n + 1):=by
 intro i j hl hij hj
 by_cases hjx : j < lo + n
 ·exact h i j hl hij hjx
 ·obtain rfl : j = lo + n:=FA hj hjx
  by_cases hi : i = lo + n
  ·subst hi; exact Int.le_refl _
  ·exact Int.le_trans (h i (lo + n - 1) hl (F9 hn hij hi) (EY hn hij)) (Int.not_lt.mp hlt)
theorem fi.more {xs : Array Keyed} {n : Nat} (h : fi xs lo n) (hn : 1 ≤ n) (hlt : K xs (lo + n) ≤ K xs (lo + n - 1)) : fi xs lo (n + 1):=by
 intro i j hl hij hj
 by_cases hjx : j < lo + n
 ·exact h i j hl hij hjx
 ·obtain rfl : j = lo + n:=FA hj hjx
  by_cases hi : i = lo + n
  ·subst hi; exact Int.le_refl _
  ·exact Int.le_trans hlt (h i (lo + n - 1) hl (F9 hn hij hi) (EY hn hij))
theorem fi.same {xs ys : Array Keyed} {n : Nat} (h : fi xs lo n) (e : ∀ i,K ys i = K xs i) : fi ys lo n:=by
 intro i j hl hij hj
 rw [e,e]
 exact h i j hl hij hj
theorem ck.one (xs : Array Keyed) : ck xs lo 1:=by
 intro i j hl hij hj
 obtain rfl : i = j:=F1 hl hij hj
 exact Int.le_refl _
theorem mM {st : SortSt} {i j : Nat} {Q : Unit → SortSt → Prop} (h : Q () (setArr st (mirror (arrOf st) i j ((j - i) / 2)))) : wpS (model prog w) A E s (reverseSlice' i j) Q st:=by
 rw [reverseSlice'_eq]; exact wpS_modify h
theorem xq {st : SortSt} {nrem : Nat} {Q : Option Nat → SortSt → Prop} (h0 : IntKeys a₀) (hn : lo + nrem ≤ a₀.size) (h1 : 1 ≤ nrem) (hB : Wk a₀ p₀ lo st)
  (h : ∀ m st',Wk a₀ p₀ lo st' → 1 ≤ m → m ≤ nrem → ck (arrOf st') lo m → Q (some m) st') : wpS (model prog w) A E s (countRun' lo nrem) Q st:=by
 have p3 : ∀ (n : Nat) (st : SortSt),1 ≤ n → n ≤ nrem → Wk a₀ p₀ lo st → fi (arrOf st) lo n → wpS (model prog w) A E s (do
   let mut n:=n
   reverseSlice' lo (lo + n)
   for _ in [n:nrem] do
    let some smaller ← ltAt' (lo + n) (lo + n - 1) | return none
    if smaller then break
    n:=n + 1
   return some n) Q st:=by
  intro n st hn1 hnn hB hs
  dsimp only
  have hsz : lo + n ≤ (arrOf st).size:=by rw [hB.size]; exact xW hn hnn
  refine wpS_bind (mM ?_)
  have hB':=hB.mirror (i:=lo) (j:=lo + n) (Nat.le_refl _) (xW hn hnn)
  have hs' : ck (arrOf (setArr st (mirror (arrOf st) lo (lo + n) ((lo + n - lo) / 2)))) lo n:=by
   intro i j hl hij hj
   show K (mirror (arrOf st) lo (lo + n) ((lo + n - lo) / 2)) i ≤ K (mirror (arrOf st) lo (lo + n) ((lo + n - lo) / 2)) j
   rw [K_mirror hsz,K_mirror hsz,if_pos (JH hl hij hj),if_pos (JY hl hij hj)]
   exact hs _ _ (IJ hj) (Ia hij hj) (Hv hl hj)
  generalize setArr st (mirror (arrOf st) lo (lo + n) ((lo + n - lo) / 2)) = st1 at hB' hs'
  refine wpS_bind (wpS_mono (wpS_forRange (I:=fun x c st'=>st' = st1 ∧ c = (none,x) ∧ ck (arrOf st') lo x)
   (Q:=fun c st'=>st' = st1 ∧ ∃ m,c = (none,m) ∧ n ≤ m ∧ m ≤ nrem ∧ ck (arrOf st') lo m) ?step ?fin ⟨rfl,rfl,hs'⟩) ?post)
  case post=>
   rintro c st' ⟨rfl,m,rfl,hm1,hm2,hm⟩
   exact wpS_pure (h m _ hB' (ET hn1 hm1) hm2 hm)
  case fin=>
   rintro c st' ⟨rfl,rfl,hm⟩
   rw [show max n nrem = nrem from Nat.max_eq_right hnn] at hm ⊢
   exact ⟨rfl,_,rfl,hnn,Nat.le_refl _,hm⟩
  case step=>
   rintro x c st' hax hxn ⟨rfl,rfl,hm⟩
   dsimp only
   refine wpS_bind (i8 hB' h0 (o31 hn hxn) (HC hn hn1 hax hxn) ?_)
   by_cases hless : K (arrOf st') (lo + x) < K (arrOf st') (lo + x - 1)
   ·simp only [hless,decide_true,if_true]
    exact wpS_pure ⟨rfl,_,rfl,hax,(Ea hxn),hm⟩
   ·simp only [hless,decide_false,Bool.false_eq_true,if_false]
    exact wpS_pure ⟨rfl,rfl,hm.more (ET hn1 hax) hless⟩
 have p2 : ∀ (n : Nat) (st : SortSt),n + 1 ≤ nrem → Wk a₀ p₀ lo st → fi (arrOf st) lo (n + 1) → wpS (model prog w) A E s (do
   rule "list.sort.descending-run"
   let mut n:=n + 1
   let mut neq:=0
   for _ in [n:nrem] do
    let some smaller ← ltAt' (lo + n) (lo + n - 1) | return none
    if smaller then
     if neq > 0 then reverseSlice' (lo + n - (neq + 1)) (lo + n)
     neq:=0
    else
     let some larger ← ltAt' (lo + n - 1) (lo + n) | return none
     if larger then break
     neq:=neq + 1
    n:=n + 1
   if neq > 0 then reverseSlice' (lo + n - (neq + 1)) (lo + n)
   reverseSlice' lo (lo + n)
   for _ in [n:nrem] do
    let some smaller ← ltAt' (lo + n) (lo + n - 1) | return none
    if smaller then break
    n:=n + 1
   return some n) Q st:=by
  intro n st hnn hB hs
  dsimp only
  refine wpS_bind (wpS_lift (wpAny_rule ⟨rfl,?_⟩))
  refine wpS_bind (wpS_mono (wpS_forRange (I:=fun x c st'=>∃ neq,c = (none,x,neq) ∧ Wk a₀ p₀ lo st' ∧ fi (arrOf st') lo x ∧ neq + 1 ≤ x ∧ (∀ i,lo + x - (neq + 1) ≤ i → i < lo + x → K (arrOf st') i = K (arrOf st') (lo + x - 1)))
   (Q:=fun c st'=>∃ m neq,c = (none,m,neq) ∧ n + 1 ≤ m ∧ m ≤ nrem ∧ Wk a₀ p₀ lo st' ∧ fi (arrOf st') lo m ∧ neq + 1 ≤ m ∧ (∀ i,lo + m - (neq + 1) ≤ i → i < lo + m → K (arrOf st') i = K (arrOf st') (lo + m - 1)))
   ?step ?fin ⟨0,rfl,hB,hs,(D2),fun i h1 h2=>by congr 1; exact GR h1 h2⟩) ?post)
  case post=>
   rintro c st' ⟨m,neq,rfl,hm1,hm2,hB',hs',hq,he⟩
   dsimp only
   have hsz : lo + m ≤ (arrOf st').size:=by rw [hB'.size]; exact xW hn hm2
   by_cases hneq : neq > 0
   ·rw [if_pos hneq]
    refine wpS_bind (mM ?_)
    exact p3 m _ (Kc hq hneq) hm2 (hB'.mirror (FD hq) (xW hn hm2)) (hs'.same (K_mirror_equal hsz he))
   ·rw [if_neg hneq]
    exact p3 m _ (Hl hq hneq) hm2 hB' hs'
  case fin=>
   rintro c st' ⟨neq,rfl,hB',hs',hq,he⟩
   rw [show max (n + 1) nrem = nrem from Nat.max_eq_right hnn] at hs' hq he ⊢
   exact ⟨_,_,rfl,hnn,Nat.le_refl _,hB',hs',hq,he⟩
  case step=>
   rintro x c st' hax hxn ⟨neq,rfl,hB',hs',hq,he⟩
   dsimp only
   have hsz : lo + x ≤ (arrOf st').size:=by rw [hB'.size]; exact Gu hn hxn
   refine wpS_bind (i8 hB' h0 (o31 hn hxn) (Ga hn hxn hq) ?_)
   by_cases hless : K (arrOf st') (lo + x) < K (arrOf st') (lo + x - 1)
   ·simp only [hless,decide_true,if_true]
    have hd:=hs'.more (EX hq) (Int.le_of_lt hless)
    by_cases hneq : neq > 0
    ·rw [if_pos hneq]
     exact wpS_bind (mM (wpS_pure ⟨0,rfl,hB'.mirror (FD hq) (Gu hn hxn),hd.same (K_mirror_equal hsz he),(D2),fun i h1 h2=>by congr 1; exact EI hax h1 h2⟩))
    ·rw [if_neg hneq]
     exact wpS_pure ⟨0,rfl,hB',hd,(D2),fun i h1 h2=>by congr 1; exact EI hax h1 h2⟩
   ·simp only [hless,decide_false,Bool.false_eq_true,if_false]
    refine wpS_bind (i8 hB' h0 (Ga hn hxn hq) (o31 hn hxn) ?_)
    by_cases hlarger : K (arrOf st') (lo + x - 1) < K (arrOf st') (lo + x)
    ·simp only [hlarger,decide_true,if_true]
     exact wpS_pure ⟨x,neq,rfl,hax,(Ea hxn),hB',hs',hq,he⟩
    ·simp only [hlarger,decide_false,Bool.false_eq_true,if_false]
     have heqx : K (arrOf st') (lo + x) = K (arrOf st') (lo + x - 1):=Iz hless hlarger
     refine wpS_pure ⟨neq + 1,rfl,hB',hs'.more (EX hq) (Int.le_of_eq heqx),(Ip hq),fun i h1 h2=>?_⟩
     rw [show lo + (x + 1) - 1 = lo + x by exact IT hax]
     by_cases hix : i = lo + x
     ·subst hix; rfl
     ·rw [heqx]; exact he i (HR hq h1 h2 hix) (IP h2 hix)
 rw [countRun'_eq]
 refine wpS_bind (wpS_mono (wpS_forRange (I:=fun x c st'=>st' = st ∧ c = (none,x) ∧ ck (arrOf st') lo x)
   (Q:=fun c st'=>st' = st ∧ ∃ m,c = (none,m) ∧ 1 ≤ m ∧ m ≤ nrem ∧ ck (arrOf st') lo m ∧ (m = nrem ∨ K (arrOf st') (lo + m) < K (arrOf st') (lo + m - 1))) ?step ?fin ⟨rfl,rfl,ck.one _⟩) ?post)
 case fin=>
  rintro c st' ⟨rfl,rfl,hm⟩
  rw [show max 1 nrem = nrem from Nat.max_eq_right h1] at hm ⊢
  exact ⟨rfl,_,rfl,h1,Nat.le_refl _,hm,.inl rfl⟩
 case step=>
  rintro x c st' hax hxn ⟨rfl,rfl,hm⟩
  dsimp only
  refine wpS_bind (i8 hB h0 (o31 hn hxn) (Jq hn hax hxn) ?_)
  by_cases hless : K (arrOf st') (lo + x) < K (arrOf st') (lo + x - 1)
  ·simp only [hless,decide_true,if_true]
   exact wpS_pure ⟨rfl,_,rfl,hax,(Ea hxn),hm,.inr hless⟩
  ·simp only [hless,decide_false,Bool.false_eq_true,if_false]
   exact wpS_pure ⟨rfl,rfl,hm.more hax hless⟩
 case post=>
  rintro c st' ⟨rfl,n,rfl,hn1,hn2,hsn,hor⟩
  dsimp only
  by_cases hnn : n = nrem
  ·rw [if_pos (by simpa using hnn)]
   exact wpS_pure (h n _ hB hn1 hn2 hsn)
  rw [if_neg (by simpa using hnn)]
  have hlt:=hor.resolve_left hnn
  have hsz : lo + n ≤ (arrOf st').size:=by rw [hB.size]; exact xW hn hn2
  by_cases hgt : n > 1
  ·rw [if_pos hgt]
   refine wpS_bind (i8 hB h0 (IU hn h1) (IW hn hn2 hgt) ?_)
   by_cases hrose : K (arrOf st') lo < K (arrOf st') (lo + n - 1)
   ·simp only [hrose,decide_true,if_true]
    exact wpS_pure (h n _ hB hn1 hn2 hsn)
   ·simp only [hrose,decide_false,Bool.false_eq_true,if_false]
    have hall : ∀ k,lo ≤ k → k < lo + n → K (arrOf st') k = K (arrOf st') (lo + n - 1):=by
     intro k hk1 hk
     have a1:=hsn lo k (FI) hk1 hk
     have a2:=hsn k (lo + n - 1) hk1 (HF hk) (JG hgt)
     exact Int.le_antisymm a2 (Int.le_trans (Int.not_lt.mp hrose) a1)
    refine wpS_bind (mM (p2 n _ (IM hn2 hnn) (hB.mirror (Nat.le_refl _) (xW hn hn2)) ?_))
    refine fi.same (xs:=arrOf st') ?_ (K_mirror_equal hsz hall)
    refine fi.more (fun i j hl hij hj=>?_) hn1 (Int.le_of_lt hlt)
    rw [hall i hl (H5 hij hj),hall j (ED hl hij) hj]
    exact Int.le_refl _
  ·rw [if_neg hgt]
   obtain rfl : n = 1:=KN hn1 hgt
   refine p2 1 _ (JB h1 hnn) hB (fi.more (fun i j hl hij hj=>?_) hn1 (Int.le_of_lt hlt))
   obtain rfl : i = j:=F1 hl hij hj
   exact Int.le_refl _
end
end Mine
end
section
namespace Mine
noncomputable def Sts : Nat → List (List Keyed) → List (Nat × Nat)
 | _,[]=>[]
 | o,x :: r=>(o,x.length) :: Sts (o + x.length) r
theorem m8 : ∀ (o : Nat) (a b : List (List Keyed)),Sts o (a ++ b) = Sts o a ++ Sts (o + a.flatten.length) b
 | o,[],b=>by simp [Sts]
 | o,x :: r,b=>by
  show _ :: Sts _ (r ++ b) = _
  rw [m8,List.flatten_cons,List.length_append,Nat.add_assoc]
  rfl
theorem pU : ∀ (o : Nat) (a : List (List Keyed)),(Sts o a).length = a.length
 | _,[]=>rfl
 | o,x :: r=>by show (Sts _ r).length + 1 = _; rw [pU]; rfl
noncomputable def two (p : Nat × Nat × Nat) : Nat × Nat:=(p.1,p.2.1)
structure cc (a₀ : Array Keyed) (st : SortSt) (segs : List (List Keyed)) (rest : List Keyed) : Prop where
 kind : kindOf st = oneType'
 failed : failedOf st = none
 perm : (arrOf st).Perm a₀
 arr : (arrOf st).toList = segs.flatten ++ rest
 asc : ∀ x ∈ segs,Asc x ∧ x ≠ []
 pend : (pendingOf st).toList.map two = Sts 0 segs
section
variable {a₀ : Array Keyed} {st : SortSt} {segs : List (List Keyed)} {rest : List Keyed}
theorem cc.psize (h : cc a₀ st segs rest) : (pendingOf st).size = segs.length:=by
 have:=congrArg List.length h.pend
 rw [List.length_map,pU,Array.length_toList] at this
 exact this
theorem cc.size (h : cc a₀ st segs rest) : segs.flatten.length + rest.length = a₀.size:=by
 have:=congrArg List.length h.arr
 rw [List.length_append,Array.length_toList,h.perm.size_eq] at this
 exact this.symm
theorem cc.keys (h : cc a₀ st segs rest) (h0 : IntKeys a₀) : ∀ p ∈ (arrOf st).toList,IsK p:=fun p hp=>
 h0 p ((Array.perm_iff_toList_perm.mp h.perm).mem_iff.mp hp)
theorem rN : ∀ {l : List (List Keyed)},(∀ x ∈ l,Asc x ∧ x ≠ []) → l.length ≤ l.flatten.length
 | [],_=>Nat.le_refl _
 | x :: r,h=>by
  have h1:=rN fun y hy=>h y (List.mem_cons_of_mem _ hy)
  have h2:=List.length_pos_iff.mpr (h x List.mem_cons_self).2
  rw [List.flatten_cons,List.length_append,List.length_cons]
  exact Nat.le_trans (Nat.le_of_eq (Nat.add_comm _ _)) (Nat.add_le_add h2 h1)
end
section
variable {prog : Program} {w : World} {A : Around} {E : Value → Shared → Prop} {s : Shared} {a₀ : Array Keyed}
theorem kp1 {s m : Nat} (e : s = m) (h : 1 < s) : s - 2 + 1 < m:=Nat.lt_of_lt_of_le (Nat.lt_succ_self (s - 2 + 1)) (Nat.le_of_eq ((Nat.sub_add_cancel h).trans e))
theorem kp2 {s m : Nat} (e : s = m) (h : 1 < s) : s - 2 - 1 + 1 < m:=Nat.lt_of_le_of_lt (Nat.add_le_add_right (Nat.sub_le _ 1) 1) (kp1 e h)
theorem oh {st : SortSt} {i : Nat} {segs : List (List Keyed)} {rest : List Keyed} {Q : Bool → SortSt → Prop} (h0 : IntKeys a₀) (hR : cc a₀ st segs rest) (hi : i + 1 < segs.length)
  (h : ∀ (st' : SortSt) segs',cc a₀ st' segs' rest → segs'.length + 1 = segs.length → Q true st') : wpS (model prog w) A E s (mergeAt' i) Q st:=by
 obtain ⟨s1,X,Y,s2,rfl,h1⟩ : ∃ s1 X Y s2,segs = s1 ++ X :: Y :: s2 ∧ s1.length = i:=by
  refine ⟨segs.take i,segs[i],segs[i + 1],segs.drop (i + 2),?_,by rw [List.length_take]; exact Jh hi⟩
  conv=>lhs; rw [← List.take_append_drop i segs]
  rw [List.drop_eq_getElem_cons (Ih hi),List.drop_eq_getElem_cons hi]
 have hp:=hR.pend
 rw [m8,Nat.zero_add] at hp
 obtain ⟨p1,r1,e1,hp1,hr1⟩:=List.map_eq_append_iff.mp hp
 obtain ⟨a,r2,rfl,ha,hr2⟩:=List.map_eq_cons_iff.mp hr1
 obtain ⟨b,p2,rfl,hb,hr3⟩:=List.map_eq_cons_iff.mp hr2
 obtain ⟨a1,a2,a3⟩:=a
 obtain ⟨b1,b2,b3⟩:=b
 cases ha
 cases hb
 have hX:=hR.asc X (by simp)
 have hY:=hR.asc Y (by simp)
 have harr : (arrOf st).toList = s1.flatten ++ X ++ Y ++ (s2.flatten ++ rest):=by
  rw [hR.arr]; simp
 have hK:=hR.keys h0
 rw [harr] at hK
 refine tj (L:=s1.flatten) (X:=X) (Y:=Y) (R:=s2.flatten ++ rest) (p1:=p1) (p2:=p2) hR.kind hR.failed harr hX.1 hY.1 (fun p hp=>hK p (by simp [hp])) (fun p hp=>hK p (by simp [hp])) hX.2 hY.2 e1 ?_ fun st' M k1 k2 k3 k4 k5 k6=>?_
 ·rw [← h1,← pU 0 s1,← hp1,List.length_map]
 ·have hl:=k4.length_eq
  rw [List.length_append] at hl
  refine h st' (s1 ++ M :: s2) ⟨k1,k2,?_,by rw [k3]; simp,fun x hx=>?_,?_⟩ (by simp only [List.length_append,List.length_cons]; exact HP)
  ·refine Array.Perm.trans (Array.perm_iff_toList_perm.mpr ?_) hR.perm
   rw [k3,harr,List.append_assoc (s1.flatten) X Y]
   exact (k4.append_left _).append_right _
  ·rcases List.mem_append.mp hx with hx | hx
   ·exact hR.asc x (List.mem_append_left _ hx)
   ·rcases List.mem_cons.mp hx with rfl | hx
    ·refine ⟨k5,fun e=>hX.2 (List.eq_nil_of_length_eq_zero ?_)⟩
     subst e
     rw [List.length_nil] at hl
     exact H7 hl
    ·exact hR.asc x (by simp [hx])
  ·rw [k6,List.map_append,List.map_cons,hp1,hr3,m8,Nat.zero_add]
   show _ ++ (_,X.length + Y.length) :: _ = _ ++ (_,M.length) :: _
   rw [hl,Nat.add_assoc]
end
section
variable {a₀ : Array Keyed} {st : SortSt} {segs : List (List Keyed)} {rest : List Keyed}
theorem cc.wk (h : cc a₀ st segs rest) (lo : Nat) : Wk (arrOf st) (pendingOf st) lo st:=⟨Array.Perm.refl _,fun _ _=>rfl,h.kind,h.failed,rfl⟩
theorem cc.ints (h : cc a₀ st segs rest) (h0 : IntKeys a₀) : IntKeys (arrOf st):=h.keys h0
theorem Ek {xs : Array Keyed} {lo n : Nat} (h : ck xs lo n) (hn : lo + n ≤ xs.size) : Asc ((xs.toList.drop lo).take n):=by
 unfold Asc
 rw [List.pairwise_iff_getElem]
 intro i j hi hj hij
 rw [List.length_map,List.length_take] at hi hj
 have h1:=h (lo + i) (lo + j) (o58) (IC hij) (Hh hj)
 rw [K_eq (Iv hn hi),K_eq (I0 hn hi hj)] at h1
 simpa [kk] using h1
theorem cc.run (h : cc a₀ st segs rest) {st' : SortSt} {lo n : Nat} (hl : segs.flatten.length = lo) (hW : Wk (arrOf st) (pendingOf st) lo st') (hs : ck (arrOf st') lo n) (hn : lo + n ≤ a₀.size) :
  ∃ X rest',cc a₀ st' segs (X ++ rest') ∧ Asc X ∧ X.length = n:=by
 have hsz : (arrOf st').size = a₀.size:=hW.size.trans h.perm.size_eq
 refine ⟨((arrOf st').toList.drop lo).take n,((arrOf st').toList.drop lo).drop n,⟨hW.kind,hW.failed,hW.perm.trans h.perm,?_,h.asc,by rw [hW.pend]; exact h.pend⟩,Ek hs (HB hn hsz),by rw [List.length_take,List.length_drop,Array.length_toList]; exact KC hn hsz⟩
 rw [List.take_append_drop]
 conv=>lhs; rw [← List.take_append_drop lo (arrOf st').toList]
 congr 1
 have e : segs.flatten = (arrOf st).toList.take lo:=by rw [h.arr,← hl,List.take_left]
 rw [e]
 refine List.ext_getElem? fun i=>?_
 by_cases hi : i < lo
 ·rw [List.getElem?_take_of_lt hi,List.getElem?_take_of_lt hi,Array.getElem?_toList,Array.getElem?_toList]
  exact hW.keep i hi
 ·rw [List.getElem?_take_eq_none (Gr hi),List.getElem?_take_eq_none (Gr hi)]
theorem uW {p : Array (Nat × Nat × Nat)} {i pw : Nat} : (p.modify i fun x=>(x.1,x.2.1,pw)).toList.map two = p.toList.map two:=by
 rw [Array.toList_modify]
 refine List.ext_getElem? fun j=>?_
 rw [List.getElem?_map,List.getElem?_map,List.getElem?_modify]
 cases p.toList[j]? with
 | none=>rfl
 | some v=>
  obtain ⟨v1,v2,v3⟩:=v
  by_cases hij : i = j
  ·simp [hij,two]
  ·simp [hij,two]
theorem cc.pw {pp : Array (Nat × Nat × Nat)} (h : cc a₀ st segs rest) (e : pp.toList.map two = (pendingOf st).toList.map two) : cc a₀ (setPending st pp) segs rest:=
 ⟨h.kind,h.failed,h.perm,h.arr,h.asc,e.trans h.pend⟩
theorem cc.push {X : List Keyed} (h : cc a₀ st segs (X ++ rest)) {lo n : Nat} (hl : segs.flatten.length = lo) (hn : X.length = n) (sx : Asc X) (n1 : 1 ≤ n) : cc a₀ (setPending st ((pendingOf st).push (lo,n,0))) (segs ++ [X]) rest:=by
 refine ⟨h.kind,h.failed,h.perm,?_,fun x hx=>?_,?_⟩
 ·refine h.arr.trans ?_
  simp
 ·rcases List.mem_append.mp hx with hx | hx
  ·exact h.asc x hx
  ·rw [List.mem_singleton] at hx
   subst hx
   exact ⟨sx,fun e=>by subst e; simp at hn; exact Kk n1 hn⟩
 ·show ((pendingOf st).push (lo,n,0)).toList.map two = _
  rw [Array.toList_push,List.map_append,h.pend,m8,Nat.zero_add,hl]
  show _ ++ [(lo,n)] = _ ++ [(lo,X.length)]
  rw [hn]
theorem cc.done (h : cc a₀ st segs []) (h1 : segs.length ≤ 1) : SortedTo (arrOf st) a₀.size:=by
 have hs : Asc (arrOf st).toList:=by
  rw [h.arr,List.append_nil]
  match segs,h1,h.asc with
  | [],_,_=>exact Asc.nil
  | [x],_,a=>simpa using (a x (by simp)).1
 intro i j hij hj
 rw [← h.perm.size_eq] at hj
 rw [K_eq (o93 hij hj),K_eq hj]
 exact hs.idx (i:=i) (j:=j) hij hj
end
section
variable {prog : Program} {w : World} {A : Around} {E : Value → Shared → Prop} {s : Shared} {a₀ : Array Keyed}
theorem sR {st : SortSt} {Q : Unit → SortSt → Prop} (h0 : IntKeys a₀) (hp : (arrOf st).Perm a₀) (hk : kindOf st = oneType') (hf : failedOf st = none) (hpe : pendingOf st = #[])
  (h : ∀ st' : SortSt,(arrOf st').Perm a₀ → failedOf st' = none → SortedTo (arrOf st') a₀.size → Q () st') : wpS (model prog w) A E s sortRuns' Q st:=by
 rw [sortRuns'_eq]
 refine wpS_bind (wpS_get ?_)
 dsimp only
 rw [hp.size_eq]
 generalize minRun' a₀.size a₀.size 0 = minrun
 refine wpS_bind (wpS_mono (wpS_forRange
  (I:=fun x c st'=>∃ segs rest,c = (none,segs.flatten.length) ∧ cc a₀ st' segs rest ∧ x ≤ segs.flatten.length)
  (Q:=fun c st'=>∃ segs,c = (none,a₀.size) ∧ cc a₀ st' segs []) ?step ?fin ⟨[],(arrOf st).toList,rfl,⟨hk,hf,hp,rfl,by simp,by rw [hpe]; rfl⟩,by simp⟩) ?post)
 case fin=>
  rintro c st' ⟨segs,rest,rfl,hR,hx⟩
  have hs:=hR.size
  have : rest = []:=List.eq_nil_of_length_eq_zero (IG hx hs)
  subst this
  exact ⟨segs,by rw [← hs]; rfl,hR⟩
 case step=>
  rintro x c st' _ hx ⟨segs,rest,rfl,hR,hxl⟩
  have hsz:=hR.size
  dsimp only
  by_cases hge : segs.flatten.length ≥ a₀.size
  ·rw [if_pos hge]
   have : rest = []:=List.eq_nil_of_length_eq_zero (G9 hsz hge)
   subst this
   exact wpS_pure ⟨segs,by rw [← hsz]; rfl,hR⟩
  rw [if_neg hge]
  have hW:=hR.wk segs.flatten.length
  have hps:=hR.perm.size_eq
  refine wpS_bind (xq (hR.ints h0) (I4 hsz hge hps) (I5 hsz hge) hW fun m st2 hW2 hm1 hm2 hs2=>?_)
  dsimp only
  by_cases hlt : m < minrun
  rw [if_pos hlt]
  refine wpS_bind (wpS_lift (wpAny_rule ⟨rfl,?_⟩))
  refine wpS_bind (uC (n:=min (a₀.size - segs.flatten.length) minrun) (hR.ints h0) (IR hsz hge hps) (KA hm2 hlt) hW2 hs2 fun st3 hW3 hs3=>?_)
  simp only [Bool.not_true,Bool.false_eq_true,if_false]
  have hn1 : 1 ≤ min (a₀.size - segs.flatten.length) minrun:=Ky hm1 hm2 hlt
  have hn2 : segs.flatten.length + min (a₀.size - segs.flatten.length) minrun ≤ a₀.size:=HS hsz hge
  clear hm1 hm2 hlt hs2 hW2
  revert hs3 hn1 hn2
  generalize min (a₀.size - segs.flatten.length) minrun = n
  intro hs3 hn1 hn2
  rotate_left
  rw [if_neg hlt]
  have hm2 : segs.flatten.length + m ≤ a₀.size:=Il hsz hge hm2
  clear hlt
  revert hW2 hs2 hm1 hm2
  generalize m = n
  generalize st2 = st3
  intro hW3 hn1 hs3 hn2
  all_goals
   obtain ⟨X,rest',hR3,sX,hX⟩:=hR.run rfl hW3 hs3 hn2
   refine wpS_bind (wpS_get ?_)
   cases hb : (pendingOf st3).back? with
   | none=>
    dsimp only
    refine wpS_bind (wpS_modify (wpS_pure ⟨_,_,?_,hR3.push rfl hX sX hn1,?_⟩))
    ·simp only [List.flatten_append,List.length_append,List.flatten_cons,List.flatten_nil,List.append_nil]; rw [hX]
    ·simp only [List.flatten_append,List.length_append,List.flatten_cons,List.flatten_nil,List.append_nil]; exact Nat.add_le_add hxl (hX ▸ hn1)
   | some t=>
    obtain ⟨s1,n1,t3⟩:=t
    refine wpS_bind (wpS_mono (wpS_forRange (I:=fun x c st'=>c = (none,()) ∧ ∃ segs',cc a₀ st' segs' (X ++ rest')) (Q:=fun c st'=>c = (none,()) ∧ ∃ segs',cc a₀ st' segs' (X ++ rest')) ?_ (fun _ _ hh=>hh) ⟨rfl,segs,hR3⟩) ?_)
    ·rintro y c st5 _ _ ⟨rfl,segs5,hR5⟩
     refine wpS_bind (wpS_get ?_)
     have hsz5:=hR5.psize
     by_cases hp1 : (pendingOf st5).size > 1
     ·rw [if_pos hp1,getElem?_pos (pendingOf st5) ((pendingOf st5).size - 2) (Nat.sub_lt (Nat.lt_of_succ_lt hp1) (by decide))]
      dsimp only
      by_cases hpw : (pendingOf st5)[(pendingOf st5).size - 2].2.2 ≤ power' a₀.size (2 * s1 + n1) (2 * s1 + n1 + n1 + n) a₀.size
      ·rw [if_pos hpw]
       exact wpS_pure ⟨rfl,segs5,hR5⟩
      ·rw [if_neg hpw]
       refine wpS_bind (oh h0 hR5 (kp1 hsz5 hp1) fun st6 segs6 hR6 _=>?_)
       simp only [Bool.not_true,Bool.false_eq_true,if_false]
       exact wpS_pure ⟨rfl,segs6,hR6⟩
     ·rw [if_neg hp1]
      exact wpS_pure ⟨rfl,segs5,hR5⟩
    ·rintro c st5 ⟨rfl,segs5,hR5⟩
     dsimp only
     have z1:=hR3.size
     have z2:=hR5.size
     have e5 : segs5.flatten.length = segs.flatten.length:=Nat.add_right_cancel (z2.trans z1.symm)
     refine wpS_bind (wpS_modify ?_)
     refine wpS_bind (wpS_modify (wpS_pure ⟨_,_,?_,(hR5.pw uW).push e5 hX sX hn1,?_⟩))
     ·simp only [List.flatten_append,List.length_append,List.flatten_cons,List.flatten_nil,List.append_nil]; rw [hX,e5]
     ·simp only [List.flatten_append,List.length_append,List.flatten_cons,List.flatten_nil,List.append_nil]; exact Nat.add_le_add (e5 ▸ hxl) (hX ▸ hn1)
 case post=>
  rintro c st' ⟨segs,rfl,hR⟩
  dsimp only
  refine wpS_bind (wpS_mono (wpS_forRange (I:=fun x c st'=>c = (none,()) ∧ ∃ segs,cc a₀ st' segs [] ∧ x + segs.length ≤ a₀.size) (Q:=fun c st'=>c = (none,()) ∧ ∃ segs,cc a₀ st' segs [] ∧ segs.length ≤ 1) ?_ ?_ ⟨rfl,segs,hR,?_⟩) ?_)
  ·rintro y c st5 _ hy ⟨rfl,segs5,hR5,hl5⟩
   refine wpS_bind (wpS_get ?_)
   have hsz5:=hR5.psize
   by_cases hp1 : (pendingOf st5).size ≤ 1
   ·rw [if_pos hp1]
    exact wpS_pure ⟨rfl,segs5,hR5,(Kn hsz5 hp1)⟩
   ·rw [if_neg hp1]
    refine wpS_bind (oh h0 hR5 ?_ fun st6 segs6 hR6 hl6=>?_)
    ·(repeat' split) <;> first | exact kp1 hsz5 (Nat.not_le.mp hp1) | exact kp2 hsz5 (Nat.not_le.mp hp1)
    ·simp only [Bool.not_true,Bool.false_eq_true,if_false]
     exact wpS_pure ⟨rfl,segs6,hR6,(Iu hl5 hsz5 hl6)⟩
  ·rintro c st5 ⟨rfl,segs5,hR5,hl5⟩
   exact ⟨rfl,segs5,hR5,(JW hl5)⟩
  ·have:=hR.size
   exact Nat.le_trans (Nat.le_of_eq (Nat.zero_add _)) (Nat.le_trans (rN hR.asc) (Nat.le_of_eq this))
  ·rintro c st5 ⟨rfl,segs5,hR5,hl5⟩
   exact wpS_pure (h _ hR5.perm hR5.failed (hR5.done hl5))
end
end Mine
end
section
namespace Mine
section
variable {prog : Program} {w : World} {A : Around} {E : Value → Shared → Prop} {s : Shared}
theorem tr {h : Heap} {a : Addr} {vs : List Value} {n : Nat} (ho : h.get? a = some (seqObj "list" vs.toArray n)) (out : Array Value) :
  (∀ b o,b ≠ a → h.get? b = some o → (sortedHeap h a vs out).get? b = some o) ∧ ∃ m,(sortedHeap h a vs out).get? a = some (seqObj "list" out m):=by
 have e1:=get?_update_seq ho (fun _=>#[])
 have e2 : (((h.update a (Obj.mapSeq fun _=>#[])).push (seqObj "tuple" vs.toArray 0)).push (seqObj "list" #[] 0)).get? a = _:=Heap.get?_push_of_some _ (Heap.get?_push_of_some _ e1)
 have SB1 : Heap.SameBut a h (h.update a (Obj.mapSeq fun _=>#[])):=Heap.SameBut.update ..
 have SB2 : Heap.SameBut a (((h.update a (Obj.mapSeq fun _=>#[])).push (seqObj "tuple" vs.toArray 0)).push (seqObj "list" #[] 0)) (sortedHeap h a vs out):=Heap.SameBut.update ..
 refine ⟨fun b o hb e=>?_,_,get?_update_seq e2 (fun _=>out)⟩
 exact (SB2.2 b hb).trans (Heap.get?_push_of_some _ (Heap.get?_push_of_some _ ((SB1.2 b hb).trans e)))
theorem oF {a : Addr} {vs : List Value} {ns : List Int} {n : Nat} {P : Fin → Shared → Prop} (ho : s.heap.get? a = some (seqObj "list" vs.toArray n)) (hI : IntsAre vs ns) (hn : vs.length ≤ sizeLine)
  (h : ∀ (out : Array Value) (ns' : List Int),IntsAre out.toList ns' → ns'.Perm ns → ns'.Pairwise (· ≤ ·) → P (.done (.ret .none)) { s with heap:=sortedHeap s.heap a vs out }) :
  wpAny (model prog w) A (Builtin.«list.sort» ⟨[.ref a],[]⟩) P E s:=by
 have ez : vs.toArray.size = vs.length:=List.size_toArray
 have fin : ∀ st' : SortSt,(arrOf st').Perm (pairsOf vs) → SortedTo (arrOf st') (pairsOf vs).size → P (.done (.ret .none)) { s with heap:=sortedHeap s.heap a vs ((arrOf st').map (·.2)) }:=fun st' hp hs=>by
  obtain ⟨ns',h1,h2,h3⟩:=sorted_out hI hp hs
  exact h _ ns' h1 h2 h3
 have o1:=get?_update_seq ho (fun _=>#[])
 generalize (if (#[] : Array Value).size == vs.toArray.size then n else n + 1) = m at o1
 have o2 : (((s.heap.update a (Obj.mapSeq fun _=>#[])).push (seqObj "tuple" vs.toArray 0)).push (seqObj "list" #[] 0)).get? a = some (seqObj "list" #[] m):=Heap.get?_push_of_some _ (Heap.get?_push_of_some _ o1)
 rw [list_sort_plain]
 refine wpAny_bind (listItems_at ho rfl (wpAny_bind (listUpdate_at ho rfl ?_ (by rw [ez]; exact hn) (Nat.zero_le _))))
 refine wpAny_bind (seqEpoch_at o1 rfl (wpAny_bind (wpAny_newTuple ?_ (by exact hn))))
 refine wpAny_bind (wpAny_newList ?_)
 refine wpAny_holding ?_
 show wpAny (model prog w) A _ P E { s with heap:=((s.heap.update a (Obj.mapSeq fun _=>#[])).push (seqObj "tuple" vs.toArray 0)).push (seqObj "list" #[] 0) }
 dsimp only
 by_cases h2 : vs.toArray.size < 2
 ·rw [if_pos h2,if_pos h2]
  refine wpAny_bind (wpAny_pure ?_)
  rw [StateT.run_pure]
  refine wpAny_bind (wpAny_pure ?_)
  refine wpAny_bind (seqEpoch_at o2 rfl (wpAny_bind (listUpdate_at o2 rfl ?_ (Nat.zero_le _) (by rw [Array.size_map]; show (pairsOf vs).size ≤ _; rw [pairsOf_size]; exact EP hn ez))))
  simp only [bne_self_eq_false,Bool.false_eq_true,if_false]
  refine wpAny_pure (fin (SortSt.mk' general' (pairsOf vs) #[] 7 none) (Array.Perm.refl _) fun i j hij hj=>?_)
  have : i = j:=by rw [pairsOf_size] at hj; exact KJ ez h2 hij hj
  subst this; exact Int.le_refl _
 ·rw [if_neg h2,if_neg h2]
  have hkk : keyKind' vs.toArray = pure oneType':=by
   match vs,hI,ez,h2 with
   | [],_,ez,h2=>exact absurd ez (by rw [ez] at h2; simp at h2)
   | [_],_,ez,h2=>exact absurd ez (by rw [ez] at h2; simp at h2)
   | v₁ :: v₂ :: rest,hI,_,_=>exact keyKind_ints hI
  rw [hkk]
  refine wpAny_bind (wpAny_pure ?_)
  refine wpAny_bind (wpAny_mono (sR (a₀:=pairsOf vs) (st:=SortSt.mk' oneType' (vs.toArray.zip vs.toArray) #[] 7 none)
   (Q:=fun _ st'=>(arrOf st').Perm (pairsOf vs) ∧ failedOf st' = none ∧ SortedTo (arrOf st') (pairsOf vs).size) hI.intKeys (Array.Perm.refl _) rfl rfl rfl fun st' a1 a2 a3=>⟨a1,a2,a3⟩) ?_ fun _ _ e=>e)
  rintro ⟨⟨⟩,st'⟩ s' ⟨rfl,hp,hf,hs⟩
  dsimp only at hp hf hs ⊢
  refine wpAny_bind (seqEpoch_at o2 rfl (wpAny_bind (listUpdate_at o2 rfl ?_ (Nat.zero_le _) (by rw [Array.size_map,hp.size_eq,pairsOf_size]; exact EP hn ez))))
  rw [hf]
  simp only [bne_self_eq_false,Bool.false_eq_true,if_false]
  exact wpAny_pure (fin st' hp hs)
theorem uv {x : Value} {ns : List Int} {Q : Value → Shared → Prop}
  (hcol : ∀ R : List Value → Shared → Prop,(∀ h' tk vs,(∀ b o,s.heap.get? b = some o → h'.get? b = some o) → s.heap.objs.size ≤ h'.objs.size → IntsAre vs ns → vs.length ≤ sizeLine → R vs { s with heap:=h',toks:=tk }) → wpAny (model prog w) A.in1 (collect x) R E s)
  (h : ∀ (a : Addr) h' tk (out : List Value) ns' n,s.heap.objs.size ≤ a → (∀ b o,s.heap.get? b = some o → h'.get? b = some o) → h'.get? a = some (seqObj "list" out.toArray n) → IntsAre out ns' → ns'.Perm ns → ns'.Pairwise (· ≤ ·) → Q (.ref a) { s with heap:=h',toks:=tk }) :
  wpAny (model prog w) A (call (.builtin "sorted") [x]) Q E s:=by
 refine Calls.call_function_entry kind_sorted plain_sorted entry_sorted (args_sorted1 _) ?_
 unfold Builtin.«sorted»
 refine wpAny_bind (m:=checkCount "sorted" 1 1 _) (wpAny_pure ?_)
 refine wpAny_bind (hcol _ fun h1 tk vs keep hle hI hn=>?_)
 refine wpAny_bind (wpAny_newList ?_ hn)
 have oL : (h1.push (seqObj "list" vs.toArray 0)).get? h1.objs.size = some (seqObj "list" vs.toArray 0):=Heap.get?_push_size _ rfl
 show wpAny _ _ _ _ _ { s with heap:=h1.push (seqObj "list" vs.toArray 0),toks:=tk }
 refine wpAny_bind (wpAny_holding (wpAny_call_entry slot_list_sort ⟨_,oL,rfl⟩ entry_list_sort (oF oL hI hn fun out ns' a1 a2 a3=>⟨_,rfl,?_⟩) (args_list_sort _)))
 obtain ⟨k1,m,k2⟩:=tr oL out
 have lt : ∀ b o,s.heap.get? b = some o → b ≠ h1.objs.size:=fun b o e=>Nat.ne_of_lt (Heap.lt_size (keep b o e))
 exact wpAny_pure ⟨_,rfl,h _ _ _ out.toList ns' m hle (fun b o e=>k1 b o (lt b o e) (Heap.get?_push_of_some _ (keep b o e))) k2 a1 a2 a3⟩
theorem sj {T : String} {r d : Addr} {n : Nat} {P : Nat → Value → Prop} {OK : Heap → Prop} {R : List Value → Shared → Prop} (Ks : KdlSrc prog w T r d n P OK) (hh : A.handled = none) (hok : OK s.heap) (hn : n ≤ sizeLine)
  (h : ∀ (h' : Heap) (tk : Nat) (acc : List Value),(∀ b o,s.heap.get? b = some o → h'.get? b = some o) → s.heap.objs.size ≤ h'.objs.size → acc.length = n → (∀ (i : Nat) v,acc[i]? = some v → P i v) → R acc { s with heap:=h',toks:=tk }) :
  wpAny (model prog w) A (collect (.ref r)) R E s:=by
 have hlt:=Ks.there _ hok
 unfold collect
 refine wpAny_bind (wpAny_runValue (codeAny_builtin entry_proto_collect' ?_))
 rw [Around.under_plainId PySem.F.plain_proto_collect _]
 show wpAny _ A.in1 (newList [] >>= fun l=>again (.builtin "list.__iadd__" ⟨[l,.ref r],[]⟩)) _ _ s
 refine wpAny_bind (wpAny_newObj_type (wpAny_pure ⟨plainId_quiet PySem.F.plain_list_iadd _,codeAny_builtin entry_list_iadd' ?_⟩))
 rw [Around.under_plainId PySem.F.plain_list_iadd _]
 have oS : (s.heap.push { cls:=.type "list",data:=.seq ([] : List Value).toArray }).get? s.heap.objs.size = some { cls:=.type "list",data:=.seq #[] }:=Heap.get?_push_size _ rfl
 show wpAny _ A.in1 (Builtin.List.listExtendWith (.ref s.heap.objs.size) (.ref r) (.ref s.heap.objs.size)) _ _ _
 have key:=kdl_extend (A:=A) (s:={ s with heap:=s.heap.push { cls:=.type "list",data:=.seq ([] : List Value).toArray } })
  (R:=fun (q : Result) (s' : Shared)=>∃ (h' : Heap) (tk : Nat) (acc' : Array Value) (c' : Nat),q = .ok (.ret (.ref s.heap.objs.size)) ∧ s' = { s with heap:=h',toks:=tk } ∧
   (∀ b o,s.heap.get? b = some o → h'.get? b = some o) ∧ h'.get? s.heap.objs.size = some { cls:=.type "list",dict:=none,data:=.seq acc' c',slots:=#[] } ∧ ItemsOf P acc' n)
  Ks hh (Ks.keep _ _ hok fun b _ o e=>Heap.get?_push_of_some _ e) s.heap.objs.size (Nat.ne_of_gt hlt.1) (Nat.ne_of_gt hlt.2) (.ref s.heap.objs.size) 0 oS
  (fun h' tk acc' c' hk hS' hacc=>⟨h',tk,acc',c',rfl,rfl,fun b o e=>hk b o (Nat.ne_of_lt (Heap.lt_size e)) (Heap.get?_push_of_some _ e),hS',hacc⟩) hn
 have out : ∀ (h' : Heap) (tk : Nat) (acc' : Array Value) (c' : Nat),(∀ b o,s.heap.get? b = some o → h'.get? b = some o) → h'.get? s.heap.objs.size = some { cls:=.type "list",dict:=none,data:=.seq acc' c',slots:=#[] } → ItemsOf P acc' n → R acc'.toList { s with heap:=h',toks:=tk }:=
  fun h' tk acc' c' hk hS hacc=>h h' tk acc'.toList hk (Nat.le_of_lt (Heap.lt_size hS)) (by rw [Array.length_toList]; exact hacc.1) fun i v e=>hacc.2 i v (by rw [← Array.getElem?_toList]; exact e)
 refine wpAny_mono key (fun f s' x=>?_) fun e s' x=>?_
 ·cases f with
  | done f=>
   obtain ⟨h',tk,acc',c',e,rfl,hk,hS,hacc⟩:=x
   cases e
   exact wpAny_bind (wpAny_load hS (wpAny_pure (out h' tk acc' c' hk hS hacc)))
  | again c₁=>
   refine ⟨x.1,codeAny_mono x.2 fun q s₂ y=>?_⟩
   obtain ⟨h',tk,acc',c',rfl,rfl,hk,hS,hacc⟩:=y
   exact wpAny_bind (wpAny_load hS (wpAny_pure (out h' tk acc' c' hk hS hacc)))
 ·obtain ⟨_,_,_,_,e',_⟩:=x
  cases e'
end
end Mine
end
section
namespace Mine
section
variable {prog : Program} {w : World} {B : Heap} {b : Nat} {sg : Sg}
noncomputable def jB : List ae → Option (List Int)
 | []=>some []
 | .int i :: r=>(jB r).map (i :: ·)
 | _=>none
noncomputable def nk (a : ae) (M : List ah) : Option (List Int):=match a with
 | .mref i=>(match M[i]? with
  | some (.idict kvs)=>some (kvs.map (·.1))
  | some (.lst vs)=>jB vs
  | _=>none)
 | _=>none
noncomputable def gs (ns : List Int) : List Int:=ns.mergeSort (fun a b=>decide (a ≤ b))
noncomputable def dQ : List ae → Mo ae
 | [a]=>fun M=>(match nk a M with
  | some ns=>if bV ns.length then rO ((gs ns).map .int) M else none
  | none=>none)
 | _=>dK
theorem wI : ∀ {vs : List ae} {ns : List Int},jB vs = some ns → vs = ns.map .int
 | [],ns,e=>by cases e; rfl
 | .int i :: r,ns,e=>by
  unfold jB at e
  cases h : jB r with
  | none=>rw [h] at e; cases e
  | some ms=>rw [h] at e; cases e; rw [wI h]; rfl
 | .none :: _,_,e=>by cases e
 | .bool _ :: _,_,e=>by cases e
 | .str _ :: _,_,e=>by cases e
 | .lst _ :: _,_,e=>by cases e
 | .tup _ :: _,_,e=>by cases e
 | .inst _ _ :: _,_,e=>by cases e
 | .rng _ _ _ :: _,_,e=>by cases e
 | .mref _ :: _,_,e=>by cases e
theorem bO.int_inv {h : Heap} {G : Gh} {v : Value} {n : Int} (r : bO h G v (.int n)) : ∃ t,v = .int n t:=by
 cases r; exact ⟨_,rfl⟩
theorem bf.nil_inv {h : Heap} {G : Gh} {xs : List Value} (r : bf h G xs []) : xs = []:=by
 cases r; rfl
theorem bf.cons_inv {h : Heap} {G : Gh} {xs : List Value} {a : ae} {as : List ae} (r : bf h G xs (a :: as)) : ∃ x ys,xs = x :: ys ∧ bO h G x a ∧ bf h G ys as:=by
 cases r with
 | cons r1 r2=>exact ⟨_,_,rfl,r1,r2⟩
theorem zU {h : Heap} {G : Gh} {ns : List Int} : ∀ {items : List Value},bf h G items (ns.map .int) → IntsAre items ns:=by
 induction ns with
 | nil=>intro items r; rw [r.nil_inv]; exact .nil
 | cons n ns ih=>
  intro items r
  obtain ⟨x,ys,rfl,r1,r2⟩:=r.cons_inv
  obtain ⟨t,rfl⟩:=r1.int_inv
  exact .cons n t (ih r2)
theorem pt {h : Heap} {G : Gh} {ns : List Int} {items : List Value} (r : IntsAre items ns) : bf h G items (ns.map .int):=by
 induction r with
 | nil=>exact .nil
 | cons n t _ ih=>exact .cons (.int n t) ih
theorem y8 {ns : List Int} {items : List Value} (r : IntsAre items ns) : items.length = ns.length:=by
 induction r with
 | nil=>rfl
 | cons n t _ ih=>rw [List.length_cons,List.length_cons,ih]
theorem u7 {h : Heap} {G : Gh} {ps : List (Int × Value)} {kvs : List (Int × ae)} (r : dT h G ps kvs) : ps.map (·.1) = kvs.map (·.1):=by
 induction r with
 | nil=>rfl
 | cons _ _ ih=>rw [List.map_cons,List.map_cons,ih]
theorem yM {kvs : List (Int × Value)} : ∀ {items : List Value},items.length = kvs.length → (∀ (i : Nat) v,items[i]? = some v → ∃ k x,kvs[i]? = some (k,x) ∧ Value.isInt k v = true) → IntsAre items (kvs.map (·.1)):=by
 induction kvs with
 | nil=>intro items hl h; rw [List.eq_nil_of_length_eq_zero hl]; exact .nil
 | cons p kvs ih=>
  intro items hl h
  cases items with
  | nil=>cases hl
  | cons v items=>
   obtain ⟨k,x,h1,h2⟩:=h 0 v rfl
   cases h1
   obtain ⟨t,rfl⟩:=Value.isInt_shape h2
   exact .cons k t (ih (Nat.succ.inj hl) fun i u e=>h (i + 1) u e)
theorem oo (hsys : ∃ o,B.get? sysModules = some o) : ij prog w B b (.builtin "sorted") dQ:=by
 intro A s G M xs as r M' R C rs e Q E h
 unfold dQ at e
 split at e
 ·cases rs with
  | cons r1 r2=>
   cases r2
   split at e
   ·rename_i hv
    split at e
    ·rename_i hs
     obtain ⟨rfl,rfl⟩:=dS e
     refine uv (ns:=ns) ?_ fun a h' tk out ns' n ha keep o hI hp hsd=>?_
     ·intro R' hR
      unfold nk at hv
      split at hv
      ·split at hv
       ·rename_i hm
        cases hv
        cases r1 with
        | @mref _ ad r1=>
         obtain ⟨d,ps,r',t,hd,q⟩:=C.muts i _ hm
         rw [r1] at r'; cases r'
         obtain ⟨ep,hat⟩:=hd.dictAt
         have hk:=u7 q
         have hl : ps.length = (kvs.map (·.1)).length:=by rw [← hk,List.length_map]
         refine sj (kdl_dict (knd:=intKind prog w) (kvs:=ps) (ep:=ep) (lT C hsys t)) R.hd hat (by rw [hl]; exact b7 hs) fun h' tk acc k hle hn hP=>?_
         have:=yM (kvs:=ps) hn fun i v e=>by obtain ⟨kk,x,e1,e2⟩:=hP i v e; exact ⟨kk,x,e1,e2⟩
         rw [hk] at this
         exact hR h' tk acc k hle this (by rw [hn,hl]; exact b7 hs)
       ·rename_i hm
        obtain ⟨ad,items,n,rfl,ρ,t,o,q⟩:=C.mlist r1 hm
        have ev:=wI hv
        subst ev
        have hI:=zU q
        have hl:=y8 hI
        refine collect_list (vs:=items) ⟨_,o,rfl,n,rfl⟩ ?_ (by rw [hl]; exact b7 hs)
        have SB : Heap.SameBut s.heap.objs.size (s.heap.push (seqObj "list" #[] 0)) ((s.heap.push (seqObj "list" #[] 0)).update s.heap.objs.size (Obj.mapSeq (· ++ items.toArray))):=Heap.SameBut.update ..
        refine hR _ s.toks items (fun b o e=>(SB.2 b (Nat.ne_of_lt (Heap.lt_size e))).trans (Heap.get?_push_of_some _ e)) (by rw [SB.1,size_push']; exact o97) hI (by rw [hl]; exact b7 hs)
       ·cases hv
      ·cases hv
     ·have e1 : ns' = gs ns:=((List.mergeSort_perm ..).trans hp.symm).eq_of_pairwise (fun x y _ _ h1 h2=>Int.le_antisymm h1 h2) (by
       have:=List.pairwise_mergeSort (le:=fun a b : Int=>decide (a ≤ b)) (fun a b c h1 h2=>decide_eq_true (Int.le_trans (of_decide_eq_true h1) (of_decide_eq_true h2))) (fun a b=>by have:=Int.le_total a b; simpa using this) ns
       exact this.imp fun h=>of_decide_eq_true h) hsd |>.symm
      subst e1
      obtain ⟨c1,c2,c3⟩:=C.keepNew keep a ha o (pt hI)
      exact h h' tk _ _ c1 c2 c3
    ·cases e
   ·cases e
 ·cases e
end
end Mine
end
section
namespace Mine
inductive Fn where
 | Node
 | f_const
 | ProcTree
 | f_nodes_of
 | f_is_scalar
 | f_inner_nodes
 | f_followed
 | Follower
 | slot_of
 | f_used
 | f_with_store
 | f_place_uses
 | f_value_uses
 | f_call_uses
 | f_std_uses
 | f_branch_uses
 | f_while_uses
 | f_for_uses
 | f_case_uses
 | f_statement_uses
 | f_unset_uses
 | Type
 | Obj
 | Types
 | tnew
 | f_law_pool
 | f_law_draw
 | f_law_place
 | f_law_var
 | f_law_value
 | f_law_test
 | f_law_block
 | f_law_arms
 | f_law_deed
 | f_law_uses
 | f_law_stored
 | f_law_joined
 | f_law_ways
 | f_law_turns
 | f_law
noncomputable def n8 : Fn → Addr
 | .Node=>32
 | .f_const=>43
 | .ProcTree=>60
 | .f_nodes_of=>71
 | .f_is_scalar=>78
 | .f_inner_nodes=>85
 | .f_followed=>92
 | .Follower=>116
 | .slot_of=>113
 | .f_used=>127
 | .f_with_store=>134
 | .f_place_uses=>141
 | .f_value_uses=>148
 | .f_call_uses=>155
 | .f_std_uses=>162
 | .f_branch_uses=>169
 | .f_while_uses=>176
 | .f_for_uses=>183
 | .f_case_uses=>190
 | .f_statement_uses=>197
 | .f_unset_uses=>202
 | .Type=>219
 | .Obj=>240
 | .Types=>276
 | .tnew=>266
 | .f_law_pool=>287
 | .f_law_draw=>294
 | .f_law_place=>301
 | .f_law_var=>308
 | .f_law_value=>315
 | .f_law_test=>322
 | .f_law_block=>327
 | .f_law_arms=>334
 | .f_law_deed=>341
 | .f_law_uses=>348
 | .f_law_stored=>353
 | .f_law_joined=>358
 | .f_law_ways=>365
 | .f_law_turns=>372
 | .f_law=>379
noncomputable def kE : Sg:=⟨aM (mt 1 0),["self", "op", "place", "type_of", "kids", "value"]⟩
noncomputable def dg (c : Fn → List ae → Mo ae) : Loc → Mo (Fl × Loc):=
 (au (bk (bS "op") (af 0) (af 1)) (au (bk (bS "place") (af 0) (af 2)) (au (bk (bS "type") (af 0) (af 3)) (au (bk (bS "kids") (af 0) (af 4)) (au (bk (bS "value") (af 0) (af 5)) (bk (bS "sure") (af 0) (ar (.bool false))))))))
noncomputable def rB : Sg:=⟨aM (st 2),["t", "value", "place"]⟩
noncomputable def j2 (c : Fn → List ae → Mo ae) : Loc → Mo (Fl × Loc):=
 (bL (aD (aq (c .Node) (ab (ar (.str "const")) (ab (af 2) (ab (af 0) (ab (aD (bC am)) (ab (af 1) am))))))))
noncomputable def g4 : Sg:=⟨aM (mt 3 0),["self", "obj"]⟩
noncomputable def ej (c : Fn → List ae → Mo ae) : Loc → Mo (Fl × Loc):=
 (au (bk (bS "obj") (af 0) (af 1)) (au (bk (bS "params") (af 0) (aD (bC am))) (au (bk (bS "locals") (af 0) (aD (bC am))) (au (bk (bS "procs") (af 0) (aD (bC am))) (au (bk (bS "body") (af 0) (ar .none)) (au (bk (bS "result") (af 0) (ar .none)) (bk (bS "level") (af 0) (aE eH (aS (aK "level") (af 1)) (ar (.int 1))))))))))
noncomputable def lZ : Sg:=⟨aM (st 4),["node", "found", "waiting", "one", "kid"]⟩
noncomputable def fh (c : Fn → List ae → Mo ae) : Loc → Mo (Fl × Loc):=
 (au (a7 1 (bC am)) (au (a7 2 (bC am)) (au (sIf (a6 (aE iL (af 0) (ar .none))) (bw (bG be (af 2) (ab (af 0) am))) bE) (au (dC (a6 (aE oGt (aq ff (ab (af 2) am)) (ar (.int 0)))) (au (a7 3 (bG lq (af 2) am)) (au (bw (bG be (af 1) (ab (af 3) am))) (jg 4 (aS (aK "kids") (af 3)) (sIf (a6 (aE iL (af 4) (ar .none))) (bw (bG be (af 2) (ab (af 4) am))) bE)))) 1000) (bL (af 1))))))
noncomputable def j3 : Sg:=⟨aM (st 6),["t"]⟩
noncomputable def gq (c : Fn → List ae → Mo ae) : Loc → Mo (Fl × Loc):=
 (bL (aE oIn (aS (aK "form") (af 0)) (jA (ab (ar (.str "boolean")) (ab (ar (.str "char")) (ab (ar (.str "byte")) (ab (ar (.str "integer")) (ab (ar (.str "set")) (ab (ar (.str "nil")) (ab (ar (.str "pointer")) (ab (ar (.str "proc")) am)))))))))))
noncomputable def iP : Sg:=⟨aM (st 8),["tree", "found", "waiting", "one"]⟩
noncomputable def d7 (c : Fn → List ae → Mo ae) : Loc → Mo (Fl × Loc):=
 (au (a7 1 (bC am)) (au (a7 2 (aq ni (ab (aS (aK "procs") (af 0)) am))) (au (dC (a6 (aE oGt (aq ff (ab (af 2) am)) (ar (.int 0)))) (au (a7 3 (bG lq (af 2) am)) (au (bw (bG eY (af 1) (ab (aD (aq (c .f_nodes_of) (ab (aS (aK "body") (af 3)) am))) am))) (au (bw (bG eY (af 1) (ab (aD (aq (c .f_nodes_of) (ab (aS (aK "result") (af 3)) am))) am))) (bw (bG eY (af 2) (ab (aS (aK "procs") (af 3)) am)))))) 1000) (bL (af 1)))))
noncomputable def lJ : Sg:=⟨aM (st 9),["tree", "away", "node", "found", "obj"]⟩
noncomputable def gd (c : Fn → List ae → Mo ae) : Loc → Mo (Fl × Loc):=
 (au (a7 1 kS) (au (dX 2 (aD (aq (c .f_inner_nodes) (ab (af 0) am))) (sIf (kM (a6 (aE oEq (aS (aK "op") (af 2)) (ar (.str "var")))) (a6 (aE oEq (aS (aK "level") (aS (aK "value") (af 2))) (aS (aK "level") (af 0))))) (gP fK (af 1) (aS (aK "slot") (aS (aK "value") (af 2))) (ar (.bool true))) bE)) (au (a7 3 kS) (au (dX 4 (aS (aK "locals") (af 0)) (sIf (kM (a6 (aq (c .f_is_scalar) (ab (aS (aK "type") (af 4)) am))) (a6 (aE dA (aS (aK "slot") (af 4)) (af 1)))) (gP fK (af 3) (aS (aK "slot") (af 4)) (af 4)) bE)) (bL (af 3))))))
noncomputable def gX : Sg:=⟨aM (mt 10 0),["self", "tree"]⟩
noncomputable def du (c : Fn → List ae → Mo ae) : Loc → Mo (Fl × Loc):=
 (au (bk (bS "level") (af 0) (aS (aK "level") (af 1))) (au (bk (bS "slots") (af 0) (aq (c .f_followed) (ab (af 1) am))) (bk (bS "found") (af 0) kS)))
noncomputable def fN : Sg:=⟨aM (mt 10 1),["self", "node"]⟩
noncomputable def cO (c : Fn → List ae → Mo ae) : Loc → Mo (Fl × Loc):=
 (au (sIf (kM (a6 (aE oEq (aS (aK "op") (af 1)) (ar (.str "var")))) (kM (a6 (aE oEq (aS (aK "level") (aS (aK "value") (af 1))) (aS (aK "level") (af 0)))) (a6 (aE oIn (aS (aK "slot") (aS (aK "value") (af 1))) (aS (aK "slots") (af 0)))))) (bL (aS (aK "slot") (aS (aK "value") (af 1)))) bE) (bL (aS xR (ar (.int 1)))))
noncomputable def w0 : Sg:=⟨aM (st 11),["st", "node", "sure", "slot"]⟩
noncomputable def nY (c : Fn → List ae → Mo ae) : Loc → Mo (Fl × Loc):=
 (au (a7 3 (eB 116 "slot_of" (c .slot_of) (af 0) (ab (af 1) am))) (sIf (kM (a6 (aE oGe (af 3) (ar (.int 0)))) (a6 (aE oEq (aE mB (aE Bp (af 2) (af 3)) (ar (.int 1))) (ar (.int 0))))) (gP fK (aS (aK "found") (af 0)) (aS (aK "place") (af 1)) (af 3)) bE))
noncomputable def jl : Sg:=⟨aM (st 12),["st", "node", "sure", "slot"]⟩
noncomputable def e7 (c : Fn → List ae → Mo ae) : Loc → Mo (Fl × Loc):=
 (au (dC (a6 (aE oEq (aS (aK "op") (af 1)) (ar (.str "guard")))) (a7 1 (aE aV (aS (aK "kids") (af 1)) (ar (.int 0)))) 1000) (au (a7 3 (eB 116 "slot_of" (c .slot_of) (af 0) (ab (af 1) am))) (au (sIf (a6 (aE oLt (af 3) (ar (.int 0)))) (bL (af 2)) bE) (bL (aE oOr (af 2) (aE Cu (ar (.int 1)) (af 3)))))))
noncomputable def jn : Sg:=⟨aM (st 13),["st", "node", "sure", "kid"]⟩
noncomputable def e8 (c : Fn → List ae → Mo ae) : Loc → Mo (Fl × Loc):=
 (au (sIf (a6 (aE oGe (eB 116 "slot_of" (c .slot_of) (af 0) (ab (af 1) am)) (ar (.int 0)))) (bL (af 2)) bE) (au (sIf (a6 (aE oEq (aS (aK "op") (af 1)) (ar (.str "var")))) (bL (af 2)) bE) (au (sIf (tOr (a6 (aE oEq (aS (aK "op") (af 1)) (ar (.str "deref")))) (a6 (aE oEq (aS (aK "op") (af 1)) (ar (.str "guard"))))) (bL (aq (c .f_value_uses) (ab (af 0) (ab (aE aV (aS (aK "kids") (af 1)) (ar (.int 0))) (ab (af 2) am))))) bE) (au (a7 2 (aq (c .f_place_uses) (ab (af 0) (ab (aE aV (aS (aK "kids") (af 1)) (ar (.int 0))) (ab (af 2) am))))) (au (dX 3 (aD (gT 1 (aS (aK "kids") (af 1)))) (a7 2 (aq (c .f_value_uses) (ab (af 0) (ab (af 3) (ab (af 2) am)))))) (bL (af 2)))))))
noncomputable def jj : Sg:=⟨aM (st 14),["st", "node", "sure", "kid"]⟩
noncomputable def cT (c : Fn → List ae → Mo ae) : Loc → Mo (Fl × Loc):=
 (au (sIf (a6 (aE oEq (aS (aK "op") (af 1)) (ar (.str "var")))) (au (bw (aq (c .f_used) (ab (af 0) (ab (af 1) (ab (af 2) am))))) (bL (af 2))) bE) (au (sIf (tOr (a6 (aE oEq (aS (aK "op") (af 1)) (ar (.str "&")))) (a6 (aE oEq (aS (aK "op") (af 1)) (ar (.str "OR"))))) (au (a7 2 (aq (c .f_value_uses) (ab (af 0) (ab (aE aV (aS (aK "kids") (af 1)) (ar (.int 0))) (ab (af 2) am))))) (au (bw (aq (c .f_value_uses) (ab (af 0) (ab (aE aV (aS (aK "kids") (af 1)) (ar (.int 1))) (ab (af 2) am))))) (bL (af 2)))) bE) (au (sIf (a6 (aE oEq (aS (aK "op") (af 1)) (ar (.str "call")))) (bL (aq (c .f_call_uses) (ab (af 0) (ab (af 1) (ab (af 2) am))))) bE) (au (dX 3 (aS (aK "kids") (af 1)) (a7 2 (aq (c .f_value_uses) (ab (af 0) (ab (af 3) (ab (af 2) am)))))) (bL (af 2))))))
noncomputable def kt : Sg:=⟨aM (st 15),["st", "node", "sure", "head", "params", "handed", "spot", "given"]⟩
noncomputable def fF (c : Fn → List ae → Mo ae) : Loc → Mo (Fl × Loc):=
 (au (a7 3 (aE aV (aS (aK "kids") (af 1)) (ar (.int 0)))) (au (a7 2 (aq (c .f_value_uses) (ab (af 0) (ab (af 3) (ab (af 2) am))))) (au (a7 4 (aS (aK "params") (aS (aK "type") (af 3)))) (au (a7 5 (bC am)) (au (dX 6 (aq cX (ab (aE k0 (aq ff (ab (aS (aK "kids") (af 1)) am)) (ar (.int 1))) am)) (au (a7 7 (aE aV (aS (aK "kids") (af 1)) (aE eH (af 6) (ar (.int 1))))) (sIf (kM (a6 (aE oEq (aS (aK "kind") (aE aV (af 4) (af 6))) (ar (.str "par")))) (a6 (aE oNe (aS (aK "op") (af 7)) (ar (.str "const"))))) (au (a7 2 (aq (c .f_place_uses) (ab (af 0) (ab (af 7) (ab (af 2) am))))) (bw (bG be (af 5) (ab (af 7) am)))) (a7 2 (aq (c .f_value_uses) (ab (af 0) (ab (af 7) (ab (af 2) am)))))))) (au (dX 7 (aD (af 5)) (a7 2 (aq (c .f_with_store) (ab (af 0) (ab (af 7) (ab (af 2) am)))))) (bL (af 2))))))))
noncomputable def lL : Sg:=⟨aM (st 16),["st", "node", "sure", "first", "kid"]⟩
noncomputable def gh (c : Fn → List ae → Mo ae) : Loc → Mo (Fl × Loc):=
 (au (a7 3 (aE aV (aS (aK "kids") (af 1)) (ar (.int 0)))) (au (sIf (a6 (aE oEq (aS (aK "value") (af 1)) (ar (.str "ASSERT")))) (bL (aq (c .f_value_uses) (ab (af 0) (ab (af 3) (ab (af 2) am))))) bE) (au (a7 2 (aq (c .f_place_uses) (ab (af 0) (ab (af 3) (ab (af 2) am))))) (au (dX 4 (aD (gT 1 (aS (aK "kids") (af 1)))) (a7 2 (aq (c .f_value_uses) (ab (af 0) (ab (af 4) (ab (af 2) am)))))) (au (sIf (a6 (aE oNe (aS (aK "value") (af 1)) (ar (.str "NEW")))) (bw (aq (c .f_used) (ab (af 0) (ab (af 3) (ab (af 2) am))))) bE) (bL (aq (c .f_with_store) (ab (af 0) (ab (af 3) (ab (af 2) am))))))))))
noncomputable def iM : Sg:=⟨aM (st 17),["st", "node", "sure", "ends", "place", "end"]⟩
noncomputable def dw (c : Fn → List ae → Mo ae) : Loc → Mo (Fl × Loc):=
 (au (a7 3 (bC am)) (au (dX 4 (aq cX (ab (ar (.int 0)) (ab (aE k0 (aq ff (ab (aS (aK "kids") (af 1)) am)) (ar (.int 1))) (ab (ar (.int 2)) am)))) (au (a7 2 (aq (c .f_value_uses) (ab (af 0) (ab (aE aV (aS (aK "kids") (af 1)) (af 4)) (ab (af 2) am))))) (bw (bG be (af 3) (ab (aq (c .f_statement_uses) (ab (af 0) (ab (aE aV (aS (aK "kids") (af 1)) (aE eH (af 4) (ar (.int 1)))) (ab (af 2) am)))) am))))) (au (sIf (a6 (aS (aK "value") (af 1))) (a7 2 (aq (c .f_statement_uses) (ab (af 0) (ab (aE aV (aS (aK "kids") (af 1)) (aS xR (ar (.int 1)))) (ab (af 2) am))))) bE) (au (dX 5 (aD (af 3)) (a7 2 (aE mB (af 2) (af 5)))) (bL (af 2))))))
noncomputable def jp : Sg:=⟨aM (st 18),["st", "node", "sure", "place"]⟩
noncomputable def eS (c : Fn → List ae → Mo ae) : Loc → Mo (Fl × Loc):=
 (au (dX 3 (aq cX (ab (ar (.int 0)) (ab (aq ff (ab (aS (aK "kids") (af 1)) am)) (ab (ar (.int 2)) am)))) (au (a7 2 (aq (c .f_value_uses) (ab (af 0) (ab (aE aV (aS (aK "kids") (af 1)) (af 3)) (ab (af 2) am))))) (bw (aq (c .f_statement_uses) (ab (af 0) (ab (aE aV (aS (aK "kids") (af 1)) (aE eH (af 3) (ar (.int 1)))) (ab (af 2) am))))))) (bL (af 2)))
noncomputable def lQ : Sg:=⟨aM (st 19),["st", "node", "sure", "head", "first", "last", "block"]⟩
noncomputable def f9 (c : Fn → List ae → Mo ae) : Loc → Mo (Fl × Loc):=
 (au (mH [3,4,5,6] (aS (aK "kids") (af 1))) (au (a7 2 (aq (c .f_value_uses) (ab (af 0) (ab (af 4) (ab (aq (c .f_place_uses) (ab (af 0) (ab (af 3) (ab (af 2) am)))) am))))) (au (a7 2 (aq (c .f_value_uses) (ab (af 0) (ab (af 5) (ab (aq (c .f_with_store) (ab (af 0) (ab (af 3) (ab (af 2) am)))) am))))) (au (bw (aq (c .f_statement_uses) (ab (af 0) (ab (af 6) (ab (af 2) am))))) (bL (af 2))))))
noncomputable def kC : Sg:=⟨aM (st 20),["st", "node", "sure", "end", "block"]⟩
noncomputable def fE (c : Fn → List ae → Mo ae) : Loc → Mo (Fl × Loc):=
 (au (a7 2 (aq (c .f_value_uses) (ab (af 0) (ab (aE aV (aS (aK "kids") (af 1)) (ar (.int 0))) (ab (af 2) am))))) (au (a7 3 (aS xR (ar (.int 1)))) (au (dX 4 (aD (gT 1 (aS (aK "kids") (af 1)))) (a7 3 (aE mB (af 3) (aq (c .f_statement_uses) (ab (af 0) (ab (af 4) (ab (af 2) am))))))) (bL (af 3)))))
noncomputable def gw : Sg:=⟨aM (st 21),["st", "node", "sure", "op", "kid"]⟩
noncomputable def bj (c : Fn → List ae → Mo ae) : Loc → Mo (Fl × Loc):=
 (au (a7 3 (aS (aK "op") (af 1))) (au (sIf (a6 (aE oEq (af 3) (ar (.str "block")))) (au (dX 4 (aS (aK "kids") (af 1)) (a7 2 (aq (c .f_statement_uses) (ab (af 0) (ab (af 4) (ab (af 2) am)))))) (bL (af 2))) bE) (au (sIf (a6 (aE oEq (af 3) (ar (.str "assign")))) (au (a7 2 (aq (c .f_place_uses) (ab (af 0) (ab (aE aV (aS (aK "kids") (af 1)) (ar (.int 0))) (ab (af 2) am))))) (au (a7 2 (aq (c .f_value_uses) (ab (af 0) (ab (aE aV (aS (aK "kids") (af 1)) (ar (.int 1))) (ab (af 2) am))))) (bL (aq (c .f_with_store) (ab (af 0) (ab (aE aV (aS (aK "kids") (af 1)) (ar (.int 0))) (ab (af 2) am))))))) bE) (au (sIf (a6 (aE oEq (af 3) (ar (.str "call")))) (bL (aq (c .f_call_uses) (ab (af 0) (ab (af 1) (ab (af 2) am))))) bE) (au (sIf (a6 (aE oEq (af 3) (ar (.str "std")))) (bL (aq (c .f_std_uses) (ab (af 0) (ab (af 1) (ab (af 2) am))))) bE) (au (sIf (a6 (aE oEq (af 3) (ar (.str "if")))) (bL (aq (c .f_branch_uses) (ab (af 0) (ab (af 1) (ab (af 2) am))))) bE) (au (sIf (a6 (aE oEq (af 3) (ar (.str "while")))) (bL (aq (c .f_while_uses) (ab (af 0) (ab (af 1) (ab (af 2) am))))) bE) (au (sIf (a6 (aE oEq (af 3) (ar (.str "repeat")))) (bL (aq (c .f_value_uses) (ab (af 0) (ab (aE aV (aS (aK "kids") (af 1)) (ar (.int 1))) (ab (aq (c .f_statement_uses) (ab (af 0) (ab (aE aV (aS (aK "kids") (af 1)) (ar (.int 0))) (ab (af 2) am)))) am))))) bE) (au (sIf (a6 (aE oEq (af 3) (ar (.str "for")))) (bL (aq (c .f_for_uses) (ab (af 0) (ab (af 1) (ab (af 2) am))))) bE) (bL (aq (c .f_case_uses) (ab (af 0) (ab (af 1) (ab (af 2) am))))))))))))))
noncomputable def jo : Sg:=⟨aM (st 22),["tree", "st", "sure"]⟩
noncomputable def eI (c : Fn → List ae → Mo ae) : Loc → Mo (Fl × Loc):=
 (au (a7 1 (aq (c .Follower) (ab (af 0) am))) (au (a7 2 (aq (c .f_statement_uses) (ab (af 1) (ab (aS (aK "body") (af 0)) (ab (ar (.int 0)) am))))) (au (sIf (a6 (aE iL (aS (aK "result") (af 0)) (ar .none))) (bw (aq (c .f_value_uses) (ab (af 1) (ab (aS (aK "result") (af 0)) (ab (af 2) am))))) bE) (bL (iO [(1, "st")] (aD (aq dQ (ab (aS (aK "found") (af 1)) am))) vC (jA (ab (af 0) (ab (aS (aK "name") (aE aV (aS (aK "slots") (af 1)) (aE aV (aS (aK "found") (af 1)) (af 0)))) am))))))))
noncomputable def j0 : Sg:=⟨aM (mt 24 0),["self", "number", "form", "size"]⟩
noncomputable def gy (c : Fn → List ae → Mo ae) : Loc → Mo (Fl × Loc):=
 (au (bk (bS "number") (af 0) (af 1)) (au (bk (bS "form") (af 0) (af 2)) (au (bk (bS "size") (af 0) (af 3)) (au (bk (bS "base") (af 0) (ar .none)) (au (bk (bS "length") (af 0) (ar (.int 0))) (au (bk (bS "fields") (af 0) (aD (bC am))) (au (bk (bS "level") (af 0) (ar (.int 0))) (au (bk (bS "params") (af 0) (aD (bC am))) (au (bk (bS "module") (af 0) (ar (.str ""))) (au (bk (bS "label") (af 0) (ar (.str ""))) (au (bk (bS "hidden") (af 0) (aD (bC am))) (bk (bS "exno") (af 0) (ar (.int 0))))))))))))))
noncomputable def lO : Sg:=⟨aM (mt 25 0),["self", "name", "kind", "type_of", "place"]⟩
noncomputable def hZ (c : Fn → List ae → Mo ae) : Loc → Mo (Fl × Loc):=
 (au (bk (bS "name") (af 0) (af 1)) (au (bk (bS "kind") (af 0) (af 2)) (au (bk (bS "type") (af 0) (af 3)) (au (bk (bS "place") (af 0) (af 4)) (au (bk (bS "exported") (af 0) (ar (.bool false))) (au (bk (bS "readonly") (af 0) (ar (.bool false))) (au (bk (bS "level") (af 0) (ar (.int 0))) (au (bk (bS "module") (af 0) (ar (.str ""))) (au (bk (bS "value") (af 0) (ar .none)) (au (bk (bS "slot") (af 0) (ar (.int 0))) (au (bk (bS "offset") (af 0) (ar (.int 0))) (au (bk (bS "number") (af 0) (ar (.int 0))) (au (bk (bS "isparam") (af 0) (ar (.bool false))) (bk (bS "narrowed") (af 0) (ar .none)))))))))))))))
noncomputable def ju : Sg:=⟨aM (mt 26 0),["self"]⟩
noncomputable def fW (c : Fn → List ae → Mo ae) : Loc → Mo (Fl × Loc):=
 (au (bk (bS "counter") (af 0) (ar (.int 0))) (au (bk (bS "known") (af 0) kS) (au (bk (bS "boolean") (af 0) (aD (eB 276 "new" (c .tnew) (af 0) (ab (ar (.str "boolean")) (ab (ar (.int 1)) am))))) (au (bk (bS "char") (af 0) (aD (eB 276 "new" (c .tnew) (af 0) (ab (ar (.str "char")) (ab (ar (.int 1)) am))))) (au (bk (bS "byte") (af 0) (aD (eB 276 "new" (c .tnew) (af 0) (ab (ar (.str "byte")) (ab (ar (.int 1)) am))))) (au (bk (bS "integer") (af 0) (aD (eB 276 "new" (c .tnew) (af 0) (ab (ar (.str "integer")) (ab (ar (.int 4)) am))))) (au (bk (bS "mask") (af 0) (aD (eB 276 "new" (c .tnew) (af 0) (ab (ar (.str "set")) (ab (ar (.int 4)) am))))) (au (bk (bS "nil") (af 0) (aD (eB 276 "new" (c .tnew) (af 0) (ab (ar (.str "nil")) (ab (ar (.int 4)) am))))) (bk (bS "none") (af 0) (aD (eB 276 "new" (c .tnew) (af 0) (ab (ar (.str "none")) (ab (ar (.int 0)) am)))))))))))))
noncomputable def jT : Sg:=⟨aM (mt 26 1),["self", "form", "size", "module", "label", "made"]⟩
noncomputable def gx (c : Fn → List ae → Mo ae) : Loc → Mo (Fl × Loc):=
 (au (sK (aK "counter") eH (bS "counter") (af 0) (ar (.int 1))) (au (a7 5 (aq (c .Type) (ab (aS (aK "counter") (af 0)) (ab (af 1) (ab (af 2) am))))) (au (bk (bS "module") (af 5) (af 3)) (au (bk (bS "label") (af 5) (af 4)) (au (sIf (a6 (aE oNe (af 4) (ar (.str "")))) (gP fK (aS (aK "known") (af 0)) (jA (ab (af 3) (ab (af 4) am))) (af 5)) bE) (bL (af 5)))))))
noncomputable def lF : Sg:=⟨aM (st 28),["script", "figures", "cell", "left_over", "lap"]⟩
noncomputable def f8 (c : Fn → List ae → Mo ae) : Loc → Mo (Fl × Loc):=
 (au (a7 1 (bC am)) (au (dX 2 (aD (nz 60 (af 0))) (au (a7 3 (eIf (a6 (aE oGe (af 2) (ar (.int 0)))) (af 2) (aE k0 (ar (.int 5)) (aE lh (ar (.int 3)) (af 2))))) (dX 4 (aq cX (ab (ar (.int 40)) am)) (au (bw (bG be (af 1) (ab (aE rP (af 3) (ar (.int 997))) am))) (au (a7 3 (aE qM (af 3) (ar (.int 997)))) (sIf (a6 (aE oEq (af 3) (ar (.int 0)))) yO bE)))))) (au (a7 1 (nz 240 (af 1))) (au (bw (bG iB (af 1) am)) (bL (af 1))))))
noncomputable def lG : Sg:=⟨aM (st 29),["pool", "bound_at"]⟩
noncomputable def f7 (c : Fn → List ae → Mo ae) : Loc → Mo (Fl × Loc):=
 (bL (eIf (a6 (aE oNe (af 0) (bC am))) (aE rP (bG lq (af 0) am) (af 1)) (ar (.int 0))))
noncomputable def jQ : Sg:=⟨aM (st 30),["book"]⟩
noncomputable def gz (c : Fn → List ae → Mo ae) : Loc → Mo (Fl × Loc):=
 (au (eO aV eH fK (af 0) (ar (.str "place")) (ar (.int 1))) (bL (aE aV (af 0) (ar (.str "place")))))
noncomputable def nN : Sg:=⟨aM (st 31),["book", "spot"]⟩
noncomputable def gQ (c : Fn → List ae → Mo ae) : Loc → Mo (Fl × Loc):=
 (bL (aD (aq (c .Node) (ab (ar (.str "var")) (ab (aq (c .f_law_place) (ab (af 0) am)) (ab (aS (aK "integer") (aE aV (af 0) (ar (.str "types")))) (ab (aD (bC am)) (ab (aE aV (aE aV (af 0) (ar (.str "vars"))) (af 1)) am))))))))
noncomputable def jO : Sg:=⟨aM (st 32),["book", "pool", "draw", "left"]⟩
noncomputable def fz (c : Fn → List ae → Mo ae) : Loc → Mo (Fl × Loc):=
 (au (a7 2 (aq (c .f_law_draw) (ab (af 1) (ab (ar (.int 4)) am)))) (au (sIf (a6 (aE oEq (af 2) (ar (.int 3)))) (au (a7 3 (aq (c .f_law_var) (ab (af 0) (ab (aq (c .f_law_draw) (ab (af 1) (ab (ar (.int 4)) am))) am)))) (bL (aD (aq (c .Node) (ab (ar (.str "+")) (ab (aq (c .f_law_place) (ab (af 0) am)) (ab (aS (aK "integer") (aE aV (af 0) (ar (.str "types")))) (ab (aD (bC (ab (af 3) (ab (aq (c .f_law_var) (ab (af 0) (ab (aq (c .f_law_draw) (ab (af 1) (ab (ar (.int 4)) am))) am))) am)))) am)))))))) bE) (au (sIf (a6 (aE oEq (af 2) (ar (.int 2)))) (bL (aq (c .f_const) (ab (aS (aK "integer") (aE aV (af 0) (ar (.str "types")))) (ab (ar (.int 1)) (ab (aq (c .f_law_place) (ab (af 0) am)) am))))) bE) (bL (aq (c .f_law_var) (ab (af 0) (ab (aq (c .f_law_draw) (ab (af 1) (ab (ar (.int 4)) am))) am)))))))
noncomputable def mh : Sg:=⟨aM (st 33),["book", "pool", "truth_of", "left", "draw", "right"]⟩
noncomputable def fZ (c : Fn → List ae → Mo ae) : Loc → Mo (Fl × Loc):=
 (au (a7 2 (aS (aK "boolean") (aE aV (af 0) (ar (.str "types"))))) (au (a7 3 (aD (aq (c .Node) (ab (ar (.str "<")) (ab (aq (c .f_law_place) (ab (af 0) am)) (ab (af 2) (ab (aD (bC (ab (aq (c .f_law_value) (ab (af 0) (ab (af 1) am))) (ab (aq (c .f_law_value) (ab (af 0) (ab (af 1) am))) am)))) am))))))) (au (a7 4 (aq (c .f_law_draw) (ab (af 1) (ab (ar (.int 4)) am)))) (au (sIf (a6 (aE oLt (af 4) (ar (.int 2)))) (bL (af 3)) bE) (au (a7 5 (aD (aq (c .Node) (ab (ar (.str "=")) (ab (aq (c .f_law_place) (ab (af 0) am)) (ab (af 2) (ab (aD (bC (ab (aq (c .f_law_value) (ab (af 0) (ab (af 1) am))) (ab (aq (c .f_law_value) (ab (af 0) (ab (af 1) am))) am)))) am))))))) (bL (aD (aq (c .Node) (ab (eIf (a6 (aE oEq (af 4) (ar (.int 2)))) (ar (.str "&")) (ar (.str "OR"))) (ab (aq (c .f_law_place) (ab (af 0) am)) (ab (af 2) (ab (aD (bC (ab (af 3) (ab (af 5) am)))) am))))))))))))
noncomputable def kG : Sg:=⟨aM (st 34),["book", "pool", "deep", "kids"]⟩
noncomputable def fC (c : Fn → List ae → Mo ae) : Loc → Mo (Fl × Loc):=
 (au (a7 3 (iO [(0, "book"),(1, "pool"),(2, "deep")] (aq cX (ab (aE eH (ar (.int 1)) (aq (c .f_law_draw) (ab (af 1) (ab (ar (.int 2)) am)))) am)) vC (aq (c .f_law_deed) (ab (af 1) (ab (af 2) (ab (af 3) am)))))) (bL (aD (aq (c .Node) (ab (ar (.str "block")) (ab (aq (c .f_law_place) (ab (af 0) am)) (ab (ar .none) (ab (aD (af 3)) am))))))))
noncomputable def lY : Sg:=⟨aM (st 35),["book", "pool", "deep", "count", "kids", "lap"]⟩
noncomputable def f6 (c : Fn → List ae → Mo ae) : Loc → Mo (Fl × Loc):=
 (au (a7 4 (bC am)) (au (dX 5 (aq cX (ab (af 3) am)) (au (bw (bG be (af 4) (ab (aq (c .f_law_test) (ab (af 0) (ab (af 1) am))) am))) (bw (bG be (af 4) (ab (aq (c .f_law_block) (ab (af 0) (ab (af 1) (ab (aE eH (af 2) (ar (.int 1))) am)))) am))))) (bL (af 4))))
noncomputable def mn : Sg:=⟨aM (st 36),["book", "pool", "deep", "draw", "at", "kids", "rows", "lap", "other", "left", "callee", "handed", "inner"]⟩
noncomputable def f4 (c : Fn → List ae → Mo ae) : Loc → Mo (Fl × Loc):=
 (au (eO aV k0 fK (af 0) (ar (.str "spare")) (ar (.int 1))) (au (a7 3 (aq (c .f_law_draw) (ab (af 1) (ab (eIf (kM (a6 (aE oLt (af 2) (ar (.int 3)))) (a6 (aE oGt (aE aV (af 0) (ar (.str "spare"))) (ar (.int 0))))) (ar (.int 9)) (ar (.int 3))) am)))) (au (a7 4 (aq (c .f_law_place) (ab (af 0) am))) (au (sIf (a6 (aE oEq (af 3) (ar (.int 0)))) (au (a7 9 (aq (c .f_law_var) (ab (af 0) (ab (aq (c .f_law_draw) (ab (af 1) (ab (ar (.int 4)) am))) am)))) (bL (aD (aq (c .Node) (ab (ar (.str "assign")) (ab (af 4) (ab (ar .none) (ab (aD (bC (ab (af 9) (ab (aq (c .f_law_value) (ab (af 0) (ab (af 1) am))) am)))) am)))))))) bE) (au (sIf (a6 (aE oEq (af 3) (ar (.int 1)))) (au (a7 9 (aq (c .f_law_var) (ab (af 0) (ab (aq (c .f_law_draw) (ab (af 1) (ab (ar (.int 4)) am))) am)))) (bL (aD (aq (c .Node) (ab (ar (.str "std")) (ab (af 4) (ab (ar .none) (ab (aD (bC (ab (af 9) (ab (aq (c .f_law_value) (ab (af 0) (ab (af 1) am))) am)))) (ab (ar (.str "INC")) am))))))))) bE) (au (sIf (a6 (aE oEq (af 3) (ar (.int 2)))) (au (a7 10 (aD (aq (c .Node) (ab (ar (.str "proc")) (ab (aq (c .f_law_place) (ab (af 0) am)) (ab (aS (aK "type") (aE aV (af 0) (ar (.str "callee")))) (ab (aD (bC am)) (ab (aE aV (af 0) (ar (.str "callee"))) am)))))))) (au (a7 11 (aq (c .f_law_var) (ab (af 0) (ab (aq (c .f_law_draw) (ab (af 1) (ab (ar (.int 4)) am))) am)))) (bL (aD (aq (c .Node) (ab (ar (.str "call")) (ab (af 4) (ab (ar .none) (ab (aD (bC (ab (af 10) (ab (af 11) (ab (aq (c .f_law_value) (ab (af 0) (ab (af 1) am))) am))))) am))))))))) bE) (au (sIf (tOr (a6 (aE oEq (af 3) (ar (.int 3)))) (a6 (aE oEq (af 3) (ar (.int 4))))) (au (a7 5 (aq (c .f_law_arms) (ab (af 0) (ab (af 1) (ab (af 2) (ab (aE eH (ar (.int 1)) (aq (c .f_law_draw) (ab (af 1) (ab (ar (.int 2)) am)))) am)))))) (au (a7 8 (aE oEq (aq (c .f_law_draw) (ab (af 1) (ab (ar (.int 2)) am))) (ar (.int 1)))) (au (sIf (a6 (af 8)) (bw (bG be (af 5) (ab (aq (c .f_law_block) (ab (af 0) (ab (af 1) (ab (aE eH (af 2) (ar (.int 1))) am)))) am))) bE) (bL (aD (aq (c .Node) (ab (ar (.str "if")) (ab (af 4) (ab (ar .none) (ab (aD (af 5)) (ab (af 8) am))))))))))) bE) (au (sIf (a6 (aE oEq (af 3) (ar (.int 5)))) (bL (aD (aq (c .Node) (ab (ar (.str "while")) (ab (af 4) (ab (ar .none) (ab (aD (aq (c .f_law_arms) (ab (af 0) (ab (af 1) (ab (af 2) (ab (aE eH (ar (.int 1)) (aq (c .f_law_draw) (ab (af 1) (ab (ar (.int 2)) am)))) am)))))) am))))))) bE) (au (sIf (a6 (aE oEq (af 3) (ar (.int 6)))) (au (a7 12 (aq (c .f_law_block) (ab (af 0) (ab (af 1) (ab (aE eH (af 2) (ar (.int 1))) am))))) (bL (aD (aq (c .Node) (ab (ar (.str "repeat")) (ab (af 4) (ab (ar .none) (ab (aD (bC (ab (af 12) (ab (aq (c .f_law_test) (ab (af 0) (ab (af 1) am))) am)))) am)))))))) bE) (au (sIf (a6 (aE oEq (af 3) (ar (.int 7)))) (au (a7 5 (bC (ab (aq (c .f_law_var) (ab (af 0) (ab (aq (c .f_law_draw) (ab (af 1) (ab (ar (.int 4)) am))) am))) (ab (aq (c .f_law_value) (ab (af 0) (ab (af 1) am))) (ab (aq (c .f_law_value) (ab (af 0) (ab (af 1) am))) am))))) (bL (aD (aq (c .Node) (ab (ar (.str "for")) (ab (af 4) (ab (ar .none) (ab (aD (aE g3 (af 5) (bC (ab (aq (c .f_law_block) (ab (af 0) (ab (af 1) (ab (aE eH (af 2) (ar (.int 1))) am)))) am)))) (ab (ar (.int 1)) am))))))))) bE) (au (a7 5 (bC (ab (aq (c .f_law_value) (ab (af 0) (ab (af 1) am))) am))) (au (a7 6 (bC am)) (au (dX 7 (aq cX (ab (aE eH (ar (.int 1)) (aq (c .f_law_draw) (ab (af 1) (ab (ar (.int 2)) am)))) am)) (au (bw (bG be (af 6) (ab (aD (bC (ab (jA (ab (af 7) (ab (af 7) am))) am))) am))) (bw (bG be (af 5) (ab (aq (c .f_law_block) (ab (af 0) (ab (af 1) (ab (aE eH (af 2) (ar (.int 1))) am)))) am))))) (au (a7 8 (aE oEq (aq (c .f_law_draw) (ab (af 1) (ab (ar (.int 2)) am))) (ar (.int 1)))) (au (sIf (a6 (af 8)) (bw (bG be (af 5) (ab (aq (c .f_law_block) (ab (af 0) (ab (af 1) (ab (aE eH (af 2) (ar (.int 1))) am)))) am))) bE) (bL (aD (aq (c .Node) (ab (ar (.str "case")) (ab (af 4) (ab (ar .none) (ab (aD (af 5)) (ab (jA (ab (af 6) (ab (af 8) am))) am)))))))))))))))))))))))
noncomputable def lV : Sg:=⟨aM (st 37),["node", "states", "hits", "kid", "state"]⟩
noncomputable def eu (c : Fn → List ae → Mo ae) : Loc → Mo (Fl × Loc):=
 (au (sIf (a6 (aE oEq (aS (aK "op") (af 0)) (ar (.str "var")))) (au (dX 4 (af 1) (sIf (a6 (aE dA (aS (aK "slot") (aS (aK "value") (af 0))) (af 4))) (gP fK (af 2) (aS (aK "place") (af 0)) (aS (aK "value") (af 0))) bE)) wA) bE) (dX 3 (aS (aK "kids") (af 0)) (bw (aq (c .f_law_uses) (ab (af 3) (ab (af 1) (ab (af 2) am)))))))
noncomputable def jr : Sg:=⟨aM (st 38),["states", "spot", "found", "state", "wider"]⟩
noncomputable def eJ (c : Fn → List ae → Mo ae) : Loc → Mo (Fl × Loc):=
 (au (a7 2 (bC am)) (au (dX 3 (af 0) (au (a7 4 (aq dQ (ab (aE g3 (iO [(1, "spot")] (af 3) (a6 (aE oNe (af 0) (af 1))) (af 0)) (bC (ab (af 1) am))) am))) (sIf (a6 (aE dA (af 4) (af 2))) (bw (bG be (af 2) (ab (aD (af 4)) am))) bE))) (bL (aD (af 2)))))
noncomputable def jk : Sg:=⟨aM (st 39),["one", "other"]⟩
noncomputable def eL (c : Fn → List ae → Mo ae) : Loc → Mo (Fl × Loc):=
 (bL (aD (aE g3 (af 0) (iO [(0, "one")] (af 1) (a6 (aE dA (af 0) (af 1))) (af 0)))))
noncomputable def l9 : Sg:=⟨aM (st 40),["node", "states", "hits", "kids", "kid", "ends", "spot", "last"]⟩
noncomputable def cg (c : Fn → List ae → Mo ae) : Loc → Mo (Fl × Loc):=
 (au (sIf (a6 (aE oEq (af 1) (bC am))) (bL (aD (bC am))) bE) (au (a7 3 (aS (aK "kids") (af 0))) (au (sIf (a6 (aE oEq (aS (aK "op") (af 0)) (ar (.str "block")))) (au (dX 4 (af 3) (a7 1 (aq (c .f_law_ways) (ab (af 4) (ab (af 1) (ab (af 2) am)))))) (bL (af 1))) bE) (au (sIf (a6 (aE oEq (aS (aK "op") (af 0)) (ar (.str "assign")))) (au (bw (aq (c .f_law_uses) (ab (aE aV (af 3) (ar (.int 1))) (ab (af 1) (ab (af 2) am))))) (bL (aq (c .f_law_stored) (ab (af 1) (ab (aS (aK "slot") (aS (aK "value") (aE aV (af 3) (ar (.int 0))))) am))))) bE) (au (sIf (a6 (aE oEq (aS (aK "op") (af 0)) (ar (.str "std")))) (au (bw (aq (c .f_law_uses) (ab (aE aV (af 3) (ar (.int 1))) (ab (af 1) (ab (af 2) am))))) (au (bw (aq (c .f_law_uses) (ab (aE aV (af 3) (ar (.int 0))) (ab (af 1) (ab (af 2) am))))) (bL (aq (c .f_law_stored) (ab (af 1) (ab (aS (aK "slot") (aS (aK "value") (aE aV (af 3) (ar (.int 0))))) am)))))) bE) (au (sIf (a6 (aE oEq (aS (aK "op") (af 0)) (ar (.str "call")))) (au (bw (aq (c .f_law_uses) (ab (aE aV (af 3) (ar (.int 2))) (ab (af 1) (ab (af 2) am))))) (bL (aq (c .f_law_stored) (ab (af 1) (ab (aS (aK "slot") (aS (aK "value") (aE aV (af 3) (ar (.int 1))))) am))))) bE) (au (sIf (a6 (aE oEq (aS (aK "op") (af 0)) (ar (.str "if")))) (au (a7 5 (aD (bC am))) (au (dX 6 (aq cX (ab (aE qM (aq ff (ab (af 3) am)) (ar (.int 2))) am)) (au (bw (aq (c .f_law_uses) (ab (aE aV (af 3) (aE lh (ar (.int 2)) (af 6))) (ab (af 1) (ab (af 2) am))))) (a7 5 (aq (c .f_law_joined) (ab (af 5) (ab (aq (c .f_law_ways) (ab (aE aV (af 3) (aE eH (aE lh (ar (.int 2)) (af 6)) (ar (.int 1)))) (ab (af 1) (ab (af 2) am)))) am)))))) (au (a7 7 (eIf (a6 (aS (aK "value") (af 0))) (aq (c .f_law_ways) (ab (aE aV (af 3) (aS xR (ar (.int 1)))) (ab (af 1) (ab (af 2) am)))) (af 1))) (bL (aq (c .f_law_joined) (ab (af 5) (ab (af 7) am))))))) bE) (au (sIf (a6 (aE oEq (aS (aK "op") (af 0)) (ar (.str "case")))) (au (bw (aq (c .f_law_uses) (ab (aE aV (af 3) (ar (.int 0))) (ab (af 1) (ab (af 2) am))))) (au (a7 5 (aD (bC am))) (au (dX 4 (aD (gT 1 (af 3))) (a7 5 (aq (c .f_law_joined) (ab (af 5) (ab (aq (c .f_law_ways) (ab (af 4) (ab (af 1) (ab (af 2) am)))) am))))) (bL (af 5))))) bE) (bL (aq (c .f_law_turns) (ab (af 0) (ab (af 1) (ab (af 2) am)))))))))))))
noncomputable def kf : Sg:=⟨aM (st 41),["node", "states", "hits", "kids", "so_far", "wider", "spot"]⟩
noncomputable def dO (c : Fn → List ae → Mo ae) : Loc → Mo (Fl × Loc):=
 (au (a7 3 (aS (aK "kids") (af 0))) (au (sIf (a6 (aE oEq (aS (aK "op") (af 0)) (ar (.str "repeat")))) (au (a7 4 (aq (c .f_law_ways) (ab (aE aV (af 3) (ar (.int 0))) (ab (af 1) (ab (af 2) am))))) (dC (a6 (ar (.bool true))) (au (bw (aq (c .f_law_uses) (ab (aE aV (af 3) (ar (.int 1))) (ab (af 4) (ab (af 2) am))))) (au (a7 5 (aq (c .f_law_joined) (ab (af 4) (ab (aq (c .f_law_ways) (ab (aE aV (af 3) (ar (.int 0))) (ab (af 4) (ab (af 2) am)))) am)))) (au (sIf (a6 (aE oEq (aq ff (ab (af 5) am)) (aq ff (ab (af 4) am)))) (bL (af 4)) bE) (a7 4 (af 5))))) 1000)) bE) (au (sIf (a6 (aE oEq (aS (aK "op") (af 0)) (ar (.str "for")))) (au (bw (aq (c .f_law_uses) (ab (aE aV (af 3) (ar (.int 1))) (ab (af 1) (ab (af 2) am))))) (au (a7 4 (aq (c .f_law_stored) (ab (af 1) (ab (aS (aK "slot") (aS (aK "value") (aE aV (af 3) (ar (.int 0))))) am)))) (dC (a6 (ar (.bool true))) (au (bw (aq (c .f_law_uses) (ab (aE aV (af 3) (ar (.int 2))) (ab (af 4) (ab (af 2) am))))) (au (a7 5 (aq (c .f_law_joined) (ab (af 4) (ab (aq (c .f_law_ways) (ab (aE aV (af 3) (ar (.int 3))) (ab (af 4) (ab (af 2) am)))) am)))) (au (sIf (a6 (aE oEq (aq ff (ab (af 5) am)) (aq ff (ab (af 4) am)))) (bL (af 4)) bE) (a7 4 (af 5))))) 1000))) bE) (au (a7 4 (af 1)) (dC (a6 (ar (.bool true))) (au (a7 5 (af 4)) (au (dX 6 (aq cX (ab (ar (.int 0)) (ab (aq ff (ab (af 3) am)) (ab (ar (.int 2)) am)))) (au (bw (aq (c .f_law_uses) (ab (aE aV (af 3) (af 6)) (ab (af 4) (ab (af 2) am))))) (a7 5 (aq (c .f_law_joined) (ab (af 5) (ab (aq (c .f_law_ways) (ab (aE aV (af 3) (aE eH (af 6) (ar (.int 1)))) (ab (af 4) (ab (af 2) am)))) am)))))) (au (sIf (a6 (aE oEq (aq ff (ab (af 5) am)) (aq ff (ab (af 4) am)))) (bL (af 4)) bE) (a7 4 (af 5))))) 1000)))))
noncomputable def zh : Sg:=⟨aM (st 42),["script", "pool", "types", "book", "spot", "signature", "by_name", "callee", "tree", "inner_used", "hits", "ends", "due", "at", "one", "inner_proc"]⟩
noncomputable def qv (c : Fn → List ae → Mo ae) : Loc → Mo (Fl × Loc):=
 (a7 1 (aq (c .f_law_pool) (ab (af 0) am)))
noncomputable def mO (c : Fn → List ae → Mo ae) : Loc → Mo (Fl × Loc):=
 (a7 2 (aq (c .Types) am))
noncomputable def mS (c : Fn → List ae → Mo ae) : Loc → Mo (Fl × Loc):=
 (a7 3 (Aa (rF "types" (af 2) (rF "place" (ar (.int 0)) (rF "spare" (ar (.int 14)) (rF "vars" (bC am) EL))))))
noncomputable def mI (c : Fn → List ae → Mo ae) : Loc → Mo (Fl × Loc):=
 (dX 4 (aq cX (ab (ar (.int 4)) am)) (au (a7 14 (aq (c .Obj) (ab (aE aV (ar (.str "abcd")) (af 4)) (ab (ar (.str "var")) (ab (aS (aK "integer") (af 2)) (ab (ar (.int 0)) am)))))) (au (bk (bS "level") (af 14) (ar (.int 1))) (au (bk (bS "slot") (af 14) (af 4)) (bw (bG be (aE aV (af 3) (ar (.str "vars"))) (ab (aD (af 14)) am)))))))
noncomputable def mW (c : Fn → List ae → Mo ae) : Loc → Mo (Fl × Loc):=
 (a7 5 (eB 276 "new" (c .tnew) (af 2) (ab (ar (.str "proc")) (ab (ar (.int 4)) am))))
noncomputable def m5 (c : Fn → List ae → Mo ae) : Loc → Mo (Fl × Loc):=
 (bk (bS "base") (af 5) (aS (aK "none") (af 2)))
noncomputable def mU (c : Fn → List ae → Mo ae) : Loc → Mo (Fl × Loc):=
 (a7 6 (aq (c .Obj) (ab (ar (.str "x")) (ab (ar (.str "par")) (ab (aS (aK "integer") (af 2)) (ab (ar (.int 0)) am))))))
noncomputable def mF (c : Fn → List ae → Mo ae) : Loc → Mo (Fl × Loc):=
 (Fu 5 (bk (bS "params") (af 5) (aD (bC (ab (aD (af 6)) (ab (aD (aq (c .Obj) (ab (ar (.str "y")) (ab (ar (.str "var")) (ab (aS (aK "integer") (af 2)) (ab (ar (.int 0)) am)))))) am))))))
noncomputable def mN (c : Fn → List ae → Mo ae) : Loc → Mo (Fl × Loc):=
 (a7 7 (aq (c .Obj) (ab (ar (.str "Q")) (ab (ar (.str "proc")) (ab (af 5) (ab (ar (.int 0)) am))))))
noncomputable def mG (c : Fn → List ae → Mo ae) : Loc → Mo (Fl × Loc):=
 (bk (bS "module") (af 7) (ar (.str "M")))
noncomputable def jW (c : Fn → List ae → Mo ae) : Loc → Mo (Fl × Loc):=
 (bk (bS "value") (af 7) (ar (.str "Q")))
noncomputable def jM (c : Fn → List ae → Mo ae) : Loc → Mo (Fl × Loc):=
 (gP fK (af 3) (ar (.str "callee")) (aD (af 7)))
noncomputable def kJ (c : Fn → List ae → Mo ae) : Loc → Mo (Fl × Loc):=
 (a7 8 (aq (c .ProcTree) (ab (aq (c .Obj) (ab (ar (.str "P")) (ab (ar (.str "proc")) (ab (af 5) (ab (ar (.int 0)) am))))) am)))
noncomputable def kj (c : Fn → List ae → Mo ae) : Loc → Mo (Fl × Loc):=
 (bk (bS "locals") (af 8) (aD (aq ni (ab (aE aV (af 3) (ar (.str "vars"))) am))))
noncomputable def r9 (c : Fn → List ae → Mo ae) : Loc → Mo (Fl × Loc):=
 (a7 9 (aE oEq (aq (c .f_law_draw) (ab (af 1) (ab (ar (.int 3)) am))) (ar (.int 2))))
noncomputable def jN (c : Fn → List ae → Mo ae) : Loc → Mo (Fl × Loc):=
 (sIf (a6 (af 9)) (au (a7 15 (aq (c .ProcTree) (ab (aq (c .Obj) (ab (ar (.str "R")) (ab (ar (.str "proc")) (ab (af 5) (ab (ar (.int 0)) am))))) am))) (au (bk (bS "level") (af 15) (ar (.int 2))) (au (bk (bS "body") (af 15) (aD (aq (c .Node) (ab (ar (.str "block")) (ab (ar (.int 0)) (ab (ar .none) (ab (aD (bC (ab (aD (aq (c .Node) (ab (ar (.str "assign")) (ab (ar (.int 0)) (ab (ar .none) (ab (aD (bC (ab (aq (c .f_law_var) (ab (af 3) (ab (ar (.int 3)) am))) (ab (aq (c .f_const) (ab (aS (aK "integer") (af 2)) (ab (ar (.int 1)) (ab (ar (.int 0)) am)))) am)))) am)))))) am))) am))))))) (bk (bS "procs") (af 8) (aD (bC (ab (af 15) am))))))) bE)
noncomputable def nS (c : Fn → List ae → Mo ae) : Loc → Mo (Fl × Loc):=
 (bk (bS "body") (af 8) (aq (c .f_law_block) (ab (af 3) (ab (af 1) (ab (ar (.int 0)) am)))))
noncomputable def nv (c : Fn → List ae → Mo ae) : Loc → Mo (Fl × Loc):=
 (sIf (a6 (aE oEq (aq (c .f_law_draw) (ab (af 1) (ab (ar (.int 2)) am))) (ar (.int 1)))) (bk (bS "result") (af 8) (aq (c .f_law_value) (ab (af 3) (ab (af 1) am)))) bE)
noncomputable def j4 (c : Fn → List ae → Mo ae) : Loc → Mo (Fl × Loc):=
 (a7 10 kS)
noncomputable def jR (c : Fn → List ae → Mo ae) : Loc → Mo (Fl × Loc):=
 (a7 11 (aq (c .f_law_ways) (ab (aS (aK "body") (af 8)) (ab (aD (bC (ab (aD (bC am)) am))) (ab (af 10) am)))))
noncomputable def kD (c : Fn → List ae → Mo ae) : Loc → Mo (Fl × Loc):=
 (sIf (a6 (aE iL (aS (aK "result") (af 8)) (ar .none))) (bw (aq (c .f_law_uses) (ab (aS (aK "result") (af 8)) (ab (af 11) (ab (af 10) am))))) bE)
noncomputable def i5 (c : Fn → List ae → Mo ae) : Loc → Mo (Fl × Loc):=
 (a7 12 (bC am))
noncomputable def iD (c : Fn → List ae → Mo ae) : Loc → Mo (Fl × Loc):=
 (dX 13 (aD (aq dQ (ab (af 10) am))) (sIf (tOr (sJ (a6 (af 9))) (a6 (aE oNe (aS (aK "slot") (aE aV (af 10) (af 13))) (ar (.int 3))))) (bw (bG be (af 12) (ab (jA (ab (af 13) (ab (aS (aK "name") (aE aV (af 10) (af 13))) am))) am))) bE))
noncomputable def iR (c : Fn → List ae → Mo ae) : Loc → Mo (Fl × Loc):=
 (bL (aE oEq (aq (c .f_unset_uses) (ab (af 8) am)) (af 12)))
noncomputable def sn (c : Fn → List ae → Mo ae) : Loc → Mo (Fl × Loc):=
 au (qv c) (au (mO c) (au (mS c) (au (mI c) (au (mW c) (au (m5 c) (au (mU c) (au (mF c) (au (mN c) (au (mG c) (au (jW c) (au (jM c) (au (kJ c) (au (kj c) (au (r9 c) (au (jN c) (au (nS c) (au (nv c) (au (j4 c) (au (jR c) (au (kD c) (au (i5 c) (au (iD c) (iR c)))))))))))))))))))))))
noncomputable def mr (c : Fn → List ae → Mo ae) : Fn → List ae → Mo ae
 | .Node=>gF 32 (aP 6 6 [.none] (dg c))
 | .f_const=>aP 3 3 [] (j2 c)
 | .ProcTree=>gF 60 (aP 2 2 [] (ej c))
 | .f_nodes_of=>aP 1 5 [] (fh c)
 | .f_is_scalar=>aP 1 1 [] (gq c)
 | .f_inner_nodes=>aP 1 4 [] (d7 c)
 | .f_followed=>aP 1 5 [] (gd c)
 | .Follower=>gF 116 (aP 2 2 [] (du c))
 | .slot_of=>aP 2 2 [] (cO c)
 | .f_used=>aP 3 4 [] (nY c)
 | .f_with_store=>aP 3 4 [] (e7 c)
 | .f_place_uses=>aP 3 4 [] (e8 c)
 | .f_value_uses=>aP 3 4 [] (cT c)
 | .f_call_uses=>aP 3 8 [] (fF c)
 | .f_std_uses=>aP 3 5 [] (gh c)
 | .f_branch_uses=>aP 3 6 [] (dw c)
 | .f_while_uses=>aP 3 4 [] (eS c)
 | .f_for_uses=>aP 3 7 [] (f9 c)
 | .f_case_uses=>aP 3 5 [] (fE c)
 | .f_statement_uses=>aP 3 5 [] (bj c)
 | .f_unset_uses=>aP 1 3 [] (eI c)
 | .Type=>gF 219 (aP 4 4 [] (gy c))
 | .Obj=>gF 240 (aP 5 5 [] (hZ c))
 | .Types=>gF 276 (aP 1 1 [] (fW c))
 | .tnew=>aP 5 6 [.str "",.str ""] (gx c)
 | .f_law_pool=>aP 1 5 [] (f8 c)
 | .f_law_draw=>aP 2 2 [] (f7 c)
 | .f_law_place=>aP 1 1 [] (gz c)
 | .f_law_var=>aP 2 2 [] (gQ c)
 | .f_law_value=>aP 2 4 [] (fz c)
 | .f_law_test=>aP 2 6 [] (fZ c)
 | .f_law_block=>aP 3 4 [] (fC c)
 | .f_law_arms=>aP 4 6 [] (f6 c)
 | .f_law_deed=>aP 3 13 [] (f4 c)
 | .f_law_uses=>aP 3 5 [] (eu c)
 | .f_law_stored=>aP 2 5 [] (eJ c)
 | .f_law_joined=>aP 2 2 [] (eL c)
 | .f_law_ways=>aP 3 8 [] (cg c)
 | .f_law_turns=>aP 3 7 [] (dO c)
 | .f_law=>aP 1 16 [] (sn c)
noncomputable def sem : Nat → Fn → List ae → Mo ae
 | 0=>fun _ _=>dK
 | d + 1=>mr (sem d)
theorem Hs (d : Nat) : sem (d + 1) .Node = gF 32 (aP 6 6 [.none] (dg (sem d))):=rfl
theorem B4 (d : Nat) : sem (d + 1) .f_const = aP 3 3 [] (j2 (sem d)):=rfl
theorem Dj (d : Nat) : sem (d + 1) .ProcTree = gF 60 (aP 2 2 [] (ej (sem d))):=rfl
theorem nG (d : Nat) : sem (d + 1) .f_nodes_of = aP 1 5 [] (fh (sem d)):=rfl
theorem CY (d : Nat) : sem (d + 1) .f_is_scalar = aP 1 1 [] (gq (sem d)):=rfl
theorem oA (d : Nat) : sem (d + 1) .f_inner_nodes = aP 1 4 [] (d7 (sem d)):=rfl
theorem t7 (d : Nat) : sem (d + 1) .f_followed = aP 1 5 [] (gd (sem d)):=rfl
theorem ui (d : Nat) : sem (d + 1) .Follower = gF 116 (aP 2 2 [] (du (sem d))):=rfl
theorem xw (d : Nat) : sem (d + 1) .slot_of = aP 2 2 [] (cO (sem d)):=rfl
theorem Eg (d : Nat) : sem (d + 1) .f_used = aP 3 4 [] (nY (sem d)):=rfl
theorem pM (d : Nat) : sem (d + 1) .f_with_store = aP 3 4 [] (e7 (sem d)):=rfl
theorem pP (d : Nat) : sem (d + 1) .f_place_uses = aP 3 4 [] (e8 (sem d)):=rfl
theorem fT (d : Nat) : sem (d + 1) .f_value_uses = aP 3 4 [] (cT (sem d)):=rfl
theorem tm (d : Nat) : sem (d + 1) .f_call_uses = aP 3 8 [] (fF (sem d)):=rfl
theorem uV (d : Nat) : sem (d + 1) .f_std_uses = aP 3 5 [] (gh (sem d)):=rfl
theorem jt (d : Nat) : sem (d + 1) .f_branch_uses = aP 3 6 [] (dw (sem d)):=rfl
theorem pW (d : Nat) : sem (d + 1) .f_while_uses = aP 3 4 [] (eS (sem d)):=rfl
theorem ul (d : Nat) : sem (d + 1) .f_for_uses = aP 3 7 [] (f9 (sem d)):=rfl
theorem rx (d : Nat) : sem (d + 1) .f_case_uses = aP 3 5 [] (fE (sem d)):=rfl
theorem bQ (d : Nat) : sem (d + 1) .f_statement_uses = aP 3 5 [] (bj (sem d)):=rfl
theorem qU (d : Nat) : sem (d + 1) .f_unset_uses = aP 1 3 [] (eI (sem d)):=rfl
theorem HL (d : Nat) : sem (d + 1) .Type = gF 219 (aP 4 4 [] (gy (sem d))):=rfl
theorem KO (d : Nat) : sem (d + 1) .Obj = gF 240 (aP 5 5 [] (hZ (sem d))):=rfl
theorem GD (d : Nat) : sem (d + 1) .Types = gF 276 (aP 1 1 [] (fW (sem d))):=rfl
theorem I9 (d : Nat) : sem (d + 1) .tnew = aP 5 6 [.str "",.str ""] (gx (sem d)):=rfl
theorem uc (d : Nat) : sem (d + 1) .f_law_pool = aP 1 5 [] (f8 (sem d)):=rfl
theorem vq (d : Nat) : sem (d + 1) .f_law_draw = aP 2 2 [] (f7 (sem d)):=rfl
theorem Cz (d : Nat) : sem (d + 1) .f_law_place = aP 1 1 [] (gz (sem d)):=rfl
theorem xo (d : Nat) : sem (d + 1) .f_law_var = aP 2 2 [] (gQ (sem d)):=rfl
theorem sc (d : Nat) : sem (d + 1) .f_law_value = aP 2 4 [] (fz (sem d)):=rfl
theorem vh (d : Nat) : sem (d + 1) .f_law_test = aP 2 6 [] (fZ (sem d)):=rfl
theorem tP (d : Nat) : sem (d + 1) .f_law_block = aP 3 4 [] (fC (sem d)):=rfl
theorem tZ (d : Nat) : sem (d + 1) .f_law_arms = aP 4 6 [] (f6 (sem d)):=rfl
theorem uy (d : Nat) : sem (d + 1) .f_law_deed = aP 3 13 [] (f4 (sem d)):=rfl
theorem jy (d : Nat) : sem (d + 1) .f_law_uses = aP 3 5 [] (eu (sem d)):=rfl
theorem qo (d : Nat) : sem (d + 1) .f_law_stored = aP 2 5 [] (eJ (sem d)):=rfl
theorem qm (d : Nat) : sem (d + 1) .f_law_joined = aP 2 2 [] (eL (sem d)):=rfl
theorem cW (d : Nat) : sem (d + 1) .f_law_ways = aP 3 8 [] (cg (sem d)):=rfl
theorem iI (d : Nat) : sem (d + 1) .f_law_turns = aP 3 7 [] (dO (sem d)):=rfl
theorem F7 (d : Nat) : sem (d + 1) .f_law = aP 1 16 [] (sn (sem d)):=rfl
end Mine
end
section
namespace Mine
section
variable (P : Params)
theorem qu : cL (kF P) "body" = true:=by kernel_rfl
theorem vk : cL (kF P) "boolean" = true:=by kernel_rfl
theorem nu : cL (kF P) "counter" = true:=by kernel_rfl
theorem B1 : cL (kF P) "form" = true:=by kernel_rfl
theorem nh : cL (kF P) "found" = true:=by kernel_rfl
theorem em : cL (kF P) "integer" = true:=by kernel_rfl
theorem bF : cL (kF P) "kids" = true:=by kernel_rfl
theorem Bl : cL (kF P) "kind" = true:=by kernel_rfl
theorem zA : cL (kF P) "known" = true:=by kernel_rfl
theorem gU : cL (kF P) "level" = true:=by kernel_rfl
theorem w4 : cL (kF P) "locals" = true:=by kernel_rfl
theorem wZ : cL (kF P) "name" = true:=by kernel_rfl
theorem Cq : cL (kF P) "none" = true:=by kernel_rfl
theorem d6 : cL (kF P) "op" = true:=by kernel_rfl
theorem xN : cL (kF P) "params" = true:=by kernel_rfl
theorem sS : cL (kF P) "place" = true:=by kernel_rfl
theorem tM : cL (kF P) "procs" = true:=by kernel_rfl
theorem g5 : cL (kF P) "result" = true:=by kernel_rfl
theorem eR : cL (kF P) "slot" = true:=by kernel_rfl
theorem s4 : cL (kF P) "slots" = true:=by kernel_rfl
theorem qG : cL (kF P) "type" = true:=by kernel_rfl
theorem cJ : cL (kF P) "value" = true:=by kernel_rfl
theorem w2 : bA (kF P) "base" = true:=by kernel_rfl
theorem q7 : bA (kF P) "body" = true:=by kernel_rfl
theorem ud : bA (kF P) "boolean" = true:=by kernel_rfl
theorem BB : bA (kF P) "byte" = true:=by kernel_rfl
theorem A7 : bA (kF P) "char" = true:=by kernel_rfl
theorem nA : bA (kF P) "counter" = true:=by kernel_rfl
theorem B3 : bA (kF P) "exno" = true:=by kernel_rfl
theorem rq : bA (kF P) "exported" = true:=by kernel_rfl
theorem xL : bA (kF P) "fields" = true:=by kernel_rfl
theorem Bb : bA (kF P) "form" = true:=by kernel_rfl
theorem za : bA (kF P) "found" = true:=by kernel_rfl
theorem xJ : bA (kF P) "hidden" = true:=by kernel_rfl
theorem uX : bA (kF P) "integer" = true:=by kernel_rfl
theorem vx : bA (kF P) "isparam" = true:=by kernel_rfl
theorem A4 : bA (kF P) "kids" = true:=by kernel_rfl
theorem Cj : bA (kF P) "kind" = true:=by kernel_rfl
theorem Ap : bA (kF P) "known" = true:=by kernel_rfl
theorem tA : bA (kF P) "label" = true:=by kernel_rfl
theorem xG : bA (kF P) "length" = true:=by kernel_rfl
theorem gR : bA (kF P) "level" = true:=by kernel_rfl
theorem po : bA (kF P) "locals" = true:=by kernel_rfl
theorem BF : bA (kF P) "mask" = true:=by kernel_rfl
theorem jf : bA (kF P) "module" = true:=by kernel_rfl
theorem BI : bA (kF P) "name" = true:=by kernel_rfl
theorem su : bA (kF P) "narrowed" = true:=by kernel_rfl
theorem Et : bA (kF P) "nil" = true:=by kernel_rfl
theorem Cm : bA (kF P) "none" = true:=by kernel_rfl
theorem pi : bA (kF P) "number" = true:=by kernel_rfl
theorem De : bA (kF P) "obj" = true:=by kernel_rfl
theorem w5 : bA (kF P) "offset" = true:=by kernel_rfl
theorem Ez : bA (kF P) "op" = true:=by kernel_rfl
theorem kX : bA (kF P) "params" = true:=by kernel_rfl
theorem se : bA (kF P) "place" = true:=by kernel_rfl
theorem sW : bA (kF P) "procs" = true:=by kernel_rfl
theorem tU : bA (kF P) "readonly" = true:=by kernel_rfl
theorem pe : bA (kF P) "result" = true:=by kernel_rfl
theorem B9 : bA (kF P) "size" = true:=by kernel_rfl
theorem ww : bA (kF P) "slot" = true:=by kernel_rfl
theorem yj : bA (kF P) "slots" = true:=by kernel_rfl
theorem AV : bA (kF P) "sure" = true:=by kernel_rfl
theorem w1 : bA (kF P) "type" = true:=by kernel_rfl
theorem np : bA (kF P) "value" = true:=by kernel_rfl
theorem tH : nsIn (kF P) mainGlobals "Follower" = some (some (.ref 116)):=by kernel_rfl
theorem tC : keepIn (kF P) (.ref 116) = true:=by kernel_rfl
theorem cP : nsIn (kF P) mainGlobals "Node" = some (some (.ref 32)):=by kernel_rfl
theorem cQ : keepIn (kF P) (.ref 32) = true:=by kernel_rfl
theorem lc : nsIn (kF P) mainGlobals "Obj" = some (some (.ref 240)):=by kernel_rfl
theorem k9 : keepIn (kF P) (.ref 240) = true:=by kernel_rfl
theorem me : nsIn (kF P) mainGlobals "ProcTree" = some (some (.ref 60)):=by kernel_rfl
theorem lU : keepIn (kF P) (.ref 60) = true:=by kernel_rfl
theorem Bc : nsIn (kF P) mainGlobals "Type" = some (some (.ref 219)):=by kernel_rfl
theorem A2 : keepIn (kF P) (.ref 219) = true:=by kernel_rfl
theorem xY : nsIn (kF P) mainGlobals "Types" = some (some (.ref 276)):=by kernel_rfl
theorem xZ : keepIn (kF P) (.ref 276) = true:=by kernel_rfl
theorem kg : nsIn (kF P) mainGlobals "_law_arms" = some (some (.ref 334)):=by kernel_rfl
theorem ku : keepIn (kF P) (.ref 334) = true:=by kernel_rfl
theorem c8 : nsIn (kF P) mainGlobals "_law_block" = some (some (.ref 327)):=by kernel_rfl
theorem cZ : keepIn (kF P) (.ref 327) = true:=by kernel_rfl
theorem qc : nsIn (kF P) mainGlobals "_law_deed" = some (some (.ref 341)):=by kernel_rfl
theorem rh : keepIn (kF P) (.ref 341) = true:=by kernel_rfl
theorem bp : nsIn (kF P) mainGlobals "_law_draw" = some (some (.ref 294)):=by kernel_rfl
theorem bq : keepIn (kF P) (.ref 294) = true:=by kernel_rfl
theorem de : nsIn (kF P) mainGlobals "_law_joined" = some (some (.ref 358)):=by kernel_rfl
theorem dd : keepIn (kF P) (.ref 358) = true:=by kernel_rfl
theorem cw : nsIn (kF P) mainGlobals "_law_place" = some (some (.ref 301)):=by kernel_rfl
theorem cu : keepIn (kF P) (.ref 301) = true:=by kernel_rfl
theorem re : nsIn (kF P) mainGlobals "_law_pool" = some (some (.ref 287)):=by kernel_rfl
theorem qH : keepIn (kF P) (.ref 287) = true:=by kernel_rfl
theorem eU : nsIn (kF P) mainGlobals "_law_stored" = some (some (.ref 353)):=by kernel_rfl
theorem eX : keepIn (kF P) (.ref 353) = true:=by kernel_rfl
theorem kO : nsIn (kF P) mainGlobals "_law_test" = some (some (.ref 322)):=by kernel_rfl
theorem jV : keepIn (kF P) (.ref 322) = true:=by kernel_rfl
theorem oM : nsIn (kF P) mainGlobals "_law_turns" = some (some (.ref 372)):=by kernel_rfl
theorem oK : keepIn (kF P) (.ref 372) = true:=by kernel_rfl
theorem b5 : nsIn (kF P) mainGlobals "_law_uses" = some (some (.ref 348)):=by kernel_rfl
theorem b6 : keepIn (kF P) (.ref 348) = true:=by kernel_rfl
theorem b4 : nsIn (kF P) mainGlobals "_law_value" = some (some (.ref 315)):=by kernel_rfl
theorem bZ : keepIn (kF P) (.ref 315) = true:=by kernel_rfl
theorem df : nsIn (kF P) mainGlobals "_law_var" = some (some (.ref 308)):=by kernel_rfl
theorem dk : keepIn (kF P) (.ref 308) = true:=by kernel_rfl
theorem cE : nsIn (kF P) mainGlobals "_law_ways" = some (some (.ref 365)):=by kernel_rfl
theorem cF : keepIn (kF P) (.ref 365) = true:=by kernel_rfl
theorem nT : nsIn (kF P) mainGlobals "branch_uses" = some (some (.ref 169)):=by kernel_rfl
theorem nQ : keepIn (kF P) (.ref 169) = true:=by kernel_rfl
theorem kK : nsIn (kF P) mainGlobals "call_uses" = some (some (.ref 155)):=by kernel_rfl
theorem jP : keepIn (kF P) (.ref 155) = true:=by kernel_rfl
theorem qq : nsIn (kF P) mainGlobals "case_uses" = some (some (.ref 190)):=by kernel_rfl
theorem pX : keepIn (kF P) (.ref 190) = true:=by kernel_rfl
theorem rR : nsIn (kF P) mainGlobals "const" = some (some (.ref 43)):=by kernel_rfl
theorem rX : keepIn (kF P) (.ref 43) = true:=by kernel_rfl
theorem ru : nsIn (kF P) mainGlobals "followed" = some (some (.ref 92)):=by kernel_rfl
theorem sI : keepIn (kF P) (.ref 92) = true:=by kernel_rfl
theorem tW : nsIn (kF P) mainGlobals "for_uses" = some (some (.ref 183)):=by kernel_rfl
theorem sP : keepIn (kF P) (.ref 183) = true:=by kernel_rfl
theorem oj : nsIn (kF P) mainGlobals "inner_nodes" = some (some (.ref 85)):=by kernel_rfl
theorem nM : keepIn (kF P) (.ref 85) = true:=by kernel_rfl
theorem qX : nsIn (kF P) mainGlobals "is_scalar" = some (some (.ref 78)):=by kernel_rfl
theorem qh : keepIn (kF P) (.ref 78) = true:=by kernel_rfl
theorem fj : nsIn (kF P) mainGlobals "len" = some none:=by kernel_rfl
theorem wx : nsIn (kF P) mainGlobals "list" = some none:=by kernel_rfl
theorem lN : nsIn (kF P) mainGlobals "nodes_of" = some (some (.ref 71)):=by kernel_rfl
theorem lS : keepIn (kF P) (.ref 71) = true:=by kernel_rfl
theorem d8 : nsIn (kF P) mainGlobals "place_uses" = some (some (.ref 141)):=by kernel_rfl
theorem d5 : keepIn (kF P) (.ref 141) = true:=by kernel_rfl
theorem dZ : nsIn (kF P) mainGlobals "range" = some none:=by kernel_rfl
theorem sO : nsIn (kF P) mainGlobals "reversed" = some none:=by kernel_rfl
theorem li : nsIn (kF P) mainGlobals "sorted" = some none:=by kernel_rfl
theorem bX : nsIn (kF P) mainGlobals "statement_uses" = some (some (.ref 197)):=by kernel_rfl
theorem bY : keepIn (kF P) (.ref 197) = true:=by kernel_rfl
theorem rH : nsIn (kF P) mainGlobals "std_uses" = some (some (.ref 162)):=by kernel_rfl
theorem te : keepIn (kF P) (.ref 162) = true:=by kernel_rfl
theorem oT : nsIn (kF P) mainGlobals "unset_uses" = some (some (.ref 202)):=by kernel_rfl
theorem oV : keepIn (kF P) (.ref 202) = true:=by kernel_rfl
theorem wB : nsIn (kF P) mainGlobals "used" = some (some (.ref 127)):=by kernel_rfl
theorem v9 : keepIn (kF P) (.ref 127) = true:=by kernel_rfl
theorem bo : nsIn (kF P) mainGlobals "value_uses" = some (some (.ref 148)):=by kernel_rfl
theorem bn : keepIn (kF P) (.ref 148) = true:=by kernel_rfl
theorem oy : nsIn (kF P) mainGlobals "while_uses" = some (some (.ref 176)):=by kernel_rfl
theorem oW : keepIn (kF P) (.ref 176) = true:=by kernel_rfl
theorem fw : nsIn (kF P) mainGlobals "with_store" = some (some (.ref 134)):=by kernel_rfl
theorem fv : keepIn (kF P) (.ref 134) = true:=by kernel_rfl
end
section
variable {prog : Program} {w : World} {B : Heap} {b : Nat} {sg : Sg}
theorem vr (i : Nat) {x : Str} {pos : Pos} (hi : sg.names[i]? = some x:=by rfl) (hd : (x == ("__debug__" : Str)) = false:=by kernel_rfl) : bT prog w B b sg (.Name x pos) (af i):=Ex hi hd
end
section
variable {prog : Program} {w : World} {B : Heap} {b : Nat} {P : Params} {p : Program} {loose : List Str} {mg mb : Str → Option Value}
variable (Γ : Gl (kF P) B p loose mg mb) (hsys : ∃ o,B.get? sysModules = some o) (hb : 9 ≤ b) {c : Fn → List ae → Mo ae} (hc : ∀ g,cv prog w B b (.ref (n8 g)) (c g))
include Γ hsys hb hc
theorem ts : cz prog w B b kE (aT (mt 1 0)) (dg c):=
 (ap (aZ (vr 0) (vr 1) (bm Γ (Ez _))) (ap (aZ (vr 0) (vr 2) (bm Γ (se _))) (ap (aZ (vr 0) (vr 3) (bm Γ (w1 _))) (ap (aZ (vr 0) (vr 4) (bm Γ (A4 _))) (ap (aZ (vr 0) (vr 5) (bm Γ (np _))) (aN (aZ (vr 0) iW (bm Γ (AV _)))))))))
theorem Bs : cz prog w B b rB (aT (st 2)) (j2 c):=
 (aN (bl (aH (az Γ (cP _) (cQ _) (aa aW (aa (vr 2) (aa (vr 0) (aa (aH (bx ak)) (aa (vr 1) ak))))) (hc .Node).call))))
theorem mD : cz prog w B b g4 (aT (mt 3 0)) (ej c):=
 (ap (aZ (vr 0) (vr 1) (bm Γ (De _))) (ap (aZ (vr 0) (aH (bx ak)) (bm Γ (kX _))) (ap (aZ (vr 0) (aH (bx ak)) (bm Γ (po _))) (ap (aZ (vr 0) (aH (bx ak)) (bm Γ (sW _))) (ap (aZ (vr 0) db (bm Γ (q7 _))) (ap (aZ (vr 0) db (bm Γ (pe _))) (aN (aZ (vr 0) (cy (aG (vr 1) (aQ Γ (gU _))) aJ fM) (bm Γ (gR _))))))))))
theorem uz : cz prog w B b lZ (aT (st 4)) (fh c):=
 (ap (aC (i:=1) rfl (bx ak)) (ap (aC (i:=2) rfl (bx ak)) (ap (ch (bh (vr 0) db mZ) (aN (bR (cj (vr 2) (aa (vr 0) ak) cN F.slot_list_append F.type_list_append))) bz) (ap (jd 1000 (bh (da Γ (fj _) boot_len (by decide) (aa (vr 2) ak) gV) aJ D6) (ap (aC (i:=3) rfl (cj (vr 2) ak ze F.slot_list_pop F.type_list_pop)) (ap (bR (cj (vr 1) (aa (vr 3) ak) cN F.slot_list_append F.type_list_append)) (aN (y9 Γ (i:=4) rfl (sO _) (aG (vr 3) (aQ Γ (bF _))) (aN (ch (bh (vr 4) db mZ) (aN (bR (cj (vr 2) (aa (vr 4) ak) cN F.slot_list_append F.type_list_append))) bz)) (by kernel_rfl)))))) (aN (bl (vr 1)))))))
theorem ss : cz prog w B b j3 (aT (st 6)) (gq c):=
 (aN (bl (sk (aG (vr 0) (aQ Γ (B1 _))) (pn (aa aW (aa aW (aa aW (aa aW (aa aW (aa aW (aa aW (aa aW ak))))))))) (Fa hsys hb))))
theorem oB : cz prog w B b iP (aT (st 8)) (d7 c):=
 (ap (aC (i:=1) rfl (bx ak)) (ap (aC (i:=2) rfl (eh Γ (wx _) boot_list (by decide) (aa (aG (vr 0) (aQ Γ (tM _))) ak) Al)) (ap (jd 1000 (bh (da Γ (fj _) boot_len (by decide) (aa (vr 2) ak) gV) aJ D6) (ap (aC (i:=3) rfl (cj (vr 2) ak ze F.slot_list_pop F.type_list_pop)) (ap (bR (cj (vr 1) (aa (aH (az Γ (lN _) (lS _) (aa (aG (vr 3) (aQ Γ (qu _))) ak) (hc .f_nodes_of).call)) ak) nK F.slot_list_extend F.type_list_extend)) (ap (bR (cj (vr 1) (aa (aH (az Γ (lN _) (lS _) (aa (aG (vr 3) (aQ Γ (g5 _))) ak) (hc .f_nodes_of).call)) ak) nK F.slot_list_extend F.type_list_extend)) (aN (bR (cj (vr 2) (aa (aG (vr 3) (aQ Γ (tM _))) ak) nK F.slot_list_extend F.type_list_extend))))))) (aN (bl (vr 1))))))
theorem ub : cz prog w B b lJ (aT (st 9)) (gd c):=
 (ap (aC (i:=1) rfl kH) (ap (dt (i:=2) rfl (aH (az Γ (oj _) (nM _) (aa (vr 0) ak) (hc .f_inner_nodes).call)) (aN (ch (gB (io (bh (aG (vr 2) (aQ Γ (d6 _))) aW (cx hb)) (gH (bh (aG (aG (vr 2) (aQ Γ (cJ _))) (aQ Γ (gU _))) (aG (vr 0) (aQ Γ (gU _))) (cx hb))))) (aN (kY (vr 1) (aG (aG (vr 2) (aQ Γ (cJ _))) (aQ Γ (eR _))) iW lE)) bz))) (ap (aC (i:=3) rfl kH) (ap (dt (i:=4) rfl (aG (vr 0) (aQ Γ (w4 _))) (aN (ch (gB (io (fy (az Γ (qX _) (qh _) (aa (aG (vr 4) (aQ Γ (qG _))) ak) (hc .f_is_scalar).call)) (gH (bh (aG (vr 4) (aQ Γ (eR _))) (vr 1) (mK hsys hb))))) (aN (kY (vr 3) (aG (vr 4) (aQ Γ (eR _))) (vr 4) lE)) bz))) (aN (bl (vr 3)))))))
theorem mA : cz prog w B b gX (aT (mt 10 0)) (du c):=
 (ap (aZ (vr 0) (aG (vr 1) (aQ Γ (gU _))) (bm Γ (gR _))) (ap (aZ (vr 0) (az Γ (ru _) (sI _) (aa (vr 1) ak) (hc .f_followed).call) (bm Γ (yj _))) (aN (aZ (vr 0) kH (bm Γ (za _))))))
theorem jF : cz prog w B b fN (aT (mt 10 1)) (cO c):=
 (ap (ch (gB (io (bh (aG (vr 1) (aQ Γ (d6 _))) aW (cx hb)) (io (bh (aG (aG (vr 1) (aQ Γ (cJ _))) (aQ Γ (gU _))) (aG (vr 0) (aQ Γ (gU _))) (cx hb)) (gH (bh (aG (aG (vr 1) (aQ Γ (cJ _))) (aQ Γ (eR _))) (aG (vr 0) (aQ Γ (s4 _))) (Fa hsys hb)))))) (aN (bl (aG (aG (vr 1) (aQ Γ (cJ _))) (aQ Γ (eR _))))) bz) (aN (bl (Bo aJ wh))))
theorem D1 : cz prog w B b w0 (aT (st 11)) (nY c):=
 (ap (aC (i:=3) rfl (eZ Γ (vr 0) (aa (vr 1) ak) (hc .slot_of).call (by kernel_rfl) (by kernel_rfl) (by kernel_rfl) (by kernel_rfl))) (aN (ch (gB (io (bh (vr 3) aJ Dy) (gH (bh (cy (cy (vr 2) (vr 3) FK) aJ yF) aJ (cx hb))))) (aN (kY (aG (vr 0) (aQ Γ (nh _))) (aG (vr 1) (aQ Γ (sS _))) (vr 3) lE)) bz)))
theorem p6 : cz prog w B b jl (aT (st 12)) (e7 c):=
 (ap (jd 1000 (bh (aG (vr 1) (aQ Γ (d6 _))) aW (cx hb)) (aN (aC (i:=1) rfl (bB (aG (vr 1) (aQ Γ (bF _))) aJ aI)))) (ap (aC (i:=3) rfl (eZ Γ (vr 0) (aa (vr 1) ak) (hc .slot_of).call (by kernel_rfl) (by kernel_rfl) (by kernel_rfl) (by kernel_rfl))) (ap (ch (bh (vr 3) aJ D5) (aN (bl (vr 2))) bz) (aN (bl (cy (vr 2) (cy aJ (vr 3) Ey) GM))))))
theorem q6 : cz prog w B b jn (aT (st 13)) (e8 c):=
 (ap (ch (bh (eZ Γ (vr 0) (aa (vr 1) ak) (hc .slot_of).call (by kernel_rfl) (by kernel_rfl) (by kernel_rfl) (by kernel_rfl)) aJ Dy) (aN (bl (vr 2))) bz) (ap (ch (bh (aG (vr 1) (aQ Γ (d6 _))) aW (cx hb)) (aN (bl (vr 2))) bz) (ap (ch (gB (p8 (bh (aG (vr 1) (aQ Γ (d6 _))) aW (cx hb)) (mR (bh (aG (vr 1) (aQ Γ (d6 _))) aW (cx hb))))) (aN (bl (az Γ (bo _) (bn _) (aa (vr 0) (aa (bB (aG (vr 1) (aQ Γ (bF _))) aJ aI) (aa (vr 2) ak))) (hc .f_value_uses).call))) bz) (ap (aC (i:=2) rfl (az Γ (d8 _) (d5 _) (aa (vr 0) (aa (bB (aG (vr 1) (aQ Γ (bF _))) aJ aI) (aa (vr 2) ak))) (hc .f_place_uses).call)) (ap (dt (i:=3) rfl (aH (qF (aG (vr 1) (aQ Γ (bF _))))) (aN (aC (i:=2) rfl (az Γ (bo _) (bn _) (aa (vr 0) (aa (vr 3) (aa (vr 2) ak))) (hc .f_value_uses).call)))) (aN (bl (vr 2))))))))
theorem qK : cz prog w B b jj (aT (st 14)) (cT c):=
 (ap (ch (bh (aG (vr 1) (aQ Γ (d6 _))) aW (cx hb)) (ap (bR (az Γ (wB _) (v9 _) (aa (vr 0) (aa (vr 1) (aa (vr 2) ak))) (hc .f_used).call)) (aN (bl (vr 2)))) bz) (ap (ch (gB (p8 (bh (aG (vr 1) (aQ Γ (d6 _))) aW (cx hb)) (mR (bh (aG (vr 1) (aQ Γ (d6 _))) aW (cx hb))))) (ap (aC (i:=2) rfl (az Γ (bo _) (bn _) (aa (vr 0) (aa (bB (aG (vr 1) (aQ Γ (bF _))) aJ aI) (aa (vr 2) ak))) (hc .f_value_uses).call)) (ap (bR (az Γ (bo _) (bn _) (aa (vr 0) (aa (bB (aG (vr 1) (aQ Γ (bF _))) aJ aI) (aa (vr 2) ak))) (hc .f_value_uses).call)) (aN (bl (vr 2))))) bz) (ap (ch (bh (aG (vr 1) (aQ Γ (d6 _))) aW (cx hb)) (aN (bl (az Γ (kK _) (jP _) (aa (vr 0) (aa (vr 1) (aa (vr 2) ak))) (hc .f_call_uses).call))) bz) (ap (dt (i:=3) rfl (aG (vr 1) (aQ Γ (bF _))) (aN (aC (i:=2) rfl (az Γ (bo _) (bn _) (aa (vr 0) (aa (vr 3) (aa (vr 2) ak))) (hc .f_value_uses).call)))) (aN (bl (vr 2)))))))
theorem sf : cz prog w B b kt (aT (st 15)) (fF c):=
 (ap (aC (i:=3) rfl (bB (aG (vr 1) (aQ Γ (bF _))) aJ aI)) (ap (aC (i:=2) rfl (az Γ (bo _) (bn _) (aa (vr 0) (aa (vr 3) (aa (vr 2) ak))) (hc .f_value_uses).call)) (ap (aC (i:=4) rfl (aG (aG (vr 3) (aQ Γ (qG _))) (aQ Γ (xN _)))) (ap (aC (i:=5) rfl (bx ak)) (ap (dt (i:=6) rfl (eh Γ (dZ _) boot_range (by decide) (aa (cy (da Γ (fj _) boot_len (by decide) (aa (aG (vr 1) (aQ Γ (bF _))) ak) gV) aJ yK) ak) fq) (ap (aC (i:=7) rfl (bB (aG (vr 1) (aQ Γ (bF _))) (cy (vr 6) aJ fM) aI)) (aN (ch (gB (io (bh (aG (bB (vr 4) (vr 6) aI) (aQ Γ (Bl _))) aW (cx hb)) (gH (bh (aG (vr 7) (aQ Γ (d6 _))) aW (xH hb))))) (ap (aC (i:=2) rfl (az Γ (d8 _) (d5 _) (aa (vr 0) (aa (vr 7) (aa (vr 2) ak))) (hc .f_place_uses).call)) (aN (bR (cj (vr 5) (aa (vr 7) ak) cN F.slot_list_append F.type_list_append)))) (aN (aC (i:=2) rfl (az Γ (bo _) (bn _) (aa (vr 0) (aa (vr 7) (aa (vr 2) ak))) (hc .f_value_uses).call))))))) (ap (dt (i:=7) rfl (aH (vr 5)) (aN (aC (i:=2) rfl (az Γ (fw _) (fv _) (aa (vr 0) (aa (vr 7) (aa (vr 2) ak))) (hc .f_with_store).call)))) (aN (bl (vr 2)))))))))
theorem vp : cz prog w B b lL (aT (st 16)) (gh c):=
 (ap (aC (i:=3) rfl (bB (aG (vr 1) (aQ Γ (bF _))) aJ aI)) (ap (ch (bh (aG (vr 1) (aQ Γ (cJ _))) aW (cx hb)) (aN (bl (az Γ (bo _) (bn _) (aa (vr 0) (aa (vr 3) (aa (vr 2) ak))) (hc .f_value_uses).call))) bz) (ap (aC (i:=2) rfl (az Γ (d8 _) (d5 _) (aa (vr 0) (aa (vr 3) (aa (vr 2) ak))) (hc .f_place_uses).call)) (ap (dt (i:=4) rfl (aH (qF (aG (vr 1) (aQ Γ (bF _))))) (aN (aC (i:=2) rfl (az Γ (bo _) (bn _) (aa (vr 0) (aa (vr 4) (aa (vr 2) ak))) (hc .f_value_uses).call)))) (ap (ch (bh (aG (vr 1) (aQ Γ (cJ _))) aW (xH hb)) (aN (bR (az Γ (wB _) (v9 _) (aa (vr 0) (aa (vr 3) (aa (vr 2) ak))) (hc .f_used).call))) bz) (aN (bl (az Γ (fw _) (fv _) (aa (vr 0) (aa (vr 3) (aa (vr 2) ak))) (hc .f_with_store).call))))))))
theorem oX : cz prog w B b iM (aT (st 17)) (dw c):=
 (ap (aC (i:=3) rfl (bx ak)) (ap (dt (i:=4) rfl (eh Γ (dZ _) boot_range (by decide) (aa aJ (aa (cy (da Γ (fj _) boot_len (by decide) (aa (aG (vr 1) (aQ Γ (bF _))) ak) gV) aJ yK) (aa aJ ak))) fq) (ap (aC (i:=2) rfl (az Γ (bo _) (bn _) (aa (vr 0) (aa (bB (aG (vr 1) (aQ Γ (bF _))) (vr 4) aI) (aa (vr 2) ak))) (hc .f_value_uses).call)) (aN (bR (cj (vr 3) (aa (az Γ (bX _) (bY _) (aa (vr 0) (aa (bB (aG (vr 1) (aQ Γ (bF _))) (cy (vr 4) aJ fM) aI) (aa (vr 2) ak))) (hc .f_statement_uses).call) ak) cN F.slot_list_append F.type_list_append))))) (ap (ch (fy (aG (vr 1) (aQ Γ (cJ _)))) (aN (aC (i:=2) rfl (az Γ (bX _) (bY _) (aa (vr 0) (aa (bB (aG (vr 1) (aQ Γ (bF _))) (Bo aJ wh) aI) (aa (vr 2) ak))) (hc .f_statement_uses).call))) bz) (ap (dt (i:=5) rfl (aH (vr 3)) (aN (aC (i:=2) rfl (cy (vr 2) (vr 5) yF)))) (aN (bl (vr 2)))))))
theorem p7 : cz prog w B b jp (aT (st 18)) (eS c):=
 (ap (dt (i:=3) rfl (eh Γ (dZ _) boot_range (by decide) (aa aJ (aa (da Γ (fj _) boot_len (by decide) (aa (aG (vr 1) (aQ Γ (bF _))) ak) gV) (aa aJ ak))) fq) (ap (aC (i:=2) rfl (az Γ (bo _) (bn _) (aa (vr 0) (aa (bB (aG (vr 1) (aQ Γ (bF _))) (vr 3) aI) (aa (vr 2) ak))) (hc .f_value_uses).call)) (aN (bR (az Γ (bX _) (bY _) (aa (vr 0) (aa (bB (aG (vr 1) (aQ Γ (bF _))) (cy (vr 3) aJ fM) aI) (aa (vr 2) ak))) (hc .f_statement_uses).call))))) (aN (bl (vr 2))))
theorem vR : cz prog w B b lQ (aT (st 19)) (f9 c):=
 (ap (zS (is:=[3,4,5,6]) (.cons rfl (.cons rfl (.cons rfl (.cons rfl .nil)))) (aG (vr 1) (aQ Γ (bF _)))) (ap (aC (i:=2) rfl (az Γ (bo _) (bn _) (aa (vr 0) (aa (vr 4) (aa (az Γ (d8 _) (d5 _) (aa (vr 0) (aa (vr 3) (aa (vr 2) ak))) (hc .f_place_uses).call) ak))) (hc .f_value_uses).call)) (ap (aC (i:=2) rfl (az Γ (bo _) (bn _) (aa (vr 0) (aa (vr 5) (aa (az Γ (fw _) (fv _) (aa (vr 0) (aa (vr 3) (aa (vr 2) ak))) (hc .f_with_store).call) ak))) (hc .f_value_uses).call)) (ap (bR (az Γ (bX _) (bY _) (aa (vr 0) (aa (vr 6) (aa (vr 2) ak))) (hc .f_statement_uses).call)) (aN (bl (vr 2)))))))
theorem rQ : cz prog w B b kC (aT (st 20)) (fE c):=
 (ap (aC (i:=2) rfl (az Γ (bo _) (bn _) (aa (vr 0) (aa (bB (aG (vr 1) (aQ Γ (bF _))) aJ aI) (aa (vr 2) ak))) (hc .f_value_uses).call)) (ap (aC (i:=3) rfl (Bo aJ wh)) (ap (dt (i:=4) rfl (aH (qF (aG (vr 1) (aQ Γ (bF _))))) (aN (aC (i:=3) rfl (cy (vr 3) (az Γ (bX _) (bY _) (aa (vr 0) (aa (vr 4) (aa (vr 2) ak))) (hc .f_statement_uses).call) yF)))) (aN (bl (vr 3))))))
theorem kU : cz prog w B b gw (aT (st 21)) (bj c):=
 (ap (aC (i:=3) rfl (aG (vr 1) (aQ Γ (d6 _)))) (ap (ch (bh (vr 3) aW (cx hb)) (ap (dt (i:=4) rfl (aG (vr 1) (aQ Γ (bF _))) (aN (aC (i:=2) rfl (az Γ (bX _) (bY _) (aa (vr 0) (aa (vr 4) (aa (vr 2) ak))) (hc .f_statement_uses).call)))) (aN (bl (vr 2)))) bz) (ap (ch (bh (vr 3) aW (cx hb)) (ap (aC (i:=2) rfl (az Γ (d8 _) (d5 _) (aa (vr 0) (aa (bB (aG (vr 1) (aQ Γ (bF _))) aJ aI) (aa (vr 2) ak))) (hc .f_place_uses).call)) (ap (aC (i:=2) rfl (az Γ (bo _) (bn _) (aa (vr 0) (aa (bB (aG (vr 1) (aQ Γ (bF _))) aJ aI) (aa (vr 2) ak))) (hc .f_value_uses).call)) (aN (bl (az Γ (fw _) (fv _) (aa (vr 0) (aa (bB (aG (vr 1) (aQ Γ (bF _))) aJ aI) (aa (vr 2) ak))) (hc .f_with_store).call))))) bz) (ap (ch (bh (vr 3) aW (cx hb)) (aN (bl (az Γ (kK _) (jP _) (aa (vr 0) (aa (vr 1) (aa (vr 2) ak))) (hc .f_call_uses).call))) bz) (ap (ch (bh (vr 3) aW (cx hb)) (aN (bl (az Γ (rH _) (te _) (aa (vr 0) (aa (vr 1) (aa (vr 2) ak))) (hc .f_std_uses).call))) bz) (ap (ch (bh (vr 3) aW (cx hb)) (aN (bl (az Γ (nT _) (nQ _) (aa (vr 0) (aa (vr 1) (aa (vr 2) ak))) (hc .f_branch_uses).call))) bz) (ap (ch (bh (vr 3) aW (cx hb)) (aN (bl (az Γ (oy _) (oW _) (aa (vr 0) (aa (vr 1) (aa (vr 2) ak))) (hc .f_while_uses).call))) bz) (ap (ch (bh (vr 3) aW (cx hb)) (aN (bl (az Γ (bo _) (bn _) (aa (vr 0) (aa (bB (aG (vr 1) (aQ Γ (bF _))) aJ aI) (aa (az Γ (bX _) (bY _) (aa (vr 0) (aa (bB (aG (vr 1) (aQ Γ (bF _))) aJ aI) (aa (vr 2) ak))) (hc .f_statement_uses).call) ak))) (hc .f_value_uses).call))) bz) (ap (ch (bh (vr 3) aW (cx hb)) (aN (bl (az Γ (tW _) (sP _) (aa (vr 0) (aa (vr 1) (aa (vr 2) ak))) (hc .f_for_uses).call))) bz) (aN (bl (az Γ (qq _) (pX _) (aa (vr 0) (aa (vr 1) (aa (vr 2) ak))) (hc .f_case_uses).call))))))))))))
theorem q8 : cz prog w B b jo (aT (st 22)) (eI c):=
 (ap (aC (i:=1) rfl (az Γ (tH _) (tC _) (aa (vr 0) ak) (hc .Follower).call)) (ap (aC (i:=2) rfl (az Γ (bX _) (bY _) (aa (vr 1) (aa (aG (vr 0) (aQ Γ (qu _))) (aa aJ ak))) (hc .f_statement_uses).call)) (ap (ch (bh (aG (vr 0) (aQ Γ (g5 _))) db mZ) (aN (bR (az Γ (bo _) (bn _) (aa (vr 1) (aa (aG (vr 0) (aQ Γ (g5 _))) (aa (vr 2) ak))) (hc .f_value_uses).call))) bz) (aN (bl (ue (fr:=[(1, "st")]) (kn (by kernel_rfl)) (aH (da Γ (li _) boot_sorted (by decide) (aa (aG (vr 1) (aQ Γ (nh _))) ak) (oo hsys))) Db (pn (aa (vr 0) (aa (aG (bB (aG (vr 1) (aQ Γ (s4 _))) (bB (aG (vr 1) (aQ Γ (nh _))) (vr 0) aI) aI) (aQ Γ (wZ _))) ak)))))))))
theorem rW : cz prog w B b j0 (aT (mt 24 0)) (gy c):=
 (ap (aZ (vr 0) (vr 1) (bm Γ (pi _))) (ap (aZ (vr 0) (vr 2) (bm Γ (Bb _))) (ap (aZ (vr 0) (vr 3) (bm Γ (B9 _))) (ap (aZ (vr 0) db (bm Γ (w2 _))) (ap (aZ (vr 0) aJ (bm Γ (xG _))) (ap (aZ (vr 0) (aH (bx ak)) (bm Γ (xL _))) (ap (aZ (vr 0) aJ (bm Γ (gR _))) (ap (aZ (vr 0) (aH (bx ak)) (bm Γ (kX _))) (ap (aZ (vr 0) aW (bm Γ (jf _))) (ap (aZ (vr 0) aW (bm Γ (tA _))) (ap (aZ (vr 0) (aH (bx ak)) (bm Γ (xJ _))) (aN (aZ (vr 0) aJ (bm Γ (B3 _)))))))))))))))
theorem uZ : cz prog w B b lO (aT (mt 25 0)) (hZ c):=
 (ap (aZ (vr 0) (vr 1) (bm Γ (BI _))) (ap (aZ (vr 0) (vr 2) (bm Γ (Cj _))) (ap (aZ (vr 0) (vr 3) (bm Γ (w1 _))) (ap (aZ (vr 0) (vr 4) (bm Γ (se _))) (ap (aZ (vr 0) iW (bm Γ (rq _))) (ap (aZ (vr 0) iW (bm Γ (tU _))) (ap (aZ (vr 0) aJ (bm Γ (gR _))) (ap (aZ (vr 0) aW (bm Γ (jf _))) (ap (aZ (vr 0) db (bm Γ (np _))) (ap (aZ (vr 0) aJ (bm Γ (ww _))) (ap (aZ (vr 0) aJ (bm Γ (w5 _))) (ap (aZ (vr 0) aJ (bm Γ (pi _))) (ap (aZ (vr 0) iW (bm Γ (vx _))) (aN (aZ (vr 0) db (bm Γ (su _)))))))))))))))))
theorem pO : cz prog w B b ju (aT (mt 26 0)) (fW c):=
 (ap (aZ (vr 0) aJ (bm Γ (nA _))) (ap (aZ (vr 0) kH (bm Γ (Ap _))) (ap (aZ (vr 0) (aH (eZ Γ (vr 0) (aa aW (aa aJ ak)) (hc .tnew).call (by kernel_rfl) (by kernel_rfl) (by kernel_rfl) (by kernel_rfl))) (bm Γ (ud _))) (ap (aZ (vr 0) (aH (eZ Γ (vr 0) (aa aW (aa aJ ak)) (hc .tnew).call (by kernel_rfl) (by kernel_rfl) (by kernel_rfl) (by kernel_rfl))) (bm Γ (A7 _))) (ap (aZ (vr 0) (aH (eZ Γ (vr 0) (aa aW (aa aJ ak)) (hc .tnew).call (by kernel_rfl) (by kernel_rfl) (by kernel_rfl) (by kernel_rfl))) (bm Γ (BB _))) (ap (aZ (vr 0) (aH (eZ Γ (vr 0) (aa aW (aa aJ ak)) (hc .tnew).call (by kernel_rfl) (by kernel_rfl) (by kernel_rfl) (by kernel_rfl))) (bm Γ (uX _))) (ap (aZ (vr 0) (aH (eZ Γ (vr 0) (aa aW (aa aJ ak)) (hc .tnew).call (by kernel_rfl) (by kernel_rfl) (by kernel_rfl) (by kernel_rfl))) (bm Γ (BF _))) (ap (aZ (vr 0) (aH (eZ Γ (vr 0) (aa aW (aa aJ ak)) (hc .tnew).call (by kernel_rfl) (by kernel_rfl) (by kernel_rfl) (by kernel_rfl))) (bm Γ (Et _))) (aN (aZ (vr 0) (aH (eZ Γ (vr 0) (aa aW (aa aJ ak)) (hc .tnew).call (by kernel_rfl) (by kernel_rfl) (by kernel_rfl) (by kernel_rfl))) (bm Γ (Cm _))))))))))))
theorem rK : cz prog w B b jT (aT (mt 26 1)) (gx c):=
 (ap (w8 (vr 0) (aQ Γ (nu _)) aJ zR (bm Γ (nA _))) (ap (aC (i:=5) rfl (az Γ (Bc _) (A2 _) (aa (aG (vr 0) (aQ Γ (nu _))) (aa (vr 1) (aa (vr 2) ak))) (hc .Type).call)) (ap (aZ (vr 5) (vr 3) (bm Γ (jf _))) (ap (aZ (vr 5) (vr 4) (bm Γ (tA _))) (ap (ch (bh (vr 4) aW (xH hb)) (aN (kY (aG (vr 0) (aQ Γ (zA _))) (pn (aa (vr 3) (aa (vr 4) ak))) (vr 5) lE)) bz) (aN (bl (vr 5))))))))
theorem vo : cz prog w B b lF (aT (st 28)) (f8 c):=
 (ap (aC (i:=1) rfl (bx ak)) (ap (dt (i:=2) rfl (aH (zm (vr 0))) (ap (aC (i:=3) rfl (Ag (bh (vr 2) aJ Dy) (vr 2) (cy aJ (cy aJ (vr 2) Ad) yK))) (aN (dt (i:=4) rfl (eh Γ (dZ _) boot_range (by decide) (aa aJ ak) fq) (ap (bR (cj (vr 1) (aa (cy (vr 3) aJ CZ) ak) cN F.slot_list_append F.type_list_append)) (ap (aC (i:=3) rfl (cy (vr 3) aJ CB)) (aN (ch (bh (vr 3) aJ (cx hb)) (aN F6) bz)))))))) (ap (aC (i:=1) rfl (zm (vr 1))) (ap (bR (cj (vr 1) ak xy F.slot_list_reverse F.type_list_reverse)) (aN (bl (vr 1)))))))
theorem vJ : cz prog w B b lG (aT (st 29)) (f7 c):=
 (aN (bl (Ag (bh (vr 0) (bx ak) (xH hb)) (cy (cj (vr 0) ak ze F.slot_list_pop F.type_list_pop) (vr 1) CZ) aJ)))
theorem sL : cz prog w B b jQ (aT (st 30)) (gz c):=
 (ap (pf (vr 0) aW uB aJ zR lE) (aN (bl (bB (vr 0) aW aI))))
theorem xV : cz prog w B b nN (aT (st 31)) (gQ c):=
 (aN (bl (aH (az Γ (cP _) (cQ _) (aa aW (aa (az Γ (cw _) (cu _) (aa (vr 0) ak) (hc .f_law_place).call) (aa (aG (bB (vr 0) aW aI) (aQ Γ (em _))) (aa (aH (bx ak)) (aa (bB (bB (vr 0) aW aI) (vr 1) aI) ak))))) (hc .Node).call))))
theorem si : cz prog w B b jO (aT (st 32)) (fz c):=
 (ap (aC (i:=2) rfl (az Γ (bp _) (bq _) (aa (vr 1) (aa aJ ak)) (hc .f_law_draw).call)) (ap (ch (bh (vr 2) aJ (cx hb)) (ap (aC (i:=3) rfl (az Γ (df _) (dk _) (aa (vr 0) (aa (az Γ (bp _) (bq _) (aa (vr 1) (aa aJ ak)) (hc .f_law_draw).call) ak)) (hc .f_law_var).call)) (aN (bl (aH (az Γ (cP _) (cQ _) (aa aW (aa (az Γ (cw _) (cu _) (aa (vr 0) ak) (hc .f_law_place).call) (aa (aG (bB (vr 0) aW aI) (aQ Γ (em _))) (aa (aH (bx (aa (vr 3) (aa (az Γ (df _) (dk _) (aa (vr 0) (aa (az Γ (bp _) (bq _) (aa (vr 1) (aa aJ ak)) (hc .f_law_draw).call) ak)) (hc .f_law_var).call) ak)))) ak)))) (hc .Node).call))))) bz) (ap (ch (bh (vr 2) aJ (cx hb)) (aN (bl (az Γ (rR _) (rX _) (aa (aG (bB (vr 0) aW aI) (aQ Γ (em _))) (aa aJ (aa (az Γ (cw _) (cu _) (aa (vr 0) ak) (hc .f_law_place).call) ak))) (hc .f_const).call))) bz) (aN (bl (az Γ (df _) (dk _) (aa (vr 0) (aa (az Γ (bp _) (bq _) (aa (vr 1) (aa aJ ak)) (hc .f_law_draw).call) ak)) (hc .f_law_var).call))))))
theorem uL : cz prog w B b mh (aT (st 33)) (fZ c):=
 (ap (aC (i:=2) rfl (aG (bB (vr 0) aW aI) (aQ Γ (vk _)))) (ap (aC (i:=3) rfl (aH (az Γ (cP _) (cQ _) (aa aW (aa (az Γ (cw _) (cu _) (aa (vr 0) ak) (hc .f_law_place).call) (aa (vr 2) (aa (aH (bx (aa (az Γ (b4 _) (bZ _) (aa (vr 0) (aa (vr 1) ak)) (hc .f_law_value).call) (aa (az Γ (b4 _) (bZ _) (aa (vr 0) (aa (vr 1) ak)) (hc .f_law_value).call) ak)))) ak)))) (hc .Node).call))) (ap (aC (i:=4) rfl (az Γ (bp _) (bq _) (aa (vr 1) (aa aJ ak)) (hc .f_law_draw).call)) (ap (ch (bh (vr 4) aJ D5) (aN (bl (vr 3))) bz) (ap (aC (i:=5) rfl (aH (az Γ (cP _) (cQ _) (aa aW (aa (az Γ (cw _) (cu _) (aa (vr 0) ak) (hc .f_law_place).call) (aa (vr 2) (aa (aH (bx (aa (az Γ (b4 _) (bZ _) (aa (vr 0) (aa (vr 1) ak)) (hc .f_law_value).call) (aa (az Γ (b4 _) (bZ _) (aa (vr 0) (aa (vr 1) ak)) (hc .f_law_value).call) ak)))) ak)))) (hc .Node).call))) (aN (bl (aH (az Γ (cP _) (cQ _) (aa (Ag (bh (vr 4) aJ (cx hb)) aW aW) (aa (az Γ (cw _) (cu _) (aa (vr 0) ak) (hc .f_law_place).call) (aa (vr 2) (aa (aH (bx (aa (vr 3) (aa (vr 5) ak)))) ak)))) (hc .Node).call)))))))))
theorem sA : cz prog w B b kG (aT (st 34)) (fC c):=
 (ap (qb (i:=3) rfl (by kernel_rfl) (fr:=[(0, "book"),(1, "pool"),(2, "deep")]) (kn (by kernel_rfl)) (eh Γ (dZ _) boot_range (by decide) (aa (cy aJ (az Γ (bp _) (bq _) (aa (vr 1) (aa aJ ak)) (hc .f_law_draw).call) fM) ak) fq) Db (az Γ (qc _) (rh _) (aa (vr 1) (aa (vr 2) (aa (vr 3) ak))) (hc .f_law_deed).call) (by kernel_rfl) (by kernel_rfl)) (aN (bl (aH (az Γ (cP _) (cQ _) (aa aW (aa (az Γ (cw _) (cu _) (aa (vr 0) ak) (hc .f_law_place).call) (aa db (aa (aH (vr 3)) ak)))) (hc .Node).call)))))
theorem uw : cz prog w B b lY (aT (st 35)) (f6 c):=
 (ap (aC (i:=4) rfl (bx ak)) (ap (dt (i:=5) rfl (eh Γ (dZ _) boot_range (by decide) (aa (vr 3) ak) fq) (ap (bR (cj (vr 4) (aa (az Γ (kO _) (jV _) (aa (vr 0) (aa (vr 1) ak)) (hc .f_law_test).call) ak) cN F.slot_list_append F.type_list_append)) (aN (bR (cj (vr 4) (aa (az Γ (c8 _) (cZ _) (aa (vr 0) (aa (vr 1) (aa (cy (vr 2) aJ fM) ak))) (hc .f_law_block).call) ak) cN F.slot_list_append F.type_list_append))))) (aN (bl (vr 4)))))
theorem vt : cz prog w B b mn (aT (st 36)) (f4 c):=
 (ap (pf (vr 0) aW uB aJ Dk lE) (ap (aC (i:=3) rfl (az Γ (bp _) (bq _) (aa (vr 1) (aa (Ag (gB (io (bh (vr 2) aJ D5) (gH (bh (bB (vr 0) aW aI) aJ D6)))) aJ aJ) ak)) (hc .f_law_draw).call)) (ap (aC (i:=4) rfl (az Γ (cw _) (cu _) (aa (vr 0) ak) (hc .f_law_place).call)) (ap (ch (bh (vr 3) aJ (cx hb)) (ap (aC (i:=9) rfl (az Γ (df _) (dk _) (aa (vr 0) (aa (az Γ (bp _) (bq _) (aa (vr 1) (aa aJ ak)) (hc .f_law_draw).call) ak)) (hc .f_law_var).call)) (aN (bl (aH (az Γ (cP _) (cQ _) (aa aW (aa (vr 4) (aa db (aa (aH (bx (aa (vr 9) (aa (az Γ (b4 _) (bZ _) (aa (vr 0) (aa (vr 1) ak)) (hc .f_law_value).call) ak)))) ak)))) (hc .Node).call))))) bz) (ap (ch (bh (vr 3) aJ (cx hb)) (ap (aC (i:=9) rfl (az Γ (df _) (dk _) (aa (vr 0) (aa (az Γ (bp _) (bq _) (aa (vr 1) (aa aJ ak)) (hc .f_law_draw).call) ak)) (hc .f_law_var).call)) (aN (bl (aH (az Γ (cP _) (cQ _) (aa aW (aa (vr 4) (aa db (aa (aH (bx (aa (vr 9) (aa (az Γ (b4 _) (bZ _) (aa (vr 0) (aa (vr 1) ak)) (hc .f_law_value).call) ak)))) (aa aW ak))))) (hc .Node).call))))) bz) (ap (ch (bh (vr 3) aJ (cx hb)) (ap (aC (i:=10) rfl (aH (az Γ (cP _) (cQ _) (aa aW (aa (az Γ (cw _) (cu _) (aa (vr 0) ak) (hc .f_law_place).call) (aa (aG (bB (vr 0) aW aI) (aQ Γ (qG _))) (aa (aH (bx ak)) (aa (bB (vr 0) aW aI) ak))))) (hc .Node).call))) (ap (aC (i:=11) rfl (az Γ (df _) (dk _) (aa (vr 0) (aa (az Γ (bp _) (bq _) (aa (vr 1) (aa aJ ak)) (hc .f_law_draw).call) ak)) (hc .f_law_var).call)) (aN (bl (aH (az Γ (cP _) (cQ _) (aa aW (aa (vr 4) (aa db (aa (aH (bx (aa (vr 10) (aa (vr 11) (aa (az Γ (b4 _) (bZ _) (aa (vr 0) (aa (vr 1) ak)) (hc .f_law_value).call) ak))))) ak)))) (hc .Node).call)))))) bz) (ap (ch (gB (p8 (bh (vr 3) aJ (cx hb)) (mR (bh (vr 3) aJ (cx hb))))) (ap (aC (i:=5) rfl (az Γ (kg _) (ku _) (aa (vr 0) (aa (vr 1) (aa (vr 2) (aa (cy aJ (az Γ (bp _) (bq _) (aa (vr 1) (aa aJ ak)) (hc .f_law_draw).call) fM) ak)))) (hc .f_law_arms).call)) (ap (aC (i:=8) rfl (sk (az Γ (bp _) (bq _) (aa (vr 1) (aa aJ ak)) (hc .f_law_draw).call) aJ (cx hb))) (ap (ch (fy (vr 8)) (aN (bR (cj (vr 5) (aa (az Γ (c8 _) (cZ _) (aa (vr 0) (aa (vr 1) (aa (cy (vr 2) aJ fM) ak))) (hc .f_law_block).call) ak) cN F.slot_list_append F.type_list_append))) bz) (aN (bl (aH (az Γ (cP _) (cQ _) (aa aW (aa (vr 4) (aa db (aa (aH (vr 5)) (aa (vr 8) ak))))) (hc .Node).call))))))) bz) (ap (ch (bh (vr 3) aJ (cx hb)) (aN (bl (aH (az Γ (cP _) (cQ _) (aa aW (aa (vr 4) (aa db (aa (aH (az Γ (kg _) (ku _) (aa (vr 0) (aa (vr 1) (aa (vr 2) (aa (cy aJ (az Γ (bp _) (bq _) (aa (vr 1) (aa aJ ak)) (hc .f_law_draw).call) fM) ak)))) (hc .f_law_arms).call)) ak)))) (hc .Node).call)))) bz) (ap (ch (bh (vr 3) aJ (cx hb)) (ap (aC (i:=12) rfl (az Γ (c8 _) (cZ _) (aa (vr 0) (aa (vr 1) (aa (cy (vr 2) aJ fM) ak))) (hc .f_law_block).call)) (aN (bl (aH (az Γ (cP _) (cQ _) (aa aW (aa (vr 4) (aa db (aa (aH (bx (aa (vr 12) (aa (az Γ (kO _) (jV _) (aa (vr 0) (aa (vr 1) ak)) (hc .f_law_test).call) ak)))) ak)))) (hc .Node).call))))) bz) (ap (ch (bh (vr 3) aJ (cx hb)) (ap (aC (i:=5) rfl (bx (aa (az Γ (df _) (dk _) (aa (vr 0) (aa (az Γ (bp _) (bq _) (aa (vr 1) (aa aJ ak)) (hc .f_law_draw).call) ak)) (hc .f_law_var).call) (aa (az Γ (b4 _) (bZ _) (aa (vr 0) (aa (vr 1) ak)) (hc .f_law_value).call) (aa (az Γ (b4 _) (bZ _) (aa (vr 0) (aa (vr 1) ak)) (hc .f_law_value).call) ak))))) (aN (bl (aH (az Γ (cP _) (cQ _) (aa aW (aa (vr 4) (aa db (aa (aH (cy (vr 5) (bx (aa (az Γ (c8 _) (cZ _) (aa (vr 0) (aa (vr 1) (aa (cy (vr 2) aJ fM) ak))) (hc .f_law_block).call) ak)) u6)) (aa aJ ak))))) (hc .Node).call))))) bz) (ap (aC (i:=5) rfl (bx (aa (az Γ (b4 _) (bZ _) (aa (vr 0) (aa (vr 1) ak)) (hc .f_law_value).call) ak))) (ap (aC (i:=6) rfl (bx ak)) (ap (dt (i:=7) rfl (eh Γ (dZ _) boot_range (by decide) (aa (cy aJ (az Γ (bp _) (bq _) (aa (vr 1) (aa aJ ak)) (hc .f_law_draw).call) fM) ak) fq) (ap (bR (cj (vr 6) (aa (aH (bx (aa (pn (aa (vr 7) (aa (vr 7) ak))) ak))) ak) cN F.slot_list_append F.type_list_append)) (aN (bR (cj (vr 5) (aa (az Γ (c8 _) (cZ _) (aa (vr 0) (aa (vr 1) (aa (cy (vr 2) aJ fM) ak))) (hc .f_law_block).call) ak) cN F.slot_list_append F.type_list_append))))) (ap (aC (i:=8) rfl (sk (az Γ (bp _) (bq _) (aa (vr 1) (aa aJ ak)) (hc .f_law_draw).call) aJ (cx hb))) (ap (ch (fy (vr 8)) (aN (bR (cj (vr 5) (aa (az Γ (c8 _) (cZ _) (aa (vr 0) (aa (vr 1) (aa (cy (vr 2) aJ fM) ak))) (hc .f_law_block).call) ak) cN F.slot_list_append F.type_list_append))) bz) (aN (bl (aH (az Γ (cP _) (cQ _) (aa aW (aa (vr 4) (aa db (aa (aH (vr 5)) (aa (pn (aa (vr 6) (aa (vr 8) ak))) ak))))) (hc .Node).call)))))))))))))))))))
theorem uE : cz prog w B b lV (aT (st 37)) (eu c):=
 (ap (ch (bh (aG (vr 0) (aQ Γ (d6 _))) aW (cx hb)) (ap (dt (i:=4) rfl (vr 1) (aN (ch (bh (aG (aG (vr 0) (aQ Γ (cJ _))) (aQ Γ (eR _))) (vr 4) (mK hsys hb)) (aN (kY (vr 2) (aG (vr 0) (aQ Γ (sS _))) (aG (vr 0) (aQ Γ (cJ _))) lE)) bz))) (aN DY)) bz) (aN (dt (i:=3) rfl (aG (vr 0) (aQ Γ (bF _))) (aN (bR (az Γ (b5 _) (b6 _) (aa (vr 3) (aa (vr 1) (aa (vr 2) ak))) (hc .f_law_uses).call))))))
theorem qS : cz prog w B b jr (aT (st 38)) (eJ c):=
 (ap (aC (i:=2) rfl (bx ak)) (ap (dt (i:=3) rfl (vr 0) (ap (aC (i:=4) rfl (da Γ (li _) boot_sorted (by decide) (aa (cy (ue (fr:=[(1, "spot")]) (kn (by kernel_rfl)) (vr 3) (C8 (bh (vr 0) (vr 1) (xH hb))) (vr 0)) (bx (aa (vr 1) ak)) u6) ak) (oo hsys))) (aN (ch (bh (vr 4) (vr 2) (mK hsys hb)) (aN (bR (cj (vr 2) (aa (aH (vr 4)) ak) cN F.slot_list_append F.type_list_append))) bz)))) (aN (bl (aH (vr 2))))))
theorem q0 : cz prog w B b jk (aT (st 39)) (eL c):=
 (aN (bl (aH (cy (vr 0) (ue (fr:=[(0, "one")]) (kn (by kernel_rfl)) (vr 1) (C8 (bh (vr 0) (vr 1) (mK hsys hb))) (vr 0)) u6))))
theorem ux : cz prog w B b l9 (aT (st 40)) (cg c):=
 (ap (ch (bh (vr 1) (bx ak) (cx hb)) (aN (bl (aH (bx ak)))) bz) (ap (aC (i:=3) rfl (aG (vr 0) (aQ Γ (bF _)))) (ap (ch (bh (aG (vr 0) (aQ Γ (d6 _))) aW (cx hb)) (ap (dt (i:=4) rfl (vr 3) (aN (aC (i:=1) rfl (az Γ (cE _) (cF _) (aa (vr 4) (aa (vr 1) (aa (vr 2) ak))) (hc .f_law_ways).call)))) (aN (bl (vr 1)))) bz) (ap (ch (bh (aG (vr 0) (aQ Γ (d6 _))) aW (cx hb)) (ap (bR (az Γ (b5 _) (b6 _) (aa (bB (vr 3) aJ aI) (aa (vr 1) (aa (vr 2) ak))) (hc .f_law_uses).call)) (aN (bl (az Γ (eU _) (eX _) (aa (vr 1) (aa (aG (aG (bB (vr 3) aJ aI) (aQ Γ (cJ _))) (aQ Γ (eR _))) ak)) (hc .f_law_stored).call)))) bz) (ap (ch (bh (aG (vr 0) (aQ Γ (d6 _))) aW (cx hb)) (ap (bR (az Γ (b5 _) (b6 _) (aa (bB (vr 3) aJ aI) (aa (vr 1) (aa (vr 2) ak))) (hc .f_law_uses).call)) (ap (bR (az Γ (b5 _) (b6 _) (aa (bB (vr 3) aJ aI) (aa (vr 1) (aa (vr 2) ak))) (hc .f_law_uses).call)) (aN (bl (az Γ (eU _) (eX _) (aa (vr 1) (aa (aG (aG (bB (vr 3) aJ aI) (aQ Γ (cJ _))) (aQ Γ (eR _))) ak)) (hc .f_law_stored).call))))) bz) (ap (ch (bh (aG (vr 0) (aQ Γ (d6 _))) aW (cx hb)) (ap (bR (az Γ (b5 _) (b6 _) (aa (bB (vr 3) aJ aI) (aa (vr 1) (aa (vr 2) ak))) (hc .f_law_uses).call)) (aN (bl (az Γ (eU _) (eX _) (aa (vr 1) (aa (aG (aG (bB (vr 3) aJ aI) (aQ Γ (cJ _))) (aQ Γ (eR _))) ak)) (hc .f_law_stored).call)))) bz) (ap (ch (bh (aG (vr 0) (aQ Γ (d6 _))) aW (cx hb)) (ap (aC (i:=5) rfl (aH (bx ak))) (ap (dt (i:=6) rfl (eh Γ (dZ _) boot_range (by decide) (aa (cy (da Γ (fj _) boot_len (by decide) (aa (vr 3) ak) gV) aJ CB) ak) fq) (ap (bR (az Γ (b5 _) (b6 _) (aa (bB (vr 3) (cy aJ (vr 6) Ad) aI) (aa (vr 1) (aa (vr 2) ak))) (hc .f_law_uses).call)) (aN (aC (i:=5) rfl (az Γ (de _) (dd _) (aa (vr 5) (aa (az Γ (cE _) (cF _) (aa (bB (vr 3) (cy (cy aJ (vr 6) Ad) aJ fM) aI) (aa (vr 1) (aa (vr 2) ak))) (hc .f_law_ways).call) ak)) (hc .f_law_joined).call))))) (ap (aC (i:=7) rfl (Ag (fy (aG (vr 0) (aQ Γ (cJ _)))) (az Γ (cE _) (cF _) (aa (bB (vr 3) (Bo aJ wh) aI) (aa (vr 1) (aa (vr 2) ak))) (hc .f_law_ways).call) (vr 1))) (aN (bl (az Γ (de _) (dd _) (aa (vr 5) (aa (vr 7) ak)) (hc .f_law_joined).call)))))) bz) (ap (ch (bh (aG (vr 0) (aQ Γ (d6 _))) aW (cx hb)) (ap (bR (az Γ (b5 _) (b6 _) (aa (bB (vr 3) aJ aI) (aa (vr 1) (aa (vr 2) ak))) (hc .f_law_uses).call)) (ap (aC (i:=5) rfl (aH (bx ak))) (ap (dt (i:=4) rfl (aH (qF (vr 3))) (aN (aC (i:=5) rfl (az Γ (de _) (dd _) (aa (vr 5) (aa (az Γ (cE _) (cF _) (aa (vr 4) (aa (vr 1) (aa (vr 2) ak))) (hc .f_law_ways).call) ak)) (hc .f_law_joined).call)))) (aN (bl (vr 5)))))) bz) (aN (bl (az Γ (oM _) (oK _) (aa (vr 0) (aa (vr 1) (aa (vr 2) ak))) (hc .f_law_turns).call)))))))))))
theorem td : cz prog w B b kf (aT (st 41)) (dO c):=
 (ap (aC (i:=3) rfl (aG (vr 0) (aQ Γ (bF _)))) (ap (ch (bh (aG (vr 0) (aQ Γ (d6 _))) aW (cx hb)) (ap (aC (i:=4) rfl (az Γ (cE _) (cF _) (aa (bB (vr 3) aJ aI) (aa (vr 1) (aa (vr 2) ak))) (hc .f_law_ways).call)) (aN (jd 1000 (fy iW) (ap (bR (az Γ (b5 _) (b6 _) (aa (bB (vr 3) aJ aI) (aa (vr 4) (aa (vr 2) ak))) (hc .f_law_uses).call)) (ap (aC (i:=5) rfl (az Γ (de _) (dd _) (aa (vr 4) (aa (az Γ (cE _) (cF _) (aa (bB (vr 3) aJ aI) (aa (vr 4) (aa (vr 2) ak))) (hc .f_law_ways).call) ak)) (hc .f_law_joined).call)) (ap (ch (bh (da Γ (fj _) boot_len (by decide) (aa (vr 5) ak) gV) (da Γ (fj _) boot_len (by decide) (aa (vr 4) ak) gV) (cx hb)) (aN (bl (vr 4))) bz) (aN (aC (i:=4) rfl (vr 5))))))))) bz) (ap (ch (bh (aG (vr 0) (aQ Γ (d6 _))) aW (cx hb)) (ap (bR (az Γ (b5 _) (b6 _) (aa (bB (vr 3) aJ aI) (aa (vr 1) (aa (vr 2) ak))) (hc .f_law_uses).call)) (ap (aC (i:=4) rfl (az Γ (eU _) (eX _) (aa (vr 1) (aa (aG (aG (bB (vr 3) aJ aI) (aQ Γ (cJ _))) (aQ Γ (eR _))) ak)) (hc .f_law_stored).call)) (aN (jd 1000 (fy iW) (ap (bR (az Γ (b5 _) (b6 _) (aa (bB (vr 3) aJ aI) (aa (vr 4) (aa (vr 2) ak))) (hc .f_law_uses).call)) (ap (aC (i:=5) rfl (az Γ (de _) (dd _) (aa (vr 4) (aa (az Γ (cE _) (cF _) (aa (bB (vr 3) aJ aI) (aa (vr 4) (aa (vr 2) ak))) (hc .f_law_ways).call) ak)) (hc .f_law_joined).call)) (ap (ch (bh (da Γ (fj _) boot_len (by decide) (aa (vr 5) ak) gV) (da Γ (fj _) boot_len (by decide) (aa (vr 4) ak) gV) (cx hb)) (aN (bl (vr 4))) bz) (aN (aC (i:=4) rfl (vr 5)))))))))) bz) (ap (aC (i:=4) rfl (vr 1)) (aN (jd 1000 (fy iW) (ap (aC (i:=5) rfl (vr 4)) (ap (dt (i:=6) rfl (eh Γ (dZ _) boot_range (by decide) (aa aJ (aa (da Γ (fj _) boot_len (by decide) (aa (vr 3) ak) gV) (aa aJ ak))) fq) (ap (bR (az Γ (b5 _) (b6 _) (aa (bB (vr 3) (vr 6) aI) (aa (vr 4) (aa (vr 2) ak))) (hc .f_law_uses).call)) (aN (aC (i:=5) rfl (az Γ (de _) (dd _) (aa (vr 5) (aa (az Γ (cE _) (cF _) (aa (bB (vr 3) (cy (vr 6) aJ fM) aI) (aa (vr 4) (aa (vr 2) ak))) (hc .f_law_ways).call) ak)) (hc .f_law_joined).call))))) (ap (ch (bh (da Γ (fj _) boot_len (by decide) (aa (vr 5) ak) gV) (da Γ (fj _) boot_len (by decide) (aa (vr 4) ak) gV) (cx hb)) (aN (bl (vr 4))) bz) (aN (aC (i:=4) rfl (vr 5))))))))))))
theorem E4 : cz prog w B b zh (aT (st 42)) (sn c):=
 (ap (aC (i:=1) rfl (az Γ (re _) (qH _) (aa (vr 0) ak) (hc .f_law_pool).call)) (ap (aC (i:=2) rfl (BZ Γ (xY _) (xZ _) (hc .Types).call)) (ap (aC (i:=3) rfl (Cs (qa (vr 2) (qa aJ (qa aJ (qa (bx ak) EG)))))) (ap (dt (i:=4) rfl (eh Γ (dZ _) boot_range (by decide) (aa aJ ak) fq) (ap (aC (i:=14) rfl (az Γ (lc _) (k9 _) (aa (bB aW (vr 4) aI) (aa aW (aa (aG (vr 2) (aQ Γ (em _))) (aa aJ ak)))) (hc .Obj).call)) (ap (aZ (vr 14) aJ (bm Γ (gR _))) (ap (aZ (vr 14) (vr 4) (bm Γ (ww _))) (aN (bR (cj (bB (vr 3) aW aI) (aa (aH (vr 14)) ak) cN F.slot_list_append F.type_list_append))))))) (ap (aC (i:=5) rfl (eZ Γ (vr 2) (aa aW (aa aJ ak)) (hc .tnew).call (by kernel_rfl) (by kernel_rfl) (by kernel_rfl) (by kernel_rfl))) (ap (aZ (vr 5) (aG (vr 2) (aQ Γ (Cq _))) (bm Γ (w2 _))) (ap (aC (i:=6) rfl (az Γ (lc _) (k9 _) (aa aW (aa aW (aa (aG (vr 2) (aQ Γ (em _))) (aa aJ ak)))) (hc .Obj).call)) (ap (FY 5 (aZ (vr 5) (aH (bx (aa (aH (vr 6)) (aa (aH (az Γ (lc _) (k9 _) (aa aW (aa aW (aa (aG (vr 2) (aQ Γ (em _))) (aa aJ ak)))) (hc .Obj).call)) ak)))) (bm Γ (kX _)))) (ap (aC (i:=7) rfl (az Γ (lc _) (k9 _) (aa aW (aa aW (aa (vr 5) (aa aJ ak)))) (hc .Obj).call)) (ap (aZ (vr 7) aW (bm Γ (jf _))) (ap (aZ (vr 7) aW (bm Γ (np _))) (ap (kY (vr 3) aW (aH (vr 7)) lE) (ap (aC (i:=8) rfl (az Γ (me _) (lU _) (aa (az Γ (lc _) (k9 _) (aa aW (aa aW (aa (vr 5) (aa aJ ak)))) (hc .Obj).call) ak) (hc .ProcTree).call)) (ap (aZ (vr 8) (aH (eh Γ (wx _) boot_list (by decide) (aa (bB (vr 3) aW aI) ak) Al)) (bm Γ (po _))) (ap (aC (i:=9) rfl (sk (az Γ (bp _) (bq _) (aa (vr 1) (aa aJ ak)) (hc .f_law_draw).call) aJ (cx hb))) (ap (ch (fy (vr 9)) (ap (aC (i:=15) rfl (az Γ (me _) (lU _) (aa (az Γ (lc _) (k9 _) (aa aW (aa aW (aa (vr 5) (aa aJ ak)))) (hc .Obj).call) ak) (hc .ProcTree).call)) (ap (aZ (vr 15) aJ (bm Γ (gR _))) (ap (aZ (vr 15) (aH (az Γ (cP _) (cQ _) (aa aW (aa aJ (aa db (aa (aH (bx (aa (aH (az Γ (cP _) (cQ _) (aa aW (aa aJ (aa db (aa (aH (bx (aa (az Γ (df _) (dk _) (aa (vr 3) (aa aJ ak)) (hc .f_law_var).call) (aa (az Γ (rR _) (rX _) (aa (aG (vr 2) (aQ Γ (em _))) (aa aJ (aa aJ ak))) (hc .f_const).call) ak)))) ak)))) (hc .Node).call)) ak))) ak)))) (hc .Node).call)) (bm Γ (q7 _))) (aN (aZ (vr 8) (aH (bx (aa (vr 15) ak))) (bm Γ (sW _))))))) bz) (ap (aZ (vr 8) (az Γ (c8 _) (cZ _) (aa (vr 3) (aa (vr 1) (aa aJ ak))) (hc .f_law_block).call) (bm Γ (q7 _))) (ap (ch (bh (az Γ (bp _) (bq _) (aa (vr 1) (aa aJ ak)) (hc .f_law_draw).call) aJ (cx hb)) (aN (aZ (vr 8) (az Γ (b4 _) (bZ _) (aa (vr 3) (aa (vr 1) ak)) (hc .f_law_value).call) (bm Γ (pe _)))) bz) (ap (aC (i:=10) rfl kH) (ap (aC (i:=11) rfl (az Γ (cE _) (cF _) (aa (aG (vr 8) (aQ Γ (qu _))) (aa (aH (bx (aa (aH (bx ak)) ak))) (aa (vr 10) ak))) (hc .f_law_ways).call)) (ap (ch (bh (aG (vr 8) (aQ Γ (g5 _))) db mZ) (aN (bR (az Γ (b5 _) (b6 _) (aa (aG (vr 8) (aQ Γ (g5 _))) (aa (vr 11) (aa (vr 10) ak))) (hc .f_law_uses).call))) bz) (ap (aC (i:=12) rfl (bx ak)) (ap (dt (i:=13) rfl (aH (da Γ (li _) boot_sorted (by decide) (aa (vr 10) ak) (oo hsys))) (aN (ch (gB (p8 (Fi (fy (vr 9))) (mR (bh (aG (bB (vr 10) (vr 13) aI) (aQ Γ (eR _))) aJ (xH hb))))) (aN (bR (cj (vr 12) (aa (pn (aa (vr 13) (aa (aG (bB (vr 10) (vr 13) aI) (aQ Γ (wZ _))) ak))) ak) cN F.slot_list_append F.type_list_append))) bz))) (aN (bl (sk (az Γ (oT _) (oV _) (aa (vr 8) ak) (hc .f_unset_uses).call) (vr 12) (cx hb)))))))))))))))))))))))))))
end
end Mine
end
section
namespace Mine
section
variable {prog : Program} {w : World} {B : Heap} {b : Nat} {P : Params} {p : Program} {loose : List Str} {mg mb : Str → Option Value}
theorem qT : (kF P).lookup 29 = some (yt P):=by kernel_rfl
theorem zC : (kF P).lookup 43 = some (z8 P):=by kernel_rfl
theorem lz : (kF P).lookup 57 = some (yG P):=by kernel_rfl
theorem s5 : (kF P).lookup 71 = some (yN P):=by kernel_rfl
theorem qO : (kF P).lookup 78 = some (x5 P):=by kernel_rfl
theorem nj : (kF P).lookup 85 = some (AM P):=by kernel_rfl
theorem sH : (kF P).lookup 92 = some (Ao P):=by kernel_rfl
theorem lr : (kF P).lookup 106 = some (uM P):=by kernel_rfl
theorem ji : (kF P).lookup 113 = some (vO P):=by kernel_rfl
theorem Cw : (kF P).lookup 127 = some (tX P):=by kernel_rfl
theorem oN : (kF P).lookup 134 = some (vz P):=by kernel_rfl
theorem oz : (kF P).lookup 141 = some (t6 P):=by kernel_rfl
theorem oC : (kF P).lookup 148 = some (uJ P):=by kernel_rfl
theorem p9 : (kF P).lookup 155 = some (uu P):=by kernel_rfl
theorem rM : (kF P).lookup 162 = some (vQ P):=by kernel_rfl
theorem nq : (kF P).lookup 169 = some (vn P):=by kernel_rfl
theorem oP : (kF P).lookup 176 = some (uY P):=by kernel_rfl
theorem rU : (kF P).lookup 183 = some (vE P):=by kernel_rfl
theorem pN : (kF P).lookup 190 = some (uk P):=by kernel_rfl
theorem j6 : (kF P).lookup 197 = some (tY P):=by kernel_rfl
theorem oG : (kF P).lookup 202 = some (uq P):=by kernel_rfl
theorem pQ : (kF P).lookup 216 = some (ve P):=by kernel_rfl
theorem tG : (kF P).lookup 237 = some (vg P):=by kernel_rfl
theorem oY : (kF P).lookup 258 = some (vy P):=by kernel_rfl
theorem qA : (kF P).lookup 266 = some (u8 P):=by kernel_rfl
theorem th : (kF P).lookup 287 = some (uI P):=by kernel_rfl
theorem rD : (kF P).lookup 294 = some (vi P):=by kernel_rfl
theorem p0 : (kF P).lookup 301 = some (vM P):=by kernel_rfl
theorem uA : (kF P).lookup 308 = some (vU P):=by kernel_rfl
theorem qN : (kF P).lookup 315 = some (uj P):=by kernel_rfl
theorem sE : (kF P).lookup 322 = some (t5 P):=by kernel_rfl
theorem qj : (kF P).lookup 327 = some (uf P):=by kernel_rfl
theorem rA : (kF P).lookup 334 = some (uS P):=by kernel_rfl
theorem sM : (kF P).lookup 341 = some (vN P):=by kernel_rfl
theorem sU : (kF P).lookup 348 = some (va P):=by kernel_rfl
theorem oQ : (kF P).lookup 353 = some (vm P):=by kernel_rfl
theorem oU : (kF P).lookup 358 = some (vj P):=by kernel_rfl
theorem s7 : (kF P).lookup 365 = some (uG P):=by kernel_rfl
theorem qg : (kF P).lookup 372 = some (u4 P):=by kernel_rfl
theorem Eb : (kF P).lookup 379 = some (uN P):=by kernel_rfl
section
variable (Γ : Gl (kF P) B p loose mg mb) (hsys : ∃ o,B.get? sysModules = some o) (hb : 9 ≤ b) {c : Fn → List ae → Mo ae} (hc : ∀ g,cv prog w B b (.ref (n8 g)) (c g))
include Γ hsys hb hc
theorem sC : cv prog w B (b + 1) (.ref 29) (aP 6 6 [.none] (dg c)):=by
 refine cn (sg:=kE) (ps:=["self", "op", "place", "type_of", "kids", "value"]) (dfl:=[.none]) Γ qT (by kernel_rfl) (bt (by kernel_rfl)) (fun s xs X h1 h2=>?_) (ts Γ hsys hb hc)
 rcases xs with _ | ⟨a0,_ | ⟨a1,_ | ⟨a2,_ | ⟨a3,_ | ⟨a4,_ | ⟨a5,_ | ⟨z,zs⟩⟩⟩⟩⟩⟩⟩ <;> first | (exfalso; simp at h1 h2; done) | exact ⟨[.none],fun h G=>(.cons .none .nil),BindsTo.of_defaults rfl (X 22 (v7 P) (by kernel_rfl)) rfl rfl rfl⟩ | exact ⟨[],fun h G=>.nil,BindsTo.of_defaults rfl (X 22 (v7 P) (by kernel_rfl)) rfl rfl rfl⟩
theorem Bv : cv prog w B (b + 1) (.ref 43) (aP 3 3 [] (j2 c)):=by
 refine cn (sg:=rB) (ps:=["t", "value", "place"]) (dfl:=[]) Γ zC (by kernel_rfl) (bt (by kernel_rfl)) (fun s xs X h1 h2=>?_) (Bs Γ hsys hb hc)
 rcases xs with _ | ⟨a0,_ | ⟨a1,_ | ⟨a2,_ | ⟨z,zs⟩⟩⟩⟩ <;> first | (exfalso; simp at h1 h2; done) | exact ⟨[],fun h G=>.nil,BindsTo.of_eq rfl⟩
theorem mq : cv prog w B (b + 1) (.ref 57) (aP 2 2 [] (ej c)):=by
 refine cn (sg:=g4) (ps:=["self", "obj"]) (dfl:=[]) Γ lz (by kernel_rfl) (bt (by kernel_rfl)) (fun s xs X h1 h2=>?_) (mD Γ hsys hb hc)
 rcases xs with _ | ⟨a0,_ | ⟨a1,_ | ⟨z,zs⟩⟩⟩ <;> first | (exfalso; simp at h1 h2; done) | exact ⟨[],fun h G=>.nil,BindsTo.of_eq rfl⟩
theorem ut : cv prog w B (b + 1) (.ref 71) (aP 1 5 [] (fh c)):=by
 refine cn (sg:=lZ) (ps:=["node"]) (dfl:=[]) Γ s5 (by kernel_rfl) (bt (by kernel_rfl)) (fun s xs X h1 h2=>?_) (uz Γ hsys hb hc)
 rcases xs with _ | ⟨a0,_ | ⟨z,zs⟩⟩ <;> first | (exfalso; simp at h1 h2; done) | exact ⟨[],fun h G=>.nil,BindsTo.of_eq rfl⟩
theorem sZ : cv prog w B (b + 1) (.ref 78) (aP 1 1 [] (gq c)):=by
 refine cn (sg:=j3) (ps:=["t"]) (dfl:=[]) Γ qO (by kernel_rfl) (bt (by kernel_rfl)) (fun s xs X h1 h2=>?_) (ss Γ hsys hb hc)
 rcases xs with _ | ⟨a0,_ | ⟨z,zs⟩⟩ <;> first | (exfalso; simp at h1 h2; done) | exact ⟨[],fun h G=>.nil,BindsTo.of_eq rfl⟩
theorem oO : cv prog w B (b + 1) (.ref 85) (aP 1 4 [] (d7 c)):=by
 refine cn (sg:=iP) (ps:=["tree"]) (dfl:=[]) Γ nj (by kernel_rfl) (bt (by kernel_rfl)) (fun s xs X h1 h2=>?_) (oB Γ hsys hb hc)
 rcases xs with _ | ⟨a0,_ | ⟨z,zs⟩⟩ <;> first | (exfalso; simp at h1 h2; done) | exact ⟨[],fun h G=>.nil,BindsTo.of_eq rfl⟩
theorem u0 : cv prog w B (b + 1) (.ref 92) (aP 1 5 [] (gd c)):=by
 refine cn (sg:=lJ) (ps:=["tree"]) (dfl:=[]) Γ sH (by kernel_rfl) (bt (by kernel_rfl)) (fun s xs X h1 h2=>?_) (ub Γ hsys hb hc)
 rcases xs with _ | ⟨a0,_ | ⟨z,zs⟩⟩ <;> first | (exfalso; simp at h1 h2; done) | exact ⟨[],fun h G=>.nil,BindsTo.of_eq rfl⟩
theorem mE : cv prog w B (b + 1) (.ref 106) (aP 2 2 [] (du c)):=by
 refine cn (sg:=gX) (ps:=["self", "tree"]) (dfl:=[]) Γ lr (by kernel_rfl) (bt (by kernel_rfl)) (fun s xs X h1 h2=>?_) (mA Γ hsys hb hc)
 rcases xs with _ | ⟨a0,_ | ⟨a1,_ | ⟨z,zs⟩⟩⟩ <;> first | (exfalso; simp at h1 h2; done) | exact ⟨[],fun h G=>.nil,BindsTo.of_eq rfl⟩
theorem jK : cv prog w B (b + 1) (.ref 113) (aP 2 2 [] (cO c)):=by
 refine cn (sg:=fN) (ps:=["self", "node"]) (dfl:=[]) Γ ji (by kernel_rfl) (bt (by kernel_rfl)) (fun s xs X h1 h2=>?_) (jF Γ hsys hb hc)
 rcases xs with _ | ⟨a0,_ | ⟨a1,_ | ⟨z,zs⟩⟩⟩ <;> first | (exfalso; simp at h1 h2; done) | exact ⟨[],fun h G=>.nil,BindsTo.of_eq rfl⟩
theorem Ds : cv prog w B (b + 1) (.ref 127) (aP 3 4 [] (nY c)):=by
 refine cn (sg:=w0) (ps:=["st", "node", "sure"]) (dfl:=[]) Γ Cw (by kernel_rfl) (bt (by kernel_rfl)) (fun s xs X h1 h2=>?_) (D1 Γ hsys hb hc)
 rcases xs with _ | ⟨a0,_ | ⟨a1,_ | ⟨a2,_ | ⟨z,zs⟩⟩⟩⟩ <;> first | (exfalso; simp at h1 h2; done) | exact ⟨[],fun h G=>.nil,BindsTo.of_eq rfl⟩
theorem qr : cv prog w B (b + 1) (.ref 134) (aP 3 4 [] (e7 c)):=by
 refine cn (sg:=jl) (ps:=["st", "node", "sure"]) (dfl:=[]) Γ oN (by kernel_rfl) (bt (by kernel_rfl)) (fun s xs X h1 h2=>?_) (p6 Γ hsys hb hc)
 rcases xs with _ | ⟨a0,_ | ⟨a1,_ | ⟨a2,_ | ⟨z,zs⟩⟩⟩⟩ <;> first | (exfalso; simp at h1 h2; done) | exact ⟨[],fun h G=>.nil,BindsTo.of_eq rfl⟩
theorem qY : cv prog w B (b + 1) (.ref 141) (aP 3 4 [] (e8 c)):=by
 refine cn (sg:=jn) (ps:=["st", "node", "sure"]) (dfl:=[]) Γ oz (by kernel_rfl) (bt (by kernel_rfl)) (fun s xs X h1 h2=>?_) (q6 Γ hsys hb hc)
 rcases xs with _ | ⟨a0,_ | ⟨a1,_ | ⟨a2,_ | ⟨z,zs⟩⟩⟩⟩ <;> first | (exfalso; simp at h1 h2; done) | exact ⟨[],fun h G=>.nil,BindsTo.of_eq rfl⟩
theorem pV : cv prog w B (b + 1) (.ref 148) (aP 3 4 [] (cT c)):=by
 refine cn (sg:=jj) (ps:=["st", "node", "sure"]) (dfl:=[]) Γ oC (by kernel_rfl) (bt (by kernel_rfl)) (fun s xs X h1 h2=>?_) (qK Γ hsys hb hc)
 rcases xs with _ | ⟨a0,_ | ⟨a1,_ | ⟨a2,_ | ⟨z,zs⟩⟩⟩⟩ <;> first | (exfalso; simp at h1 h2; done) | exact ⟨[],fun h G=>.nil,BindsTo.of_eq rfl⟩
theorem sm : cv prog w B (b + 1) (.ref 155) (aP 3 8 [] (fF c)):=by
 refine cn (sg:=kt) (ps:=["st", "node", "sure"]) (dfl:=[]) Γ p9 (by kernel_rfl) (bt (by kernel_rfl)) (fun s xs X h1 h2=>?_) (sf Γ hsys hb hc)
 rcases xs with _ | ⟨a0,_ | ⟨a1,_ | ⟨a2,_ | ⟨z,zs⟩⟩⟩⟩ <;> first | (exfalso; simp at h1 h2; done) | exact ⟨[],fun h G=>.nil,BindsTo.of_eq rfl⟩
theorem vf : cv prog w B (b + 1) (.ref 162) (aP 3 5 [] (gh c)):=by
 refine cn (sg:=lL) (ps:=["st", "node", "sure"]) (dfl:=[]) Γ rM (by kernel_rfl) (bt (by kernel_rfl)) (fun s xs X h1 h2=>?_) (vp Γ hsys hb hc)
 rcases xs with _ | ⟨a0,_ | ⟨a1,_ | ⟨a2,_ | ⟨z,zs⟩⟩⟩⟩ <;> first | (exfalso; simp at h1 h2; done) | exact ⟨[],fun h G=>.nil,BindsTo.of_eq rfl⟩
theorem oH : cv prog w B (b + 1) (.ref 169) (aP 3 6 [] (dw c)):=by
 refine cn (sg:=iM) (ps:=["st", "node", "sure"]) (dfl:=[]) Γ nq (by kernel_rfl) (bt (by kernel_rfl)) (fun s xs X h1 h2=>?_) (oX Γ hsys hb hc)
 rcases xs with _ | ⟨a0,_ | ⟨a1,_ | ⟨a2,_ | ⟨z,zs⟩⟩⟩⟩ <;> first | (exfalso; simp at h1 h2; done) | exact ⟨[],fun h G=>.nil,BindsTo.of_eq rfl⟩
theorem pR : cv prog w B (b + 1) (.ref 176) (aP 3 4 [] (eS c)):=by
 refine cn (sg:=jp) (ps:=["st", "node", "sure"]) (dfl:=[]) Γ oP (by kernel_rfl) (bt (by kernel_rfl)) (fun s xs X h1 h2=>?_) (p7 Γ hsys hb hc)
 rcases xs with _ | ⟨a0,_ | ⟨a1,_ | ⟨a2,_ | ⟨z,zs⟩⟩⟩⟩ <;> first | (exfalso; simp at h1 h2; done) | exact ⟨[],fun h G=>.nil,BindsTo.of_eq rfl⟩
theorem ur : cv prog w B (b + 1) (.ref 183) (aP 3 7 [] (f9 c)):=by
 refine cn (sg:=lQ) (ps:=["st", "node", "sure"]) (dfl:=[]) Γ rU (by kernel_rfl) (bt (by kernel_rfl)) (fun s xs X h1 h2=>?_) (vR Γ hsys hb hc)
 rcases xs with _ | ⟨a0,_ | ⟨a1,_ | ⟨a2,_ | ⟨z,zs⟩⟩⟩⟩ <;> first | (exfalso; simp at h1 h2; done) | exact ⟨[],fun h G=>.nil,BindsTo.of_eq rfl⟩
theorem r8 : cv prog w B (b + 1) (.ref 190) (aP 3 5 [] (fE c)):=by
 refine cn (sg:=kC) (ps:=["st", "node", "sure"]) (dfl:=[]) Γ pN (by kernel_rfl) (bt (by kernel_rfl)) (fun s xs X h1 h2=>?_) (rQ Γ hsys hb hc)
 rcases xs with _ | ⟨a0,_ | ⟨a1,_ | ⟨a2,_ | ⟨z,zs⟩⟩⟩⟩ <;> first | (exfalso; simp at h1 h2; done) | exact ⟨[],fun h G=>.nil,BindsTo.of_eq rfl⟩
theorem kW : cv prog w B (b + 1) (.ref 197) (aP 3 5 [] (bj c)):=by
 refine cn (sg:=gw) (ps:=["st", "node", "sure"]) (dfl:=[]) Γ j6 (by kernel_rfl) (bt (by kernel_rfl)) (fun s xs X h1 h2=>?_) (kU Γ hsys hb hc)
 rcases xs with _ | ⟨a0,_ | ⟨a1,_ | ⟨a2,_ | ⟨z,zs⟩⟩⟩⟩ <;> first | (exfalso; simp at h1 h2; done) | exact ⟨[],fun h G=>.nil,BindsTo.of_eq rfl⟩
theorem qy : cv prog w B (b + 1) (.ref 202) (aP 1 3 [] (eI c)):=by
 refine pZ (sg:=jo) (ps:=["tree"]) Γ oG (by kernel_rfl) (kB (by kernel_rfl)) (fun xs h=>?_) (q8 Γ hsys hb hc)
 rcases xs with _ | ⟨a0,_ | ⟨z,zs⟩⟩
 all_goals first | rfl | (exfalso; simp at h)
theorem rm : cv prog w B (b + 1) (.ref 216) (aP 4 4 [] (gy c)):=by
 refine cn (sg:=j0) (ps:=["self", "number", "form", "size"]) (dfl:=[]) Γ pQ (by kernel_rfl) (bt (by kernel_rfl)) (fun s xs X h1 h2=>?_) (rW Γ hsys hb hc)
 rcases xs with _ | ⟨a0,_ | ⟨a1,_ | ⟨a2,_ | ⟨a3,_ | ⟨z,zs⟩⟩⟩⟩⟩ <;> first | (exfalso; simp at h1 h2; done) | exact ⟨[],fun h G=>.nil,BindsTo.of_eq rfl⟩
theorem vA : cv prog w B (b + 1) (.ref 237) (aP 5 5 [] (hZ c)):=by
 refine cn (sg:=lO) (ps:=["self", "name", "kind", "type_of", "place"]) (dfl:=[]) Γ tG (by kernel_rfl) (bt (by kernel_rfl)) (fun s xs X h1 h2=>?_) (uZ Γ hsys hb hc)
 rcases xs with _ | ⟨a0,_ | ⟨a1,_ | ⟨a2,_ | ⟨a3,_ | ⟨a4,_ | ⟨z,zs⟩⟩⟩⟩⟩⟩ <;> first | (exfalso; simp at h1 h2; done) | exact ⟨[],fun h G=>.nil,BindsTo.of_eq rfl⟩
theorem qD : cv prog w B (b + 1) (.ref 258) (aP 1 1 [] (fW c)):=by
 refine cn (sg:=ju) (ps:=["self"]) (dfl:=[]) Γ oY (by kernel_rfl) (bt (by kernel_rfl)) (fun s xs X h1 h2=>?_) (pO Γ hsys hb hc)
 rcases xs with _ | ⟨a0,_ | ⟨z,zs⟩⟩ <;> first | (exfalso; simp at h1 h2; done) | exact ⟨[],fun h G=>.nil,BindsTo.of_eq rfl⟩
theorem sV : cv prog w B (b + 1) (.ref 266) (aP 5 6 [.str "",.str ""] (gx c)):=by
 refine cn (sg:=jT) (ps:=["self", "form", "size", "module", "label"]) (dfl:=[.str "",.str ""]) Γ qA (by kernel_rfl) (bt (by kernel_rfl)) (fun s xs X h1 h2=>?_) (rK Γ hsys hb hc)
 rcases xs with _ | ⟨a0,_ | ⟨a1,_ | ⟨a2,_ | ⟨a3,_ | ⟨a4,_ | ⟨z,zs⟩⟩⟩⟩⟩⟩ <;> first | (exfalso; simp at h1 h2; done) | exact ⟨[.str "" 589,.str "" 590],fun h G=>(.cons (.str ..) (.cons (.str ..) .nil)),BindsTo.of_defaults rfl (X 259 (ot P) (by kernel_rfl)) rfl rfl rfl⟩ | exact ⟨[.str "" 590],fun h G=>(.cons (.str ..) .nil),BindsTo.of_defaults rfl (X 259 (ot P) (by kernel_rfl)) rfl rfl rfl⟩ | exact ⟨[],fun h G=>.nil,BindsTo.of_defaults rfl (X 259 (ot P) (by kernel_rfl)) rfl rfl rfl⟩
theorem vT : cv prog w B (b + 1) (.ref 287) (aP 1 5 [] (f8 c)):=by
 refine cn (sg:=lF) (ps:=["script"]) (dfl:=[]) Γ th (by kernel_rfl) (bt (by kernel_rfl)) (fun s xs X h1 h2=>?_) (vo Γ hsys hb hc)
 rcases xs with _ | ⟨a0,_ | ⟨z,zs⟩⟩ <;> first | (exfalso; simp at h1 h2; done) | exact ⟨[],fun h G=>.nil,BindsTo.of_eq rfl⟩
theorem um : cv prog w B (b + 1) (.ref 294) (aP 2 2 [] (f7 c)):=by
 refine cn (sg:=lG) (ps:=["pool", "bound_at"]) (dfl:=[]) Γ rD (by kernel_rfl) (bt (by kernel_rfl)) (fun s xs X h1 h2=>?_) (vJ Γ hsys hb hc)
 rcases xs with _ | ⟨a0,_ | ⟨a1,_ | ⟨z,zs⟩⟩⟩ <;> first | (exfalso; simp at h1 h2; done) | exact ⟨[],fun h G=>.nil,BindsTo.of_eq rfl⟩
theorem sB : cv prog w B (b + 1) (.ref 301) (aP 1 1 [] (gz c)):=by
 refine cn (sg:=jQ) (ps:=["book"]) (dfl:=[]) Γ p0 (by kernel_rfl) (bt (by kernel_rfl)) (fun s xs X h1 h2=>?_) (sL Γ hsys hb hc)
 rcases xs with _ | ⟨a0,_ | ⟨z,zs⟩⟩ <;> first | (exfalso; simp at h1 h2; done) | exact ⟨[],fun h G=>.nil,BindsTo.of_eq rfl⟩
theorem xb : cv prog w B (b + 1) (.ref 308) (aP 2 2 [] (gQ c)):=by
 refine cn (sg:=nN) (ps:=["book", "spot"]) (dfl:=[]) Γ uA (by kernel_rfl) (bt (by kernel_rfl)) (fun s xs X h1 h2=>?_) (xV Γ hsys hb hc)
 rcases xs with _ | ⟨a0,_ | ⟨a1,_ | ⟨z,zs⟩⟩⟩ <;> first | (exfalso; simp at h1 h2; done) | exact ⟨[],fun h G=>.nil,BindsTo.of_eq rfl⟩
theorem sD : cv prog w B (b + 1) (.ref 315) (aP 2 4 [] (fz c)):=by
 refine cn (sg:=jO) (ps:=["book", "pool"]) (dfl:=[]) Γ qN (by kernel_rfl) (bt (by kernel_rfl)) (fun s xs X h1 h2=>?_) (si Γ hsys hb hc)
 rcases xs with _ | ⟨a0,_ | ⟨a1,_ | ⟨z,zs⟩⟩⟩ <;> first | (exfalso; simp at h1 h2; done) | exact ⟨[],fun h G=>.nil,BindsTo.of_eq rfl⟩
theorem vH : cv prog w B (b + 1) (.ref 322) (aP 2 6 [] (fZ c)):=by
 refine cn (sg:=mh) (ps:=["book", "pool"]) (dfl:=[]) Γ sE (by kernel_rfl) (bt (by kernel_rfl)) (fun s xs X h1 h2=>?_) (uL Γ hsys hb hc)
 rcases xs with _ | ⟨a0,_ | ⟨a1,_ | ⟨z,zs⟩⟩⟩ <;> first | (exfalso; simp at h1 h2; done) | exact ⟨[],fun h G=>.nil,BindsTo.of_eq rfl⟩
theorem sp : cv prog w B (b + 1) (.ref 327) (aP 3 4 [] (fC c)):=by
 refine pZ (sg:=kG) (ps:=["book", "pool", "deep"]) Γ qj (by kernel_rfl) (kB (by kernel_rfl)) (fun xs h=>?_) (sA Γ hsys hb hc)
 rcases xs with _ | ⟨a0,_ | ⟨a1,_ | ⟨a2,_ | ⟨z,zs⟩⟩⟩⟩
 all_goals first | rfl | (exfalso; simp at h)
theorem vI : cv prog w B (b + 1) (.ref 334) (aP 4 6 [] (f6 c)):=by
 refine cn (sg:=lY) (ps:=["book", "pool", "deep", "count"]) (dfl:=[]) Γ rA (by kernel_rfl) (bt (by kernel_rfl)) (fun s xs X h1 h2=>?_) (uw Γ hsys hb hc)
 rcases xs with _ | ⟨a0,_ | ⟨a1,_ | ⟨a2,_ | ⟨a3,_ | ⟨z,zs⟩⟩⟩⟩⟩ <;> first | (exfalso; simp at h1 h2; done) | exact ⟨[],fun h G=>.nil,BindsTo.of_eq rfl⟩
theorem vV : cv prog w B (b + 1) (.ref 341) (aP 3 13 [] (f4 c)):=by
 refine cn (sg:=mn) (ps:=["book", "pool", "deep"]) (dfl:=[]) Γ sM (by kernel_rfl) (bt (by kernel_rfl)) (fun s xs X h1 h2=>?_) (vt Γ hsys hb hc)
 rcases xs with _ | ⟨a0,_ | ⟨a1,_ | ⟨a2,_ | ⟨z,zs⟩⟩⟩⟩ <;> first | (exfalso; simp at h1 h2; done) | exact ⟨[],fun h G=>.nil,BindsTo.of_eq rfl⟩
theorem vF : cv prog w B (b + 1) (.ref 348) (aP 3 5 [] (eu c)):=by
 refine cn (sg:=lV) (ps:=["node", "states", "hits"]) (dfl:=[]) Γ sU (by kernel_rfl) (bt (by kernel_rfl)) (fun s xs X h1 h2=>?_) (uE Γ hsys hb hc)
 rcases xs with _ | ⟨a0,_ | ⟨a1,_ | ⟨a2,_ | ⟨z,zs⟩⟩⟩⟩ <;> first | (exfalso; simp at h1 h2; done) | exact ⟨[],fun h G=>.nil,BindsTo.of_eq rfl⟩
theorem qE : cv prog w B (b + 1) (.ref 353) (aP 2 5 [] (eJ c)):=by
 refine pZ (sg:=jr) (ps:=["states", "spot"]) Γ oQ (by kernel_rfl) (kB (by kernel_rfl)) (fun xs h=>?_) (qS Γ hsys hb hc)
 rcases xs with _ | ⟨a0,_ | ⟨a1,_ | ⟨z,zs⟩⟩⟩
 all_goals first | rfl | (exfalso; simp at h)
theorem qW : cv prog w B (b + 1) (.ref 358) (aP 2 2 [] (eL c)):=by
 refine pZ (sg:=jk) (ps:=["one", "other"]) Γ oU (by kernel_rfl) (kB (by kernel_rfl)) (fun xs h=>?_) (q0 Γ hsys hb hc)
 rcases xs with _ | ⟨a0,_ | ⟨a1,_ | ⟨z,zs⟩⟩⟩
 all_goals first | rfl | (exfalso; simp at h)
theorem u9 : cv prog w B (b + 1) (.ref 365) (aP 3 8 [] (cg c)):=by
 refine cn (sg:=l9) (ps:=["node", "states", "hits"]) (dfl:=[]) Γ s7 (by kernel_rfl) (bt (by kernel_rfl)) (fun s xs X h1 h2=>?_) (ux Γ hsys hb hc)
 rcases xs with _ | ⟨a0,_ | ⟨a1,_ | ⟨a2,_ | ⟨z,zs⟩⟩⟩⟩ <;> first | (exfalso; simp at h1 h2; done) | exact ⟨[],fun h G=>.nil,BindsTo.of_eq rfl⟩
theorem r6 : cv prog w B (b + 1) (.ref 372) (aP 3 7 [] (dO c)):=by
 refine cn (sg:=kf) (ps:=["node", "states", "hits"]) (dfl:=[]) Γ qg (by kernel_rfl) (bt (by kernel_rfl)) (fun s xs X h1 h2=>?_) (td Γ hsys hb hc)
 rcases xs with _ | ⟨a0,_ | ⟨a1,_ | ⟨a2,_ | ⟨z,zs⟩⟩⟩⟩ <;> first | (exfalso; simp at h1 h2; done) | exact ⟨[],fun h G=>.nil,BindsTo.of_eq rfl⟩
theorem Gm : cv prog w B (b + 1) (.ref 379) (aP 1 16 [] (sn c)):=by
 refine cn (sg:=zh) (ps:=["script"]) (dfl:=[]) Γ Eb (by kernel_rfl) (bt (by kernel_rfl)) (fun s xs X h1 h2=>?_) (E4 Γ hsys hb hc)
 rcases xs with _ | ⟨a0,_ | ⟨z,zs⟩⟩ <;> first | (exfalso; simp at h1 h2; done) | exact ⟨[],fun h G=>.nil,BindsTo.of_eq rfl⟩
end
theorem yX (Γ : Gl (kF P) B p loose mg mb) (hsys : ∃ o,B.get? sysModules = some o) (hb : 9 ≤ b) {c : Fn → List ae → Mo ae} (hc : ∀ g,cv prog w B b (.ref (n8 g)) (c g)) : ∀ g,cv prog w B (b + 2) (.ref (n8 g)) (mr c g)
 | .Node=>pk (C:=32) (f:=29) Γ (by kernel_rfl) (by kernel_rfl) (by kernel_rfl) (sC Γ hsys hb hc)
 | .f_const=>(Bv Γ hsys hb hc).mono (Nat.le_succ _)
 | .ProcTree=>pk (C:=60) (f:=57) Γ (by kernel_rfl) (by kernel_rfl) (by kernel_rfl) (mq Γ hsys hb hc)
 | .f_nodes_of=>(ut Γ hsys hb hc).mono (Nat.le_succ _)
 | .f_is_scalar=>(sZ Γ hsys hb hc).mono (Nat.le_succ _)
 | .f_inner_nodes=>(oO Γ hsys hb hc).mono (Nat.le_succ _)
 | .f_followed=>(u0 Γ hsys hb hc).mono (Nat.le_succ _)
 | .Follower=>pk (C:=116) (f:=106) Γ (by kernel_rfl) (by kernel_rfl) (by kernel_rfl) (mE Γ hsys hb hc)
 | .slot_of=>(jK Γ hsys hb hc).mono (Nat.le_succ _)
 | .f_used=>(Ds Γ hsys hb hc).mono (Nat.le_succ _)
 | .f_with_store=>(qr Γ hsys hb hc).mono (Nat.le_succ _)
 | .f_place_uses=>(qY Γ hsys hb hc).mono (Nat.le_succ _)
 | .f_value_uses=>(pV Γ hsys hb hc).mono (Nat.le_succ _)
 | .f_call_uses=>(sm Γ hsys hb hc).mono (Nat.le_succ _)
 | .f_std_uses=>(vf Γ hsys hb hc).mono (Nat.le_succ _)
 | .f_branch_uses=>(oH Γ hsys hb hc).mono (Nat.le_succ _)
 | .f_while_uses=>(pR Γ hsys hb hc).mono (Nat.le_succ _)
 | .f_for_uses=>(ur Γ hsys hb hc).mono (Nat.le_succ _)
 | .f_case_uses=>(r8 Γ hsys hb hc).mono (Nat.le_succ _)
 | .f_statement_uses=>(kW Γ hsys hb hc).mono (Nat.le_succ _)
 | .f_unset_uses=>(qy Γ hsys hb hc).mono (Nat.le_succ _)
 | .Type=>pk (C:=219) (f:=216) Γ (by kernel_rfl) (by kernel_rfl) (by kernel_rfl) (rm Γ hsys hb hc)
 | .Obj=>pk (C:=240) (f:=237) Γ (by kernel_rfl) (by kernel_rfl) (by kernel_rfl) (vA Γ hsys hb hc)
 | .Types=>pk (C:=276) (f:=258) Γ (by kernel_rfl) (by kernel_rfl) (by kernel_rfl) (qD Γ hsys hb hc)
 | .tnew=>(sV Γ hsys hb hc).mono (Nat.le_succ _)
 | .f_law_pool=>(vT Γ hsys hb hc).mono (Nat.le_succ _)
 | .f_law_draw=>(um Γ hsys hb hc).mono (Nat.le_succ _)
 | .f_law_place=>(sB Γ hsys hb hc).mono (Nat.le_succ _)
 | .f_law_var=>(xb Γ hsys hb hc).mono (Nat.le_succ _)
 | .f_law_value=>(sD Γ hsys hb hc).mono (Nat.le_succ _)
 | .f_law_test=>(vH Γ hsys hb hc).mono (Nat.le_succ _)
 | .f_law_block=>(sp Γ hsys hb hc).mono (Nat.le_succ _)
 | .f_law_arms=>(vI Γ hsys hb hc).mono (Nat.le_succ _)
 | .f_law_deed=>(vV Γ hsys hb hc).mono (Nat.le_succ _)
 | .f_law_uses=>(vF Γ hsys hb hc).mono (Nat.le_succ _)
 | .f_law_stored=>(qE Γ hsys hb hc).mono (Nat.le_succ _)
 | .f_law_joined=>(qW Γ hsys hb hc).mono (Nat.le_succ _)
 | .f_law_ways=>(u9 Γ hsys hb hc).mono (Nat.le_succ _)
 | .f_law_turns=>(r6 Γ hsys hb hc).mono (Nat.le_succ _)
 | .f_law=>(Gm Γ hsys hb hc).mono (Nat.le_succ _)
theorem wm (Γ : Gl (kF P) B p loose mg mb) (hsys : ∃ o,B.get? sysModules = some o) : ∀ (d : Nat) (g : Fn),cv prog w B (2 * d + 9) (.ref (n8 g)) (sem d g)
 | 0,g=>fun A s G M xs as r M' R C rs e=>(nomatch e)
 | d + 1,g=>(yX Γ hsys (Nat.le_add_left _ _) (wm Γ hsys d) g).mono (Ko)
end
end Mine
end
section
namespace Mine
theorem D9 (P : Params) : nsIn (kF P) mainGlobals "law" = some (some (.ref 379)):=by kernel_rfl
noncomputable def G0 (h : Heap) : Gh:=⟨fun a=>if (h.get? a).isSome then .base else .free,[]⟩
theorem FV (prog : Program) (w : World) (h : Heap) : bI prog w h h (G0 h) [] where
 base b o e:=⟨by show (if _ then _ else _) = _; rw [e]; rfl,e⟩
 live a:=by
  show (if _ then _ else _) = _ ∨ _
  cases e : h.get? a with
  | none=>exact .inl rfl
  | some o=>exact .inr ⟨o,rfl⟩
 len:=rfl
 muts i o e:=by simp at e
 size:=Nat.le_refl _
theorem zx (plain : ∀ ns : List Int,ns.length ≤ 63 → ∃ M',sem 200 .f_law [.lst (ns.map .int)] [] = some (.bool true,M'))
  {w : World} {s : Shared} {mg mb : Str → Option Value} {p : Program} {loose : List Str} (prog : Program) (Γ : Gl (kF w.params) s.heap p loose mg mb) (hsys : ∃ o,s.heap.get? sysModules = some o)
  {a : Addr} {vs : List Value} {ns : List Int} (hl : s.heap.IsList a vs.toArray) (hI : IntsAre vs ns) (hn : ns.length ≤ 63) {A : Around} (R : eV A 409) {Q E : Value → Shared → Prop}
  (h : ∀ h' tk',(∀ b o,s.heap.get? b = some o → h'.get? b = some o) → Q (.bool true) { s with heap:=h',toks:=tk' }) :
  wpAny (model prog w) A (call (.ref 379) [.ref a]) Q E s:=by
 obtain ⟨M',e⟩:=plain ns hn
 have k:=(wm (prog:=prog) (w:=w) Γ hsys 200 .f_law).call
 have hs : ((G0 s.heap).tag a).solid = true:=by
  obtain ⟨o,ho,_⟩:=hl
  show (if _ then _ else _ : Tag).solid = true
  rw [ho]; rfl
 refine k A s (G0 s.heap) [] [.ref a] _ _ M' R (FV prog w s.heap) (.cons (.lst hs hl (pt hI)) .nil) e _ _ fun h' tk' G' x C X r=>?_
 cases r
 exact h h' tk' fun b o e=>(C.base b o e).2
set_option maxHeartbeats 8000000 in
set_option tactic.hygienic true in
theorem claim_of (left : LeftO PySem.Challenge.pw_pb0345_01 mu [] (fun s=>xlAt mu [] s && recOk (RowW.records (OpenRow.toRowW (OpenLaw.row PySem.Challenge.rw_pb0345_01))) s) (Hook.obs hk) (Hook.val hk) 5270)
  (plain : ∀ ns : List Int,ns.length ≤ 63 → ∃ M',sem 200 .f_law [.lst (ns.map .int)] [] = some (.bool true,M')) : PySem.Challenge.rw_pb0345_01.Holds:=by
 w_on
 refine holds_law Gb fun Gb=>?_
 refine holds_open (q:=mu) (loose:=[]) (Xt:=fun s=>xlAt mu [] s && recOk (RowW.records (OpenRow.toRowW (OpenLaw.row PySem.Challenge.rw_pb0345_01))) s) (XP:=XL mu []) (Yf:=Hook.obs hk) (Ya:=Hook.val hk) (YP:=Hook.says hk) (N:=5270) left (Hook.of hk) (Hook.keeps hk) (fun s e=>xl_of s (Bool.and_eq_true_iff.mp e).1) XL.keeps (by rfl) (by rfl) (by rfl) (fun s e=>recFacts_of (Bool.and_eq_true_iff.mp e).2) (by rfl) (by first | assumption | decide +kernel) (by decide +kernel) ⟨rfl,rfl,rfl,rfl,rfl,by decide +kernel⟩ ?hw ?hc
 case hw=>w_witness2
 case hc=>
  intro w s₀ s₁ mg mb G Y fa o pm cd doc dV kV ho hd hcd hD hmg hg args vals as hpre hlay hrd hwl hlo
  have KX:=kIn_of Y
  refine Ground.open G ?_
  intro T B D TE TW
  have fin : ∀ (ns : List Int) (a : Addr) (vs : List Value),s₁.heap.IsList a vs.toArray → IntsAre vs ns → ns.length ≤ 63 →
    wpAny (model PySem.Challenge.pw_pb0345_01 w) callerA (call (.ref fa) [.ref a]) (fun v s'=>GoodWG PySem.Challenge.rw_pb0345_01.row.claim (classAt s₀.heap) (ExcName.means s₀.heap) [ofPy (PyData.list (ns.map PyData.int))] s₁ (Except.ok (.ret v)) s')
     (fun e s'=>GoodWG PySem.Challenge.rw_pb0345_01.row.claim (classAt s₀.heap) (ExcName.means s₀.heap) [ofPy (PyData.list (ns.map PyData.int))] s₁ (Except.error e) s') s₁:=by
   intro ns a vs hl hI hn
   have GG : Gl (kF w.params) s₁.heap mu (looseW mu []) mg mb:=⟨KX,topRead_of T⟩
   have hfa : fa = 379:=by
    have h1:=mg_of KX T.g (D9 w.params)
    have h2 : mg "law" = some (.ref fa):=hmg
    rw [h2] at h1; cases h1; rfl
   subst hfa
   have hsys : ∃ o,s₁.heap.get? sysModules = some o:=by
    have:=(Top.seer T (by decide +kernel)).mods
    obtain ⟨mm,⟨o,es,ep,e,r⟩,_⟩:=this
    exact ⟨o,e⟩
   refine zx plain _ GG hsys hl hI hn ⟨rfl,by decide,by decide⟩ fun h' tk' keep=>?_
   exact ⟨.inl ⟨_,.bool true,[],rfl,fun _=>rfl,.bool true,by kernel_rfl,fun _=>⟨List.nodup_nil,fun _ h=>nomatch h⟩⟩,.of_keep keep,rfl,.of_eq hg⟩
  wrow_args hpre hlay hrd hwl hlo
  rename_i ns _ _ _ _ _ _ _ _ _ hL _ _ _ hI _ hc1 _
  exact fin _ _ _ hL hI (by omega)
end Mine
end
section
namespace Mine
theorem ii {a b : Prop} (h : a ↔ b) (x : b) : a:=h.mpr x
theorem ro {a b : Prop} (h : a = b) (x : b) : a:=h.mpr x
theorem ifp {c : Prop} [Decidable c] {a b : Prop} (h : c) (x : a) : if c then a else b:=(if_pos h).mpr x
theorem ifn {c : Prop} [Decidable c] {a b : Prop} (h : ¬ c) (x : b) : if c then a else b:=(if_neg h).mpr x
noncomputable def W {α : Type} (m : Mo α) (M : List ah) (Q : α → List ah → Prop) : Prop:=∃ a M',m M = some (a,M') ∧ Q a M'
theorem wr {α : Type} {m : Mo α} {M M1 : List ah} {Q : α → List ah → Prop} {a : α} (h : m M = some (a,M1)) (x : Q a M1) : W m M Q:=⟨a,M1,h,x⟩
section
variable {α β : Type} {M : List ah}
theorem cb {a : α} {Q : α → List ah → Prop} : W (ret a) M Q ↔ Q a M:=⟨fun ⟨_,_,e,q⟩=>by cases e; exact q,fun q=>⟨_,_,rfl,q⟩⟩
theorem KP {a : α} {Q : α → List ah → Prop} (xx : Q a M) : W (ret a) M Q:=(cb (a:=a) (Q:=Q)).mpr xx
theorem ca {m : Mo α} {f : α → Mo β} {Q : β → List ah → Prop} : W (bnd m f) M Q ↔ W m M (fun a M'=>W (f a) M' Q):=by
 constructor
 ·rintro ⟨b,M2,e,q⟩
  obtain ⟨a,M1,e1,e2⟩:=aL e
  exact ⟨a,M1,e1,b,M2,e2,q⟩
 ·rintro ⟨a,M1,e1,b,M2,e2,q⟩
  exact ⟨b,M2,by rw [qf e1]; exact e2,q⟩
theorem wJ {m : Mo α} {f : α → Mo β} {Q : β → List ah → Prop} (xx : W m M (fun a M'=>W (f a) M' Q)) : W (bnd m f) M Q:=(ca (m:=m) (f:=f) (Q:=Q)).mpr xx
theorem vd {m : Mo α} {a : α} {M' : List ah} {Q : α → List ah → Prop} (e : m M = some (a,M')) (q : Q a M') : W m M Q:=⟨a,M',e,q⟩
theorem bJ {m : Mo α} {a : α} {M' : List ah} {Q : α → List ah → Prop} (e : m M = some (a,M')) : W m M Q ↔ Q a M':=⟨fun ⟨_,_,e',q⟩=>by rw [e] at e'; cases e'; exact q,fun q=>⟨a,M',e,q⟩⟩
theorem gm {m : Mo α} {a : α} {M' : List ah} {Q : α → List ah → Prop} (e : m M = some (a,M')) (xx : Q a M') : W m M Q:=(bJ (m:=m) (a:=a) (M':=M') (Q:=Q) (e:=e)).mpr xx
theorem b8 {m : Mo α} {Q Q' : α → List ah → Prop} (h : W m M Q) (k : ∀ a M',Q a M' → Q' a M') : W m M Q':=let ⟨a,M',e,q⟩:=h; ⟨a,M',e,k _ _ q⟩
theorem bU {i : Nat} {loc : Loc} {v : ae} {Q : ae → List ah → Prop} (h : loc[i]? = some (some v)) : W (af i loc) M Q ↔ Q v M:=bJ (by unfold af; rw [h])
theorem ao {i : Nat} {loc : Loc} {v : ae} {Q : ae → List ah → Prop} (h : loc[i]? = some (some v)) (xx : Q v M) : W (af i loc) M Q:=(bU (i:=i) (loc:=loc) (v:=v) (Q:=Q) (h:=h)).mpr xx
theorem dv {a : ae} {loc : Loc} {Q : ae → List ah → Prop} : W (ar a loc) M Q ↔ Q a M:=cb
theorem aR {a : ae} {loc : Loc} {Q : ae → List ah → Prop} (xx : Q a M) : W (ar a loc) M Q:=(dv (a:=a) (loc:=loc) (Q:=Q)).mpr xx
theorem dL {f : ae → ae → Mo ae} {l r : Loc → Mo ae} {loc : Loc} {Q : ae → List ah → Prop} : W (aE f l r loc) M Q ↔ W (l loc) M fun a M1=>W (r loc) M1 fun c M2=>W (f a c) M2 Q:=by
 unfold aE; rw [ca]; simp only [ca]
theorem aU {f : ae → ae → Mo ae} {l r : Loc → Mo ae} {loc : Loc} {Q : ae → List ah → Prop} (xx : W (l loc) M fun a M1=>W (r loc) M1 fun c M2=>W (f a c) M2 Q) : W (aE f l r loc) M Q:=(dL (f:=f) (l:=l) (r:=r) (loc:=loc) (Q:=Q)).mpr xx
theorem dN {f : ae → Mo ae} {l : Loc → Mo ae} {loc : Loc} {Q : ae → List ah → Prop} : W (aS f l loc) M Q ↔ W (l loc) M fun a M1=>W (f a) M1 Q:=by
 unfold aS; rw [ca]
theorem ba {f : ae → Mo ae} {l : Loc → Mo ae} {loc : Loc} {Q : ae → List ah → Prop} (xx : W (l loc) M fun a M1=>W (f a) M1 Q) : W (aS f l loc) M Q:=(dN (f:=f) (l:=l) (loc:=loc) (Q:=Q)).mpr xx
theorem fR {loc : Loc} {Q : List ae → List ah → Prop} : W (am loc) M Q ↔ Q [] M:=cb
theorem av {loc : Loc} {Q : List ae → List ah → Prop} (xx : Q [] M) : W (am loc) M Q:=(fR (loc:=loc) (Q:=Q)).mpr xx
theorem fI {l : Loc → Mo ae} {ls : Loc → Mo (List ae)} {loc : Loc} {Q : List ae → List ah → Prop} : W (ab l ls loc) M Q ↔ W (l loc) M fun a M1=>W (ls loc) M1 fun as M2=>Q (a :: as) M2:=by
 unfold ab; rw [ca]; simp only [ca,cb]
theorem ag {l : Loc → Mo ae} {ls : Loc → Mo (List ae)} {loc : Loc} {Q : List ae → List ah → Prop} (xx : W (l loc) M fun a M1=>W (ls loc) M1 fun as M2=>Q (a :: as) M2) : W (ab l ls loc) M Q:=(fI (l:=l) (ls:=ls) (loc:=loc) (Q:=Q)).mpr xx
theorem qi {F : List ae → Mo ae} {ms : Loc → Mo (List ae)} {loc : Loc} {Q : ae → List ah → Prop} : W (aq F ms loc) M Q ↔ W (ms loc) M fun as M1=>W (F as) M1 Q:=by
 unfold aq; rw [ca]
theorem aA {F : List ae → Mo ae} {ms : Loc → Mo (List ae)} {loc : Loc} {Q : ae → List ah → Prop} (xx : W (ms loc) M fun as M1=>W (F as) M1 Q) : W (aq F ms loc) M Q:=(qi (F:=F) (ms:=ms) (loc:=loc) (Q:=Q)).mpr xx
theorem dP {l : Loc → Mo ae} {loc : Loc} {Q : Bool → List ah → Prop} : W (a6 l loc) M Q ↔ W (l loc) M fun a M1=>∃ b,a = .bool b ∧ Q b M1:=by
 unfold a6; rw [ca]
 constructor
 ·rintro ⟨a,M1,e,q⟩
  refine ⟨a,M1,e,?_⟩
  obtain ⟨b,M2,e2,q2⟩:=q
  cases a with
  | bool v=>cases e2; exact ⟨_,rfl,q2⟩
  | _=>cases e2
 ·rintro ⟨a,M1,e,b,rfl,q⟩
  exact ⟨_,M1,e,b,M1,rfl,q⟩
theorem bM {l : Loc → Mo ae} {loc : Loc} {Q : Bool → List ah → Prop} (xx : W (l loc) M fun a M1=>∃ b,a = .bool b ∧ Q b M1) : W (a6 l loc) M Q:=(dP (l:=l) (loc:=loc) (Q:=Q)).mpr xx
theorem Es {l : Loc → Mo Bool} {loc : Loc} {Q : Bool → List ah → Prop} : W (sJ l loc) M Q ↔ W (l loc) M fun a M1=>Q (!a) M1:=by
 unfold sJ; rw [ca]; simp only [cb]
theorem DM {l : Loc → Mo Bool} {loc : Loc} {Q : Bool → List ah → Prop} (xx : W (l loc) M fun a M1=>Q (!a) M1) : W (sJ l loc) M Q:=(Es (l:=l) (loc:=loc) (Q:=Q)).mpr xx
theorem vP {l r : Loc → Mo Bool} {loc : Loc} {Q : Bool → List ah → Prop} : W (kM l r loc) M Q ↔ W (l loc) M fun a M1=>if a then W (r loc) M1 Q else Q false M1:=by
 unfold kM; rw [ca]
 refine ⟨fun h=>b8 h fun a M1 q=>?_,fun h=>b8 h fun a M1 q=>?_⟩ <;> cases a <;> first | exact q | exact cb.mp q | exact cb.mpr q
theorem h8 {l r : Loc → Mo Bool} {loc : Loc} {Q : Bool → List ah → Prop} (xx : W (l loc) M fun a M1=>if a then W (r loc) M1 Q else Q false M1) : W (kM l r loc) M Q:=(vP (l:=l) (r:=r) (loc:=loc) (Q:=Q)).mpr xx
theorem Cx {l r : Loc → Mo Bool} {loc : Loc} {Q : Bool → List ah → Prop} : W (tOr l r loc) M Q ↔ W (l loc) M fun a M1=>if a then Q true M1 else W (r loc) M1 Q:=by
 unfold tOr; rw [ca]
 refine ⟨fun h=>b8 h fun a M1 q=>?_,fun h=>b8 h fun a M1 q=>?_⟩ <;> cases a <;> first | exact q | exact cb.mp q | exact cb.mpr q
theorem Cy {l r : Loc → Mo Bool} {loc : Loc} {Q : Bool → List ah → Prop} (xx : W (l loc) M fun a M1=>if a then Q true M1 else W (r loc) M1 Q) : W (tOr l r loc) M Q:=(Cx (l:=l) (r:=r) (loc:=loc) (Q:=Q)).mpr xx
theorem yd {c : Bool} {m n : Mo α} {Q : α → List ah → Prop} : W (if c then m else n) M Q ↔ if c then W m M Q else W n M Q:=by cases c <;> rfl
theorem KS {c : Bool} {m n : Mo α} {Q : α → List ah → Prop} (xx : if c then W m M Q else W n M Q) : W (if c then m else n) M Q:=(yd (c:=c) (m:=m) (n:=n) (Q:=Q)).mpr xx
theorem Dc {t : Loc → Mo Bool} {l r : Loc → Mo ae} {loc : Loc} {Q : ae → List ah → Prop} : W (eIf t l r loc) M Q ↔ W (t loc) M fun c M1=>if c then W (l loc) M1 Q else W (r loc) M1 Q:=by
 unfold eIf; rw [ca]; simp only [yd]
theorem tl {t : Loc → Mo Bool} {l r : Loc → Mo ae} {loc : Loc} {Q : ae → List ah → Prop} (xx : W (t loc) M fun c M1=>if c then W (l loc) M1 Q else W (r loc) M1 Q) : W (eIf t l r loc) M Q:=(Dc (t:=t) (l:=l) (r:=r) (loc:=loc) (Q:=Q)).mpr xx
theorem hJ {loc : Loc} {Q : Fl × Loc → List ah → Prop} : W (bE loc) M Q ↔ Q (.next,loc) M:=cb
theorem cB {loc : Loc} {Q : Fl × Loc → List ah → Prop} (xx : Q (.next,loc) M) : W (bE loc) M Q:=(hJ (loc:=loc) (Q:=Q)).mpr xx
theorem wY {m ms : Loc → Mo (Fl × Loc)} {loc : Loc} {Q : Fl × Loc → List ah → Prop} : W (au m ms loc) M Q ↔ W (m loc) M fun r M1=>match r.1 with
  | .next=>W (ms r.2) M1 Q
  | f=>Q (f,r.2) M1:=by
 unfold au; rw [ca]
 constructor
 ·intro h; refine b8 h fun r M1 q=>?_
  obtain ⟨f,l⟩:=r
  cases f <;> first | exact q | exact cb.mp q
 ·intro h; refine b8 h fun r M1 q=>?_
  obtain ⟨f,l⟩:=r
  cases f <;> first | exact q | exact cb.mpr q
theorem KR {m ms : Loc → Mo (Fl × Loc)} {loc : Loc} {Q : Fl × Loc → List ah → Prop} (xx : W (m loc) M fun r M1=>match r.1 with
  | .next=>W (ms r.2) M1 Q
  | f=>Q (f,r.2) M1) : W (au m ms loc) M Q:=(wY (m:=m) (ms:=ms) (loc:=loc) (Q:=Q)).mpr xx
theorem uP {i : Nat} {l : Loc → Mo ae} {loc : Loc} {Q : Fl × Loc → List ah → Prop} : W (a7 i l loc) M Q ↔ W (l loc) M fun a M1=>Q (.next,loc.set i (some a)) M1:=by
 unfold a7; rw [ca]; simp only [cb]
theorem aO {i : Nat} {l : Loc → Mo ae} {loc : Loc} {Q : Fl × Loc → List ah → Prop} (xx : W (l loc) M fun a M1=>Q (.next,loc.set i (some a)) M1) : W (a7 i l loc) M Q:=(uP (i:=i) (l:=l) (loc:=loc) (Q:=Q)).mpr xx
theorem Bd {l : Loc → Mo ae} {loc : Loc} {Q : Fl × Loc → List ah → Prop} : W (bw l loc) M Q ↔ W (l loc) M fun a M1=>Q (.next,loc) M1:=by
 unfold bw; rw [ca]; simp only [cb]
theorem bu {l : Loc → Mo ae} {loc : Loc} {Q : Fl × Loc → List ah → Prop} (xx : W (l loc) M fun a M1=>Q (.next,loc) M1) : W (bw l loc) M Q:=(Bd (l:=l) (loc:=loc) (Q:=Q)).mpr xx
theorem f5 {l : Loc → Mo ae} {loc : Loc} {Q : Fl × Loc → List ah → Prop} : W (bL l loc) M Q ↔ W (l loc) M fun a M1=>Q (.ret a,loc) M1:=by
 unfold bL; rw [ca]; simp only [cb]
theorem a8 {l : Loc → Mo ae} {loc : Loc} {Q : Fl × Loc → List ah → Prop} (xx : W (l loc) M fun a M1=>Q (.ret a,loc) M1) : W (bL l loc) M Q:=(f5 (l:=l) (loc:=loc) (Q:=Q)).mpr xx
theorem Ca {loc : Loc} {Q : Fl × Loc → List ah → Prop} : W (wA loc) M Q ↔ Q (.ret .none,loc) M:=cb
theorem By {loc : Loc} {Q : Fl × Loc → List ah → Prop} (xx : Q (.ret .none,loc) M) : W (wA loc) M Q:=(Ca (loc:=loc) (Q:=Q)).mpr xx
theorem Dz {loc : Loc} {Q : Fl × Loc → List ah → Prop} : W (yO loc) M Q ↔ Q (.brk,loc) M:=cb
theorem Ee {loc : Loc} {Q : Fl × Loc → List ah → Prop} (xx : Q (.brk,loc) M) : W (yO loc) M Q:=(Dz (loc:=loc) (Q:=Q)).mpr xx
theorem kc {t : Loc → Mo Bool} {m n : Loc → Mo (Fl × Loc)} {loc : Loc} {Q : Fl × Loc → List ah → Prop} : W (sIf t m n loc) M Q ↔ W (t loc) M fun c M1=>if c then W (m loc) M1 Q else W (n loc) M1 Q:=by
 unfold sIf; rw [ca]; simp only [yd]
theorem cG {t : Loc → Mo Bool} {m n : Loc → Mo (Fl × Loc)} {loc : Loc} {Q : Fl × Loc → List ah → Prop} (xx : W (t loc) M fun c M1=>if c then W (m loc) M1 Q else W (n loc) M1 Q) : W (sIf t m n loc) M Q:=(kc (t:=t) (m:=m) (n:=n) (loc:=loc) (Q:=Q)).mpr xx
theorem qI {f : ae → ae → Mo Unit} {o l : Loc → Mo ae} {loc : Loc} {Q : Fl × Loc → List ah → Prop} : W (bk f o l loc) M Q ↔ W (l loc) M fun v M1=>W (o loc) M1 fun ov M2=>W (f ov v) M2 fun _ M3=>Q (.next,loc) M3:=by
 unfold bk; simp only [ca,cb]
theorem kr {f : ae → ae → Mo Unit} {o l : Loc → Mo ae} {loc : Loc} {Q : Fl × Loc → List ah → Prop} (xx : W (l loc) M fun v M1=>W (o loc) M1 fun ov M2=>W (f ov v) M2 fun _ M3=>Q (.next,loc) M3) : W (bk f o l loc) M Q:=(qI (f:=f) (o:=o) (l:=l) (loc:=loc) (Q:=Q)).mpr xx
theorem BR {f : ae → ae → ae → Mo Unit} {o k l : Loc → Mo ae} {loc : Loc} {Q : Fl × Loc → List ah → Prop} : W (gP f o k l loc) M Q ↔ W (l loc) M fun v M1=>W (o loc) M1 fun ov M2=>W (k loc) M2 fun kv M3=>W (f ov kv v) M3 fun _ M4=>Q (.next,loc) M4:=by
 unfold gP; simp only [ca,cb]
theorem mX {f : ae → ae → ae → Mo Unit} {o k l : Loc → Mo ae} {loc : Loc} {Q : Fl × Loc → List ah → Prop} (xx : W (l loc) M fun v M1=>W (o loc) M1 fun ov M2=>W (k loc) M2 fun kv M3=>W (f ov kv v) M3 fun _ M4=>Q (.next,loc) M4) : W (gP f o k l loc) M Q:=(BR (f:=f) (o:=o) (k:=k) (l:=l) (loc:=loc) (Q:=Q)).mpr xx
theorem nE {g p : ae → ae → Mo ae} {f : ae → ae → ae → Mo Unit} {o k l : Loc → Mo ae} {loc : Loc} {Q : Fl × Loc → List ah → Prop} : W (eO g p f o k l loc) M Q ↔ W (o loc) M fun ov M1=>W (k loc) M1 fun kv M2=>W (g ov kv) M2 fun old M3=>W (l loc) M3 fun v M4=>W (p old v) M4 fun new M5=>W (f ov kv new) M5 fun _ M6=>Q (.next,loc) M6:=by
 unfold eO; simp only [ca,cb]
theorem Dh {g p : ae → ae → Mo ae} {f : ae → ae → ae → Mo Unit} {o k l : Loc → Mo ae} {loc : Loc} {Q : Fl × Loc → List ah → Prop} (xx : W (o loc) M fun ov M1=>W (k loc) M1 fun kv M2=>W (g ov kv) M2 fun old M3=>W (l loc) M3 fun v M4=>W (p old v) M4 fun new M5=>W (f ov kv new) M5 fun _ M6=>Q (.next,loc) M6) : W (eO g p f o k l loc) M Q:=(nE (g:=g) (p:=p) (f:=f) (o:=o) (k:=k) (l:=l) (loc:=loc) (Q:=Q)).mpr xx
theorem wF {k n : Nat} {dfl : List ae} {m : Loc → Mo (Fl × Loc)} {as : List ae} {Q : ae → List ah → Prop} (h : ¬ (as.length + dfl.length < k ∨ k < as.length)) :
  W (aP k n dfl m as) M Q ↔ W (m (fO n (as ++ dfl.drop (dfl.length - (k - as.length))))) M fun r M1=>match r.1 with
   | .ret v=>Q v M1
   | _=>Q .none M1:=by
 unfold aP; rw [if_neg h]; unfold CX; rw [ca]
 constructor
 ·intro z; refine b8 z fun r M1 q=>?_
  obtain ⟨f,l⟩:=r
  cases f <;> exact cb.mp q
 ·intro z; refine b8 z fun r M1 q=>?_
  obtain ⟨f,l⟩:=r
  cases f <;> exact cb.mpr q
theorem jL {k n : Nat} {dfl : List ae} {m : Loc → Mo (Fl × Loc)} {as : List ae} {Q : ae → List ah → Prop} (h : ¬ (as.length + dfl.length < k ∨ k < as.length)) (xx : W (m (fO n (as ++ dfl.drop (dfl.length - (k - as.length))))) M fun r M1=>match r.1 with
   | .ret v=>Q v M1
   | _=>Q .none M1) : W (aP k n dfl m as) M Q:=(wF (k:=k) (n:=n) (dfl:=dfl) (m:=m) (as:=as) (Q:=Q) (h:=h)).mpr xx
noncomputable def iN (Q : ae → List ah → Prop) (r : Fl × Loc) (M1 : List ah) : Prop:=match r.1 with
 | .ret v=>Q v M1
 | _=>Q .none M1
theorem tt {k n : Nat} {dfl : List ae} {m : Loc → Mo (Fl × Loc)} {as : List ae} {Q : ae → List ah → Prop} {loc0 : Loc} (h : ¬ (as.length + dfl.length < k ∨ k < as.length)) (hl : fO n (as ++ dfl.drop (dfl.length - (k - as.length))) = loc0) :
  W (aP k n dfl m as) M Q ↔ W (m loc0) M (iN Q):=by
 subst hl
 exact wF h
theorem bK {k n : Nat} {dfl : List ae} {m : Loc → Mo (Fl × Loc)} {as : List ae} {Q : ae → List ah → Prop} {loc0 : Loc} (h : ¬ (as.length + dfl.length < k ∨ k < as.length)) (hl : fO n (as ++ dfl.drop (dfl.length - (k - as.length))) = loc0) (xx : W (m loc0) M (iN Q)) : W (aP k n dfl m as) M Q:=(tt (k:=k) (n:=n) (dfl:=dfl) (m:=m) (as:=as) (Q:=Q) (loc0:=loc0) (h:=h) (hl:=hl)).mpr xx
theorem fJ {Q : ae → List ah → Prop} {v : ae} {l : Loc} {M1 : List ah} : iN Q (.ret v,l) M1 ↔ Q v M1:=Iff.rfl
theorem aF {Q : ae → List ah → Prop} {v : ae} {l : Loc} {M1 : List ah} (xx : Q v M1) : iN Q (.ret v,l) M1:=(fJ (Q:=Q) (v:=v) (l:=l) (M1:=M1)).mpr xx
theorem xE {Q : ae → List ah → Prop} {l : Loc} {M1 : List ah} : iN Q (.next,l) M1 ↔ Q .none M1:=Iff.rfl
theorem eE {Q : ae → List ah → Prop} {l : Loc} {M1 : List ah} (xx : Q .none M1) : iN Q (.next,l) M1:=(xE (Q:=Q) (l:=l) (M1:=M1)).mpr xx
theorem Ax {i : Nat} {l : Loc → Mo ae} {m : Loc → Mo (Fl × Loc)} {loc : Loc} {Q : Fl × Loc → List ah → Prop} : W (dX i l m loc) M Q ↔ W (l loc) M fun a M1=>∃ as,cV a = some as ∧ W (dY i m as loc) M1 Q:=by
 unfold dX; rw [ca]
 constructor
 ·intro h; refine b8 h fun a M1 q=>?_
  cases e : cV a with
  | none=>rw [e] at q; obtain ⟨_,_,z,_⟩:=q; cases z
  | some as=>rw [e] at q; exact ⟨as,rfl,q⟩
 ·intro h; refine b8 h fun a M1 ⟨as,e,q⟩=>?_
  rw [e]; exact q
theorem ci {i : Nat} {l : Loc → Mo ae} {m : Loc → Mo (Fl × Loc)} {loc : Loc} {Q : Fl × Loc → List ah → Prop} (xx : W (l loc) M fun a M1=>∃ as,cV a = some as ∧ W (dY i m as loc) M1 Q) : W (dX i l m loc) M Q:=(Ax (i:=i) (l:=l) (m:=m) (loc:=loc) (Q:=Q)).mpr xx
theorem gc {i : Nat} {m : Loc → Mo (Fl × Loc)} {loc : Loc} {Q : Fl × Loc → List ah → Prop} : W (dY i m [] loc) M Q ↔ Q (.next,loc) M:=cb
theorem bN {i : Nat} {m : Loc → Mo (Fl × Loc)} {loc : Loc} {Q : Fl × Loc → List ah → Prop} (xx : Q (.next,loc) M) : W (dY i m [] loc) M Q:=(gc (i:=i) (m:=m) (loc:=loc) (Q:=Q)).mpr xx
theorem xg {i : Nat} {m : Loc → Mo (Fl × Loc)} {a : ae} {as : List ae} {loc : Loc} {Q : Fl × Loc → List ah → Prop} : W (dY i m (a :: as) loc) M Q ↔ W (m (loc.set i (some a))) M fun r M1=>match r.1 with
  | .next=>W (dY i m as r.2) M1 Q
  | .brk=>Q (.next,r.2) M1
  | .ret v=>Q (.ret v,r.2) M1:=by
 show W (bnd _ _) M Q ↔ _
 rw [ca]
 constructor
 ·intro h; refine b8 h fun r M1 q=>?_
  obtain ⟨f,l⟩:=r
  cases f <;> first | exact q | exact cb.mp q
 ·intro h; refine b8 h fun r M1 q=>?_
  obtain ⟨f,l⟩:=r
  cases f <;> first | exact q | exact cb.mpr q
theorem aY {i : Nat} {m : Loc → Mo (Fl × Loc)} {a : ae} {as : List ae} {loc : Loc} {Q : Fl × Loc → List ah → Prop} (xx : W (m (loc.set i (some a))) M fun r M1=>match r.1 with
  | .next=>W (dY i m as r.2) M1 Q
  | .brk=>Q (.next,r.2) M1
  | .ret v=>Q (.ret v,r.2) M1) : W (dY i m (a :: as) loc) M Q:=(xg (i:=i) (m:=m) (a:=a) (as:=as) (loc:=loc) (Q:=Q)).mpr xx
theorem wy {t : Loc → Mo Bool} {m : Loc → Mo (Fl × Loc)} {n : Nat} {loc : Loc} {Q : Fl × Loc → List ah → Prop} : W (dC t m (n + 1) loc) M Q ↔ W (t loc) M fun c M1=>if c then W (m loc) M1 fun r M2=>(match r.1 with
   | .next=>W (dC t m n r.2) M2 Q
   | .brk=>Q (.next,r.2) M2
   | .ret v=>Q (.ret v,r.2) M2) else Q (.next,loc) M1:=by
 show W (bnd _ _) M Q ↔ _
 rw [ca]
 constructor
 ·intro h; refine b8 h fun c M1 q=>?_
  cases c with
  | false=>exact cb.mp q
  | true=>
   rw [if_pos rfl] at q ⊢
   refine b8 (ca.mp q) fun r M2 q=>?_
   obtain ⟨f,l⟩:=r
   cases f <;> first | exact q | exact cb.mp q
 ·intro h; refine b8 h fun c M1 q=>?_
  cases c with
  | false=>exact cb.mpr q
  | true=>
   rw [if_pos rfl] at q ⊢
   refine ca.mpr (b8 q fun r M2 q=>?_)
   obtain ⟨f,l⟩:=r
   cases f <;> first | exact q | exact cb.mpr q
theorem hH {t : Loc → Mo Bool} {m : Loc → Mo (Fl × Loc)} {n : Nat} {loc : Loc} {Q : Fl × Loc → List ah → Prop} (xx : W (t loc) M fun c M1=>if c then W (m loc) M1 fun r M2=>(match r.1 with
   | .next=>W (dC t m n r.2) M2 Q
   | .brk=>Q (.next,r.2) M2
   | .ret v=>Q (.ret v,r.2) M2) else Q (.next,loc) M1) : W (dC t m (n + 1) loc) M Q:=(wy (t:=t) (m:=m) (n:=n) (loc:=loc) (Q:=Q)).mpr xx
theorem bi {n : Nat} (h : n ≤ 1000000) : bV n = true:=decide_eq_true h
theorem m7 {ms : Loc → Mo (List ae)} {loc : Loc} {Q : ae → List ah → Prop} : W (bC ms loc) M Q ↔ W (ms loc) M fun vs M1=>bV vs.length = true ∧ Q (.mref M1.length) (M1 ++ [.lst vs]):=by
 unfold bC; rw [ca]
 constructor
 ·intro h; refine b8 h fun vs M1 ⟨a,M2,e,q⟩=>?_
  split at e
  ·rename_i hs; cases e; exact ⟨hs,q⟩
  ·cases e
 ·intro h; refine b8 h fun vs M1 ⟨hs,q⟩=>⟨_,_,?_,q⟩
  show (if bV vs.length then _ else _) = _
  rw [if_pos hs]; rfl
theorem cU {ms : Loc → Mo (List ae)} {loc : Loc} {Q : ae → List ah → Prop} (xx : W (ms loc) M fun vs M1=>bV vs.length = true ∧ Q (.mref M1.length) (M1 ++ [.lst vs])) : W (bC ms loc) M Q:=(m7 (ms:=ms) (loc:=loc) (Q:=Q)).mpr xx
theorem bH {M : List ah} {o : ah} : (M ++ [o])[M.length]? = some o:=by simp
theorem cC {M : List ah} {o o' : ah} : (M ++ [o]).set M.length o' = M ++ [o']:=by simp
theorem kA {l : Loc → Mo ae} {loc : Loc} {Q : ae → List ah → Prop} : W (aD l loc) M Q ↔ W (l loc) M fun a M1=>∃ i mo v,a = .mref i ∧ M1[i]? = some mo ∧ froz mo = some v ∧ Q v (M1.set i .gone):=by
 unfold aD; rw [ca]
 constructor
 ·intro h; refine b8 h fun a M1 ⟨b,M2,e,q⟩=>?_
  cases a with
  | mref i=>
   dsimp only at e
   cases hm : M1[i]? with
   | none=>rw [hm] at e; cases e
   | some mo=>
    rw [hm] at e
    dsimp only at e
    cases hf : froz mo with
    | none=>rw [hf] at e; cases e
    | some v=>rw [hf] at e; cases e; exact ⟨i,mo,_,rfl,hm,hf,q⟩
  | _=>cases e
 ·intro h; refine b8 h fun a M1 ⟨i,mo,v,ea,hm,hf,q⟩=>?_
  subst ea
  refine ⟨v,_,?_,q⟩
  dsimp only
  rw [hm]; dsimp only; rw [hf]
theorem lW {l : Loc → Mo ae} {loc : Loc} {Q : ae → List ah → Prop} (xx : W (l loc) M fun a M1=>∃ i mo v,a = .mref i ∧ M1[i]? = some mo ∧ froz mo = some v ∧ Q v (M1.set i .gone)) : W (aD l loc) M Q:=(kA (l:=l) (loc:=loc) (Q:=Q)).mpr xx
theorem jc {ms : Loc → Mo (List ae)} {loc : Loc} {Q : ae → List ah → Prop} : W (aD (bC ms) loc) M Q ↔ W (ms loc) M fun vs M1=>bV vs.length = true ∧ Q (.lst vs) (M1 ++ [.gone]):=by
 rw [kA,m7]
 constructor
 ·intro h; refine b8 h fun vs M1 ⟨hs,i,mo,v,e1,e2,e3,q⟩=>?_
  cases e1
  rw [bH] at e2; cases e2; cases e3
  rw [cC] at q
  exact ⟨hs,q⟩
 ·intro h; refine b8 h fun vs M1 ⟨hs,q⟩=>⟨hs,_,_,_,rfl,bH,rfl,?_⟩
  rw [cC]; exact q
theorem kT {ms : Loc → Mo (List ae)} {loc : Loc} {Q : ae → List ah → Prop} (xx : W (ms loc) M fun vs M1=>bV vs.length = true ∧ Q (.lst vs) (M1 ++ [.gone])) : W (aD (bC ms) loc) M Q:=(jc (ms:=ms) (loc:=loc) (Q:=Q)).mpr xx
end
noncomputable def jh (ms : Loc → Mo (Fl × Loc)) (Q : Fl × Loc → List ah → Prop) (r : Fl × Loc) (M1 : List ah) : Prop:=match r.1 with
 | .next=>W (ms r.2) M1 Q
 | f=>Q (f,r.2) M1
theorem iY {ms : Loc → Mo (Fl × Loc)} {Q : Fl × Loc → List ah → Prop} {v : ae} {l : Loc} {M1 : List ah} : jh ms Q (.ret v,l) M1 ↔ Q (.ret v,l) M1:=Iff.rfl
theorem aX {ms : Loc → Mo (Fl × Loc)} {Q : Fl × Loc → List ah → Prop} {v : ae} {l : Loc} {M1 : List ah} (xx : Q (.ret v,l) M1) : jh ms Q (.ret v,l) M1:=(iY (ms:=ms) (Q:=Q) (v:=v) (l:=l) (M1:=M1)).mpr xx
theorem dR {ms : Loc → Mo (Fl × Loc)} {Q : Fl × Loc → List ah → Prop} {l : Loc} {M1 : List ah} : jh ms Q (.next,l) M1 ↔ W (ms l) M1 Q:=Iff.rfl
theorem aj {ms : Loc → Mo (Fl × Loc)} {Q : Fl × Loc → List ah → Prop} {l : Loc} {M1 : List ah} (xx : W (ms l) M1 Q) : jh ms Q (.next,l) M1:=(dR (ms:=ms) (Q:=Q) (l:=l) (M1:=M1)).mpr xx
theorem eP {m ms : Loc → Mo (Fl × Loc)} {loc : Loc} {M : List ah} {Q : Fl × Loc → List ah → Prop} : W (au m ms loc) M Q ↔ W (m loc) M (jh ms Q):=wY
theorem aB {m ms : Loc → Mo (Fl × Loc)} {loc : Loc} {M : List ah} {Q : Fl × Loc → List ah → Prop} (xx : W (m loc) M (jh ms Q)) : W (au m ms loc) M Q:=(eP (m:=m) (ms:=ms) (loc:=loc) (M:=M) (Q:=Q)).mpr xx
theorem zV {m ms : Loc → Mo (Fl × Loc)} {loc l : Loc} {M M1 : List ah} {Q : Fl × Loc → List ah → Prop} (h : m loc M = some ((.next,l),M1)) (x : W (ms l) M1 Q) : W (au m ms loc) M Q:=eP.mpr (wr h x)
theorem wR {p : Prop} [Decidable p] {A B : Prop} (ha : p → A) (hb : ¬p → B) : if decide p = true then A else B:=by
 by_cases h : p
 ·rw [if_pos (decide_eq_true h)]; exact ha h
 ·rw [if_neg (by simp [h])]; exact hb h
end Mine
end
section
namespace Mine
noncomputable def tyV (n : Int) (form : Str) (size : Int) (base params : ae) : ae:=.inst 219 [("number",.int n),("form",.str form),("size",.int size),("base",base),("length",.int 0),("fields",.lst []),("level",.int 0),("params",params),("module",.str ""),("label",.str ""),("hidden",.lst []),("exno",.int 0)]
noncomputable def obV (name kind : Str) (ty : ae) (level : Int) (mod : Str) (value : ae) (slot : Int) : ae:=.inst 240 [("name",.str name),("kind",.str kind),("type",ty),("place",.int 0),("exported",.bool false),("readonly",.bool false),("level",.int level),("module",.str mod),("value",value),("slot",.int slot),("offset",.int 0),("number",.int 0),("isparam",.bool false),("narrowed",.none)]
noncomputable def ndF (op : Str) (place : ae) (ty kids value : ae) : List (Str × ae):=[("op",.str op),("place",place),("type",ty),("kids",kids),("value",value),("sure",.bool false)]
noncomputable def ndV (op : Str) (place : Int) (ty : ae) (kids : List ae) (value : ae) : ae:=.inst 32 (ndF op (.int place) ty (.lst kids) value)
noncomputable def dJ : ae:=tyV 4 "integer" 4 .none (.lst [])
noncomputable def iy : ae:=tyV 1 "boolean" 1 .none (.lst [])
noncomputable def CQ : ae:=tyV 7 "none" 0 .none (.lst [])
noncomputable def dH : ae:=tyV 8 "proc" 4 CQ (.lst [obV "x" "par" dJ 0 "" .none 0,obV "y" "var" dJ 0 "" .none 0])
noncomputable def fg : ae:=obV "Q" "proc" dH 0 "M" (.str "Q") 0
noncomputable def nmS : Nat → Str
 | 0 => "a" | 1 => "b" | 2 => "c" | _ => "d"
noncomputable def c9 (s : Fin 4) : ae:=obV (nmS s.val) "var" dJ 1 "" .none (s.val : Int)
noncomputable def v0 : List ae:=[c9 0,c9 1,c9 2,c9 3]
noncomputable def Dl : ah:=.inst 276 [("counter",.int 8),("known",.mref 4),("boolean",iy),("char",tyV 2 "char" 1 .none (.lst [])),("byte",tyV 3 "byte" 1 .none (.lst [])),("integer",dJ),("mask",tyV 5 "set" 4 .none (.lst [])),("nil",tyV 6 "nil" 4 .none (.lst [])),("none",CQ)]
noncomputable def CN (n k : Int) : ah:=.sdict [("types",.mref 3),("place",.int n),("spare",.int k),("vars",.mref 33),("callee",fg)]
noncomputable def gl (procs body result : ae) : ah:=.inst 60 [("obj",.mref 47),("params",.lst []),("locals",.lst v0),("procs",procs),("body",body),("result",result),("level",.int 1)]
noncomputable def Gx : ah:=match obV "P" "proc" dH 0 "" .none 0 with
 | .inst C fs=>.inst C fs
 | _=>.gone
noncomputable def H (A : List ae) (pool : List Int) (n k : Int) (t : ah) (J : List ah) : List ah:=
 .lst A :: .gone :: .lst (pool.map .int) :: Dl :: .idict [] :: (List.replicate 28 .gone ++ (.lst v0 :: CN n k :: (List.replicate 12 .gone ++ (Gx :: t :: .gone :: .gone :: .gone :: .gone :: J))))
theorem gu (A : List ae) (pool : List Int) (n k : Int) (t : ah) (J X : List ah) : H A pool n k t J ++ X = H A pool n k t (J ++ X):=rfl
noncomputable def FZ (Q : ae → List ah → Prop) (vs : List ae) (M1 : List ah) : Prop:=bV vs.length = true ∧ Q (.lst vs) (M1 ++ [.gone])
theorem hG {ms : Loc → Mo (List ae)} {loc : Loc} {M : List ah} {Q : ae → List ah → Prop} (x : W (ms loc) M fun vs M1=>FZ Q vs M1) : W (aD (bC ms) loc) M Q:=kT x
theorem kh {A : List ae} {pool : List Int} {n k : Int} {t : ah} {J : List ah} {vs : List ae} {Q : ae → List ah → Prop} (hs : bV vs.length = true) (x : Q (.lst vs) (H A pool n k t (J ++ [.gone]))) : FZ Q vs (H A pool n k t J):=⟨hs,x⟩
noncomputable def Grw (J J2 : List ah) : Prop:=∃ X,J2 = J ++ X
theorem Grw.nil {J : List ah} : Grw J J:=⟨[],(List.append_nil J).symm⟩
theorem Grw.app {J J2 X : List ah} : Grw J J2 → Grw J (J2 ++ X)
 | ⟨Y,e⟩=>⟨Y ++ X,by rw [e,List.append_assoc]⟩
theorem cR {M : List ah} {C : Addr} {fs : List (Str × ae)} {x : Str} {v : ae} {Q : Unit → List ah → Prop} (hC : cM.contains C = true) (hl : decide (fs.length ≤ 900) = true) : W (bS x (.mref M.length) v) (M ++ [.inst C fs]) Q ↔ Q () (M ++ [.inst C (jv x v fs)]):=by
 refine bJ ?_
 unfold bS
 dsimp only
 rw [bH]
 dsimp only
 rw [hC,hl,cC]; rfl
theorem xn (c : Fn → List ae → Mo ae) (M : List ah) (op : Str) (place ty kids value : ae) : mr c .Node [.str op,place,ty,kids,value] M = some (.mref M.length,M ++ [.inst 32 (ndF op place ty kids value)]):=by
 have h : W (aP 6 6 [.none] (dg c) [.mref M.length,.str op,place,ty,kids,value]) (M ++ [.inst 32 []]) (fun v M'=>v = .none ∧ M' = M ++ [.inst 32 (ndF op place ty kids value)]):=by
  refine jL (by simp) ?_
  unfold dg
  simp only [wY,qI,dv,List.length_cons,List.length_nil]
  refine ao (v:=.str op) rfl (ao (v:=.mref M.length) rfl ?_)
  rw [cR rfl (by kernel_rfl)]
  refine ao (v:=place) rfl (ao (v:=.mref M.length) rfl ?_)
  rw [cR rfl (by kernel_rfl)]
  refine ao (v:=ty) rfl (ao (v:=.mref M.length) rfl ?_)
  rw [cR rfl (by kernel_rfl)]
  refine ao (v:=kids) rfl (ao (v:=.mref M.length) rfl ?_)
  rw [cR rfl (by kernel_rfl)]
  refine ao (v:=value) rfl (ao (v:=.mref M.length) rfl ?_)
  rw [cR rfl (by kernel_rfl)]
  refine ao (v:=.mref M.length) rfl ?_
  rw [cR rfl (by kernel_rfl)]
  refine ⟨trivial,?_⟩
  congr 2
 obtain ⟨a,M',e,rfl,rfl⟩:=h
 show gF 32 _ _ M = _
 unfold gF
 rw [e]
theorem vD (c : Fn → List ae → Mo ae) (M : List ah) (op : Str) (place ty kids : ae) : mr c .Node [.str op,place,ty,kids] M = some (.mref M.length,M ++ [.inst 32 (ndF op place ty kids .none)]):=by
 have h : W (aP 6 6 [.none] (dg c) [.mref M.length,.str op,place,ty,kids]) (M ++ [.inst 32 []]) (fun v M'=>v = .none ∧ M' = M ++ [.inst 32 (ndF op place ty kids .none)]):=by
  refine jL (by simp) ?_
  unfold dg
  simp only [wY,qI,dv,List.length_cons,List.length_nil]
  refine ao (v:=.str op) rfl (ao (v:=.mref M.length) rfl ?_)
  rw [cR rfl (by kernel_rfl)]
  refine ao (v:=place) rfl (ao (v:=.mref M.length) rfl ?_)
  rw [cR rfl (by kernel_rfl)]
  refine ao (v:=ty) rfl (ao (v:=.mref M.length) rfl ?_)
  rw [cR rfl (by kernel_rfl)]
  refine ao (v:=kids) rfl (ao (v:=.mref M.length) rfl ?_)
  rw [cR rfl (by kernel_rfl)]
  refine ao (v:=.none) rfl (ao (v:=.mref M.length) rfl ?_)
  rw [cR rfl (by kernel_rfl)]
  refine ao (v:=.mref M.length) rfl ?_
  rw [cR rfl (by kernel_rfl)]
  refine ⟨trivial,?_⟩
  congr 2
 obtain ⟨a,M',e,rfl,rfl⟩:=h
 show gF 32 _ _ M = _
 unfold gF
 rw [e]
noncomputable def mv (Q : ae → List ah → Prop) (a : ae) (M2 : List ah) : Prop:=∃ i mo v,a = .mref i ∧ M2[i]? = some mo ∧ froz mo = some v ∧ Q v (M2.set i .gone)
theorem vv {c : Fn → List ae → Mo ae} {ms : Loc → Mo (List ae)} {loc : Loc} {M : List ah} {Q : ae → List ah → Prop} {d : Nat} (hc : c = sem (d + 1)) :
  W (aD (aq (c .Node) ms) loc) M Q ↔ W (ms loc) M fun as M1=>W (mr (sem d) .Node as) M1 (mv Q):=by
 subst hc
 rw [kA,qi]; rfl
theorem dU {c : Fn → List ae → Mo ae} {ms : Loc → Mo (List ae)} {loc : Loc} {M : List ah} {Q : ae → List ah → Prop} {d : Nat} (hc : c = sem (d + 1)) (xx : W (ms loc) M fun as M1=>W (mr (sem d) .Node as) M1 (mv Q)) : W (aD (aq (c .Node) ms) loc) M Q:=(vv (c:=c) (ms:=ms) (loc:=loc) (M:=M) (Q:=Q) (d:=d) (hc:=hc)).mpr xx
theorem Fv {c : Fn → List ae → Mo ae} {M : List ah} {op : Str} {place ty kids value : ae} {Q : ae → List ah → Prop} :
  W (mr c .Node [.str op,place,ty,kids,value]) M (mv Q) ↔ Q (.inst 32 (ndF op place ty kids value)) (M ++ [.gone]):=by
 rw [bJ (xn c M op place ty kids value)]
 constructor
 ·rintro ⟨i,mo,v,e1,e2,e3,q⟩
  cases e1
  rw [bH] at e2; cases e2; cases e3
  rw [cC] at q; exact q
 ·intro q
  refine ⟨_,_,_,rfl,bH,rfl,?_⟩
  rw [cC]; exact q
theorem Fk {c : Fn → List ae → Mo ae} {M : List ah} {op : Str} {place ty kids value : ae} {Q : ae → List ah → Prop} (xx : Q (.inst 32 (ndF op place ty kids value)) (M ++ [.gone])) : W (mr c .Node [.str op,place,ty,kids,value]) M (mv Q):=(Fv (c:=c) (M:=M) (op:=op) (place:=place) (ty:=ty) (kids:=kids) (value:=value) (Q:=Q)).mpr xx
theorem Ge {c : Fn → List ae → Mo ae} {M : List ah} {op : Str} {place ty kids : ae} {Q : ae → List ah → Prop} :
  W (mr c .Node [.str op,place,ty,kids]) M (mv Q) ↔ Q (.inst 32 (ndF op place ty kids .none)) (M ++ [.gone]):=by
 rw [bJ (vD c M op place ty kids)]
 constructor
 ·rintro ⟨i,mo,v,e1,e2,e3,q⟩
  cases e1
  rw [bH] at e2; cases e2; cases e3
  rw [cC] at q; exact q
 ·intro q
  refine ⟨_,_,_,rfl,bH,rfl,?_⟩
  rw [cC]; exact q
theorem CP {c : Fn → List ae → Mo ae} {M : List ah} {op : Str} {place ty kids : ae} {Q : ae → List ah → Prop} (xx : Q (.inst 32 (ndF op place ty kids .none)) (M ++ [.gone])) : W (mr c .Node [.str op,place,ty,kids]) M (mv Q):=(Ge (c:=c) (M:=M) (op:=op) (place:=place) (ty:=ty) (kids:=kids) (Q:=Q)).mpr xx
theorem lM {c : Fn → List ae → Mo ae} {A : List ae} {pool : List Int} {n k : Int} {t : ah} {J : List ah} {op : Str} {place ty kids : ae} {Q : ae → List ah → Prop} (x : Q (.inst 32 (ndF op place ty kids .none)) (H A pool n k t (J ++ [.gone]))) : W (mr c .Node [.str op,place,ty,kids]) (H A pool n k t J) (mv Q):=CP x
section
variable {A : List ae} {pool : List Int} {n k : Int} {t : ah} {J : List ah} {d : Nat}
theorem AR : sem (d + 1) .f_law_place [.mref 34] (H A pool n k t J) = some (.int (n + 1),H A pool (n + 1) k t J):=by kernel_rfl
noncomputable def drV (pool : List Int) (b : Int) : Int:=match pool.getLast? with
 | some x=>x.fmod b
 | none=>0
theorem uQ (pool : List Int) {b : Int} (hb : 0 < b) : 0 ≤ drV pool b ∧ drV pool b < b:=by
 unfold drV
 split
 ·exact ⟨Int.fmod_nonneg_of_pos _ hb,Int.fmod_lt_of_pos _ hb⟩
 ·exact ⟨Int.le_refl _,hb⟩
end
end Mine
end
section
open PySem PySem.W PySem.Spec PySem.Calls PySem.SeqAt PyProof.Rows
namespace Mine
theorem AX {F : List ae → Mo ae} {o : Loc → Mo ae} {ms : Loc → Mo (List ae)} {loc : Loc} {M : List ah} {Q : ae → List ah → Prop} : W (bG F o ms loc) M Q ↔ W (o loc) M fun a M1=>∃ i vs,a = .mref i ∧ M1[i]? = some (.lst vs) ∧ W (ms loc) M1 fun as M2=>W (F (a :: as)) M2 Q:=by
 unfold bG
 rw [ca]
 constructor
 ·intro h; refine b8 h fun a M1 q=>?_
  rw [ca] at q
  obtain ⟨u,M2,e,q⟩:=q
  obtain ⟨i,vs,rfl,hm,rfl⟩:=m9 e
  exact ⟨i,vs,rfl,hm,ca.mp q⟩
 ·intro h; refine b8 h fun a M1 ⟨i,vs,ea,hm,q⟩=>?_
  subst ea
  refine wJ ?_
  refine vd (a:=()) (M':=M1) ?_ (ca.mpr q)
  unfold wl; dsimp only; rw [hm]
theorem cq {F : List ae → Mo ae} {o : Loc → Mo ae} {ms : Loc → Mo (List ae)} {loc : Loc} {M : List ah} {Q : ae → List ah → Prop} (xx : W (o loc) M fun a M1=>∃ i vs,a = .mref i ∧ M1[i]? = some (.lst vs) ∧ W (ms loc) M1 fun as M2=>W (F (a :: as)) M2 Q) : W (bG F o ms loc) M Q:=(AX (F:=F) (o:=o) (ms:=ms) (loc:=loc) (M:=M) (Q:=Q)).mpr xx
theorem qp {x y : Int} {M : List ah} {Q : ae → List ah → Prop} : W (oEq (.int x) (.int y)) M Q ↔ Q (.bool (decide (x = y))) M:=bJ rfl
theorem eW {x y : Int} {M : List ah} {Q : ae → List ah → Prop} (xx : Q (.bool (decide (x = y))) M) : W (oEq (.int x) (.int y)) M Q:=(qp (x:=x) (y:=y) (M:=M) (Q:=Q)).mpr xx
theorem g8 {x y : Str} {M : List ah} {Q : ae → List ah → Prop} : W (oEq (.str x) (.str y)) M Q ↔ Q (.bool (decide (x = y))) M:=bJ rfl
theorem ip {x y : Str} {M : List ah} {Q : ae → List ah → Prop} (xx : Q (.bool (decide (x = y))) M) : W (oEq (.str x) (.str y)) M Q:=(g8 (x:=x) (y:=y) (M:=M) (Q:=Q)).mpr xx
theorem AY {x y : Str} {M : List ah} {Q : ae → List ah → Prop} : W (oNe (.str x) (.str y)) M Q ↔ Q (.bool (!decide (x = y))) M:=bJ rfl
theorem wH {x y : Str} {M : List ah} {Q : ae → List ah → Prop} (xx : Q (.bool (!decide (x = y))) M) : W (oNe (.str x) (.str y)) M Q:=(AY (x:=x) (y:=y) (M:=M) (Q:=Q)).mpr xx
theorem wc {x y : Int} {M : List ah} {Q : ae → List ah → Prop} : W (oNe (.int x) (.int y)) M Q ↔ Q (.bool (!decide (x = y))) M:=bJ rfl
theorem BY {x y : Int} {M : List ah} {Q : ae → List ah → Prop} (xx : Q (.bool (!decide (x = y))) M) : W (oNe (.int x) (.int y)) M Q:=(wc (x:=x) (y:=y) (M:=M) (Q:=Q)).mpr xx
theorem E6 {x y : Int} {M : List ah} {Q : ae → List ah → Prop} : W (eH (.int x) (.int y)) M Q ↔ Q (.int (x + y)) M:=bJ rfl
theorem fL {x y : Int} {M : List ah} {Q : ae → List ah → Prop} (xx : Q (.int (x + y)) M) : W (eH (.int x) (.int y)) M Q:=(E6 (x:=x) (y:=y) (M:=M) (Q:=Q)).mpr xx
theorem CT {x y : Int} {M : List ah} {Q : ae → List ah → Prop} : W (k0 (.int x) (.int y)) M Q ↔ Q (.int (x - y)) M:=bJ rfl
theorem wN {x y : Int} {M : List ah} {Q : ae → List ah → Prop} (xx : Q (.int (x - y)) M) : W (k0 (.int x) (.int y)) M Q:=(CT (x:=x) (y:=y) (M:=M) (Q:=Q)).mpr xx
theorem FT {x y : Int} {M : List ah} {Q : ae → List ah → Prop} : W (oLt (.int x) (.int y)) M Q ↔ Q (.bool (decide (x < y))) M:=bJ rfl
theorem Io {x y : Int} {M : List ah} {Q : ae → List ah → Prop} (xx : Q (.bool (decide (x < y))) M) : W (oLt (.int x) (.int y)) M Q:=(FT (x:=x) (y:=y) (M:=M) (Q:=Q)).mpr xx
theorem Jk {x y : Int} {M : List ah} {Q : ae → List ah → Prop} : W (oGt (.int x) (.int y)) M Q ↔ Q (.bool (decide (x > y))) M:=bJ rfl
theorem w9 {x y : Int} {M : List ah} {Q : ae → List ah → Prop} (xx : Q (.bool (decide (x > y))) M) : W (oGt (.int x) (.int y)) M Q:=(Jk (x:=x) (y:=y) (M:=M) (Q:=Q)).mpr xx
theorem FM {x y : Int} {M : List ah} {Q : ae → List ah → Prop} : W (oGe (.int x) (.int y)) M Q ↔ Q (.bool (decide (x ≥ y))) M:=bJ rfl
theorem KV {x y : Int} {M : List ah} {Q : ae → List ah → Prop} (xx : Q (.bool (decide (x ≥ y))) M) : W (oGe (.int x) (.int y)) M Q:=(FM (x:=x) (y:=y) (M:=M) (Q:=Q)).mpr xx
theorem CW {x y : Int} {M : List ah} {Q : ae → List ah → Prop} (h : y ≠ 0) : W (rP (.int x) (.int y)) M Q ↔ Q (.int (x.fmod y)) M:=bJ (by
 have h' : decide (y ≠ 0) = true:=decide_eq_true h
 show (if decide (y ≠ 0) = true then ret (.int (x.fmod y)) else dK : Mo ae) M = _
 rw [h']; rfl)
theorem Gw {x y : Int} {M : List ah} {Q : ae → List ah → Prop} (h : y ≠ 0) (xx : Q (.int (x.fmod y)) M) : W (rP (.int x) (.int y)) M Q:=(CW (x:=x) (y:=y) (M:=M) (Q:=Q) (h:=h)).mpr xx
theorem gn {b : Bool} {Q : Bool → Prop} : (∃ c,ae.bool b = .bool c ∧ Q c) ↔ Q b:=⟨fun ⟨c,e,q⟩=>by cases e; exact q,fun q=>⟨b,rfl,q⟩⟩
theorem b9 {b : Bool} {Q : Bool → Prop} (xx : Q b) : (∃ c,ae.bool b = .bool c ∧ Q c):=(gn (b:=b) (Q:=Q)).mpr xx
theorem ga : ∀ ns : List Int,eG (ns.map .int) = some (ns.map .int)
 | []=>rfl
 | n :: r=>by
  rw [List.map_cons,List.map_cons]
  unfold eG
  rw [ga r]
  rfl
theorem nm : ∀ ns : List Int,PyData.canLayAll0 (ns.map .int) = true
 | []=>rfl
 | n :: r=>by
  rw [List.map_cons]
  unfold PyData.canLayAll0
  rw [nm r]; rfl
theorem jC : ∀ ns : List Int,PyData.depthAll (ns.map .int) = 0
 | []=>rfl
 | n :: r=>by
  rw [List.map_cons]
  unfold PyData.depthAll
  rw [jC r]; rfl
theorem iE (ns : List Int) : shaped (.list (ns.map .int)) = true:=by
 unfold shaped PyData.canLay0 PyData.depth
 rw [nm,jC]; rfl
section
variable {A : List ae} {pool : List Int} {n k : Int} {t : ah} {J : List ah} {d : Nat}
theorem Ew (X : ah) : (H A pool n k t J ++ [X])[(H A pool n k t J).length]? = some X:=bH
theorem vL : (H A pool n k t J)[2]? = some (.lst (pool.map .int)):=rfl
theorem Bh (ns : List Int) : PyData.eqv (.list (ns.map .int)) (.list []) = ns.isEmpty:=by
 cases ns with
 | nil=>rfl
 | cons a r=>rw [PyData.eqv,List.map_cons]; simp [PyData.eqvAll]
theorem BW (hp : pool.length ≤ 1000000) {b : Int} (hb : b ≠ 0) : sem (d + 1) .f_law_draw [.mref 2,.int b] (H A pool n k t J) = some (.int (drV pool b),H A pool.dropLast n k t (J ++ [.lst []])):=by
 have h : W (sem (d + 1) .f_law_draw [.mref 2,.int b]) (H A pool n k t J) (fun v M'=>v = .int (drV pool b) ∧ M' = H A pool.dropLast n k t (J ++ [.lst []])):=by
  rw [vq]
  refine jL (by simp) ?_
  unfold f7
  simp only [f5,Dc,dP,dL,m7,fR,dv]
  refine ao (v:=.mref 2) rfl ?_
  refine ⟨rfl,?_⟩
  have e1 : oNe (.mref 2) (.mref (H A pool n k t J).length) (H A pool n k t J ++ [.lst []]) = some (.bool (!pool.isEmpty),H A pool n k t J ++ [.lst []]):=by
   have e3 : cK (.mref 2) (H A pool n k t J ++ [.lst []]) = some (.list (pool.map .int)):=by
    unfold cK
    rw [gu]
    dsimp only
    rw [vL]
    dsimp only
    rw [ga]; rfl
   have e4 : cK (.mref (H A pool n k t J).length) (H A pool n k t J ++ [.lst []]) = some (.list []):=by
    unfold cK
    dsimp only
    rw [bH]; rfl
   unfold oNe
   dsimp only
   rw [e3,e4]
   dsimp only
   rw [iE,Bh]; rfl
  refine gm e1 ?_
  simp only [gn]
  rw [gu]
  cases hpool : pool with
  | nil=>
   simp only [List.isEmpty_nil,Bool.not_true,Bool.false_eq_true,if_false]
   exact ⟨rfl,rfl⟩
  | cons x r=>
   rw [← hpool]
   have hne : pool.isEmpty = false:=by rw [hpool]; rfl
   simp only [hne,Bool.not_false,if_true]
   refine cq (ao (v:=.mref 2) rfl ?_)
   refine ⟨2,_,rfl,vL,?_⟩
   refine av ?_
   obtain ⟨z,hz⟩ : ∃ z,pool.getLast? = some z:=by rw [hpool]; exact ⟨_,List.getLast?_cons⟩
   have e5 : lq [.mref 2] (H A pool n k t (J ++ [.lst []])) = some (.int z,H A pool.dropLast n k t (J ++ [.lst []])):=by
    unfold lq
    dsimp only
    rw [vL]
    dsimp only
    rw [bi (by rw [List.length_map]; exact hp),if_pos rfl,List.getLast?_map,hz]
    dsimp only [Option.map_some]
    rw [← List.map_dropLast]
    rfl
   refine gm e5 (ao (v:=.int b) rfl (Gw hb ?_))
   refine ⟨?_,rfl⟩
   unfold drV; rw [hz]
 obtain ⟨a,M',e,rfl,rfl⟩:=h
 exact e
theorem J7 (x : Str) : (H A pool n k t J)[34]? = some (CN n k):=rfl
theorem BC {Q : ae → List ah → Prop} : W (aV (.mref 34) (.str "types")) (H A pool n k t J) Q ↔ Q (.mref 3) (H A pool n k t J):=bJ (by kernel_rfl)
theorem mQ {Q : ae → List ah → Prop} (xx : Q (.mref 3) (H A pool n k t J)) : W (aV (.mref 34) (.str "types")) (H A pool n k t J) Q:=(BC (Q:=Q)).mpr xx
theorem yC {Q : ae → List ah → Prop} : W (aV (.mref 34) (.str "vars")) (H A pool n k t J) Q ↔ Q (.mref 33) (H A pool n k t J):=bJ (by kernel_rfl)
theorem I1 {Q : ae → List ah → Prop} (xx : Q (.mref 33) (H A pool n k t J)) : W (aV (.mref 34) (.str "vars")) (H A pool n k t J) Q:=(yC (Q:=Q)).mpr xx
theorem Au {Q : ae → List ah → Prop} : W (aV (.mref 34) (.str "callee")) (H A pool n k t J) Q ↔ Q fg (H A pool n k t J):=bJ (by kernel_rfl)
theorem sN {Q : ae → List ah → Prop} (xx : Q fg (H A pool n k t J)) : W (aV (.mref 34) (.str "callee")) (H A pool n k t J) Q:=(Au (Q:=Q)).mpr xx
theorem v8 {Q : ae → List ah → Prop} : W (aV (.mref 34) (.str "spare")) (H A pool n k t J) Q ↔ Q (.int k) (H A pool n k t J):=bJ (by kernel_rfl)
theorem Be {Q : ae → List ah → Prop} (xx : Q (.int k) (H A pool n k t J)) : W (aV (.mref 34) (.str "spare")) (H A pool n k t J) Q:=(v8 (Q:=Q)).mpr xx
theorem xe {Q : ae → List ah → Prop} : W (aK "integer" (.mref 3)) (H A pool n k t J) Q ↔ Q dJ (H A pool n k t J):=bJ (by kernel_rfl)
theorem lw {Q : ae → List ah → Prop} (xx : Q dJ (H A pool n k t J)) : W (aK "integer" (.mref 3)) (H A pool n k t J) Q:=(xe (Q:=Q)).mpr xx
theorem xA {Q : ae → List ah → Prop} : W (aK "boolean" (.mref 3)) (H A pool n k t J) Q ↔ Q iy (H A pool n k t J):=bJ (by kernel_rfl)
theorem xv {Q : ae → List ah → Prop} (xx : Q iy (H A pool n k t J)) : W (aK "boolean" (.mref 3)) (H A pool n k t J) Q:=(xA (Q:=Q)).mpr xx
theorem wG {Q : ae → List ah → Prop} (s : Fin 4) : W (aV (.mref 33) (.int (s.val : Int))) (H A pool n k t J) Q ↔ Q (c9 s) (H A pool n k t J):=by
 match s with
 | 0=>exact bJ (by kernel_rfl)
 | 1=>exact bJ (by kernel_rfl)
 | 2=>exact bJ (by kernel_rfl)
 | 3=>exact bJ (by kernel_rfl)
theorem GA {Q : ae → List ah → Prop} (s : Fin 4) (xx : Q (c9 s) (H A pool n k t J)) : W (aV (.mref 33) (.int (s.val : Int))) (H A pool n k t J) Q:=(wG (Q:=Q) (s:=s)).mpr xx
theorem vY {Q : ae → List ah → Prop} : W (sem (d + 1) .f_law_place [.mref 34]) (H A pool n k t J) Q ↔ Q (.int (n + 1)) (H A pool (n + 1) k t J):=bJ AR
theorem qk {Q : ae → List ah → Prop} (xx : Q (.int (n + 1)) (H A pool (n + 1) k t J)) : W (sem (d + 1) .f_law_place [.mref 34]) (H A pool n k t J) Q:=(vY (Q:=Q)).mpr xx
theorem yZ {Q : ae → List ah → Prop} (hp : pool.length ≤ 1000000) {b : Int} (hb : b ≠ 0) : W (sem (d + 1) .f_law_draw [.mref 2,.int b]) (H A pool n k t J) Q ↔ Q (.int (drV pool b)) (H A pool.dropLast n k t (J ++ [.lst []])):=bJ (BW hp hb)
theorem qQ {Q : ae → List ah → Prop} (hp : pool.length ≤ 1000000) {b : Int} (hb : b ≠ 0) (xx : Q (.int (drV pool b)) (H A pool.dropLast n k t (J ++ [.lst []]))) : W (sem (d + 1) .f_law_draw [.mref 2,.int b]) (H A pool n k t J) Q:=(yZ (Q:=Q) (hp:=hp) (b:=b) (hb:=hb)).mpr xx
theorem DU (s : Fin 4) : sem (d + 2) .f_law_var [.mref 34,.int (s.val : Int)] (H A pool n k t J) = some (ndV "var" (n + 1) dJ [] (c9 s),H A pool (n + 1) k t (J ++ [.gone] ++ [.gone])):=by
 have h : W (sem (d + 2) .f_law_var [.mref 34,.int (s.val : Int)]) (H A pool n k t J) (fun v M'=>v = ndV "var" (n + 1) dJ [] (c9 s) ∧ M' = H A pool (n + 1) k t (J ++ [.gone] ++ [.gone])):=by
  rw [xo]
  refine jL (by simp) ?_
  unfold gQ
  simp only [f5,vv (d:=d) rfl,fI,fR,dN,dL,dv,qi,jc]
  refine ao (v:=.mref 34) rfl (qk (ao (v:=.mref 34) rfl (mQ (lw ?_))))
  refine ⟨rfl,?_⟩
  rw [gu,bU (v:=.mref 34) rfl,yC,bU (v:=.int (s.val : Int)) rfl,wG,Fv,gu]
  exact ⟨rfl,rfl⟩
 obtain ⟨a,M',e,rfl,rfl⟩:=h
 exact e
theorem yP {Q : ae → List ah → Prop} (s : Fin 4) : W (sem (d + 2) .f_law_var [.mref 34,.int (s.val : Int)]) (H A pool n k t J) Q ↔ Q (ndV "var" (n + 1) dJ [] (c9 s)) (H A pool (n + 1) k t (J ++ [.gone] ++ [.gone])):=bJ (DU s)
theorem KQ {Q : ae → List ah → Prop} (s : Fin 4) (xx : Q (ndV "var" (n + 1) dJ [] (c9 s)) (H A pool (n + 1) k t (J ++ [.gone] ++ [.gone]))) : W (sem (d + 2) .f_law_var [.mref 34,.int (s.val : Int)]) (H A pool n k t J) Q:=(yP (Q:=Q) (s:=s)).mpr xx
theorem D7 (pool : List Int) : ∃ s : Fin 4,drV pool 4 = (s.val : Int):=by
 obtain ⟨h1,h2⟩:=uQ pool (b:=4) (by decide)
 exact ⟨⟨(drV pool 4).toNat,(Int.toNat_lt h1).mpr h2⟩,by simp; exact J8 h1 h2⟩
theorem x7 {M : List ah} (ty : ae) (v p : ae) : sem (d + 2) .f_const [ty,v,p] M = some (.inst 32 (ndF "const" p ty (.lst []) v),M ++ [.gone] ++ [.gone]):=by
 have h : W (sem (d + 2) .f_const [ty,v,p]) M (fun a M'=>a = .inst 32 (ndF "const" p ty (.lst []) v) ∧ M' = M ++ [.gone] ++ [.gone]):=by
  rw [B4]
  refine jL (by simp) ?_
  unfold j2
  simp only [f5,vv (d:=d) rfl,fI,fR,dv,jc]
  refine ao (v:=p) rfl (ao (v:=ty) rfl ?_)
  refine ⟨rfl,?_⟩
  refine ao (v:=v) rfl (Fk ?_)
  exact ⟨rfl,rfl⟩
 obtain ⟨a,M',e,rfl,rfl⟩:=h
 exact e
end
noncomputable abbrev Rd:=List (Int × Fin 4)
noncomputable def Pl (n n' : Int) (r : Rd) (c : Int) : Prop:=n ≤ n' ∧ (∀ q ∈ r,n < q.1 ∧ q.1 ≤ n') ∧ (r.map (·.1)).Nodup ∧ n' ≤ n + c
theorem uR {p : List Int} {Q : ae → List ah → Prop} (x : ∀ s : Fin 4,Q (ndV "var" (n + 1) dJ [] (c9 s)) (H A pool (n + 1) k t (J ++ [.gone] ++ [.gone]))) : W (sem (d + 2) .f_law_var [.mref 34,.int (drV p 4)]) (H A pool n k t J) Q:=by
 obtain ⟨s,hs⟩:=D7 p
 rw [hs]; exact (yP s).mpr (x s)
theorem AT {ty v p : ae} {Q : ae → List ah → Prop} (x : Q (.inst 32 (ndF "const" p ty (.lst []) v)) (H A pool n k t (J ++ [.gone] ++ [.gone]))) : W (sem (d + 2) .f_const [ty,v,p]) (H A pool n k t J) Q:=gm (x7 ..) x
theorem Pl.nil {n n' : Int} (h : n ≤ n') : Pl n n' [] (n' - n):=⟨h,(fun q h=>by cases h),List.nodup_nil,(Ft)⟩
theorem Pl.one {n n' p : Int} {s : Fin 4} (h1 : n < p) (h2 : p ≤ n') : Pl n n' [(p,s)] (n' - n):=⟨(HM h1 h2),fun q h=>by rw [List.mem_singleton.mp h]; exact ⟨h1,h2⟩,by simp,(Ft)⟩
theorem Dr {a b a' b' c : Int} (h : b ≤ a + c) : b' ≤ a' + (c + (b' - b) + (a - a')):=by omega
theorem Pl.wide {a b a' b' c : Int} {r : Rd} (h : Pl a b r c) (h1 : a' ≤ a) (h2 : b ≤ b') : Pl a' b' r (c + (b' - b) + (a - a')):=⟨Int.le_trans h1 (Int.le_trans h.1 h2),fun q hq=>⟨Int.lt_of_le_of_lt h1 (h.2.1 q hq).1,Int.le_trans (h.2.1 q hq).2 h2⟩,h.2.2.1,Dr h.2.2.2⟩
theorem Pl.up {a b c c' : Int} {r : Rd} (h : Pl a b r c) (h1 : c ≤ c') : Pl a b r c':=⟨h.1,h.2.1,h.2.2.1,Int.le_trans h.2.2.2 (Int.add_le_add_left h1 a)⟩
theorem Pl.append {a b d c c' : Int} {r s : Rd} (h : Pl a b r c) (g : Pl b d s c') : Pl a d (r ++ s) (c + c'):=by
 refine ⟨Int.le_trans h.1 g.1,fun q hq=>?_,?_,Int.le_trans g.2.2.2 (Int.add_assoc a c c' ▸ Int.add_le_add_right h.2.2.2 c')⟩
 ·rcases List.mem_append.mp hq with hq | hq
  ·exact ⟨(h.2.1 q hq).1,Int.le_trans (h.2.1 q hq).2 g.1⟩
  ·exact ⟨Int.lt_of_le_of_lt h.1 (g.2.1 q hq).1,(g.2.1 q hq).2⟩
 ·rw [List.map_append,List.nodup_append]
  refine ⟨h.2.2.1,g.2.2.1,fun x hx y hy e=>?_⟩
  obtain ⟨q,hq,rfl⟩:=List.mem_map.mp hx
  obtain ⟨q',hq',rfl⟩:=List.mem_map.mp hy
  exact absurd e (Int.ne_of_lt (Int.lt_of_le_of_lt (h.2.1 q hq).2 (g.2.1 q' hq').1))
theorem Pl.len {n n' c : Int} {r : Rd} (h : Pl n n' r c) : (r.length : Int) ≤ n' - n:=by
 have key : ∀ (m : Nat) (l : List Int) (a : Int),l.Nodup → (∀ x ∈ l,a < x ∧ x ≤ a + m) → l.length ≤ m:=by
  intro m
  induction m with
  | zero=>
   intro l a nd hl
   cases l with
   | nil=>exact Nat.le_refl _
   | cons x l=>exact absurd (Int.lt_of_lt_of_le (hl x List.mem_cons_self).1 (hl x List.mem_cons_self).2) (by rw [show a + ((0 : Nat) : Int) = a from Int.add_zero a]; exact Int.lt_irrefl a)
  | succ m ih=>
   intro l a nd hl
   have h1:=ih (l.erase (a + (m + 1 : Nat))) a (nd.erase _) (fun x hx=>by
    have hx':=List.mem_of_mem_erase hx
    have hne : x ≠ a + (m + 1 : Nat):=fun e=>by
     rw [e] at hx
     exact (List.Nodup.not_mem_erase nd) hx
    exact ⟨(hl x hx').1,Int.le_of_lt_add_one (by rw [Int.add_assoc]; exact Int.lt_iff_le_and_ne.mpr ⟨(hl x hx').2,hne⟩)⟩)
   rw [List.length_erase] at h1
   split at h1 <;> first | exact Nat.sub_le_iff_le_add.mp h1 | exact Nat.le_succ_of_le h1
 have:=key (n' - n).toNat (r.map (·.1)) n h.2.2.1 (fun x hx=>by
  obtain ⟨q,hq,rfl⟩:=List.mem_map.mp hx
  rw [Int.toNat_of_nonneg (Int.sub_nonneg_of_le h.1),Int.add_comm,Int.sub_add_cancel]; exact h.2.1 q hq)
 rw [List.length_map] at this
 rw [← Int.toNat_of_nonneg (Int.sub_nonneg_of_le h.1)]; exact Int.ofNat_le.mpr this
noncomputable def hO : List Str:=["+", "<", "=", "&", "OR"]
inductive IsV : ae → Rd → Nat → Prop
 | var (p : Int) (s : Fin 4) (m : Nat) : IsV (ndV "var" p dJ [] (c9 s)) [(p,s)] m
 | cst (p : Int) (m : Nat) : IsV (ndV "const" p dJ [] (.int 1)) [] m
 | bin {op : Str} {p : Int} {ty l r : ae} {a b : Rd} {m : Nat} : op ∈ hO → IsV l a m → IsV r b m → IsV (ndV op p ty [l,r] .none) (a ++ b) (m + 1)
theorem IsV.up {v : ae} {r : Rd} {m : Nat} (h : IsV v r m) : ∀ {m' : Nat},m ≤ m' → IsV v r m':=by
 induction h with
 | var p s m=>intro m' _; exact .var p s m'
 | cst p m=>intro m' _; exact .cst p m'
 | bin ho h1 h2 i1 i2=>
  intro m' hm
  obtain ⟨q,rfl⟩ : ∃ q,m' = q + 1:=⟨m' - 1,(Nat.sub_add_cancel (Nat.le_trans (Nat.succ_pos _) hm)).symm⟩
  exact .bin ho (i1 (Fd hm)) (i2 (Fd hm))
section
variable {A : List ae} {pool : List Int} {n k : Int} {t : ah} {J : List ah} {d : Nat}
theorem iw (pool : List Int) : pool.dropLast.length ≤ pool.length:=by rw [List.length_dropLast]; exact Kf
theorem uU (hp : pool.length ≤ 1000000) {Q : ae → List ah → Prop} (h : ∀ v r pool' n' J',IsV v r 1 → Pl n n' r 3 → pool'.length ≤ pool.length → Q v (H A pool' n' k t (J ++ J'))) : W (sem (d + 3) .f_law_value [.mref 34,.mref 2]) (H A pool n k t J) Q:=by
 rw [sc]
 refine bK (loc0:=[some (.mref 34),some (.mref 2),none,none]) (by simp) rfl ?_
 have h' : ∀ v r p n' J2,IsV v r 1 → Pl n n' r 3 → p.length ≤ pool.length → Grw J J2 → Q v (H A p n' k t J2):=fun v r p n' J2 a b c ⟨X,e⟩=>e ▸ h v r p n' X a b c
 unfold fz
 have l1:=iw pool
 have l2:=iw pool.dropLast
 have l3:=iw pool.dropLast.dropLast
 have p1 : pool.dropLast.length ≤ 1000000:=j9 hp l1
 have p2 : pool.dropLast.dropLast.length ≤ 1000000:=JN l2 p1
 refine aB (aO (aA (ag (ao (v:=.mref 2) rfl (ag (aR (av (qQ (b:=4) hp (by decide) (aj (aB (cG (bM (aU (ao (v:=.int (drV pool 4)) rfl (aR (eW (gn.mpr (wR (fun h3=>?_) (fun h3=>cB (aj (aB (cG (bM (aU (ao (v:=.int (drV pool 4)) rfl (aR (eW (gn.mpr (wR (fun h2=>?_) (fun h2=>?_))))))))))))))))))))))))))))))
 ·refine aB (aO (aA (ag (ao (v:=.mref 34) rfl (ag (aA (ag (ao (v:=.mref 2) rfl (ag (aR (av (qQ (b:=4) p1 (by decide) (av (uR fun s1=>aj (a8 (dU (d:=d + 1) rfl (ag (aR (ag (aA (ag (ao (v:=.mref 34) rfl (av (qk (ag (ba (aU (ao (v:=.mref 34) rfl (aR (mQ (lw (ag (hG (ag (ao (v:=ndV "var" (n + 1) dJ [] (c9 s1)) rfl (ag (aA (ag (ao (v:=.mref 34) rfl (ag (aA (ag (ao (v:=.mref 2) rfl (ag (aR (av (qQ (b:=4) p2 (by decide) (av (uR fun s2=>av (kh rfl (av (lM (aX (aF ?_))))))))))))))))))))))))))))))))))))))))))))))))))))))
  refine h' _ [(n + 1,s1),(n + 1 + 1 + 1,s2)] _ _ _ (.bin (a:=[_]) (b:=[_]) (by simp [hO]) (.var _ s1 0) (.var _ s2 0)) ?_ (qz l1 l2 l3) (.app (.app (.app (.app (.app (.app (.app (.app (.app .nil)))))))))
  exact ((Pl.one (EH) (Int.le_refl _)).append (Pl.one (HJ) (Int.le_refl _))).up (II)
 ·refine a8 (aA (ag (ba (aU (ao (v:=.mref 34) rfl (aR (mQ (lw (ag (aR (ag (aA (ag (ao (v:=.mref 34) rfl (av (qk (av (AT (aX (aF ?_))))))))))))))))))))
  exact h' _ [] _ _ _ (.cst _ _) ((Pl.nil (mC)).up (FQ)) l1 (.app (.app (.app .nil)))
 ·refine cB (aj (a8 (aA (ag (ao (v:=.mref 34) rfl (ag (aA (ag (ao (v:=.mref 2) rfl (ag (aR (av (qQ (b:=4) p1 (by decide) (av (uR fun s1=>aF ?_)))))))))))))))
  exact h' _ [(n + 1,s1)] _ _ _ (.var _ s1 _) ((Pl.one (EH) (Int.le_refl _)).up (FQ)) (o79 l1 l2) (.app (.app (.app (.app .nil))))
end
end Mine
end
section
open PySem PySem.W PySem.Spec PySem.Calls PySem.SeqAt PyProof.Rows
namespace Mine
noncomputable def bW (X : Fin 16) (s : Fin 4) : Bool:=X.val.testBit s.val
noncomputable def dI (X : Fin 16) (s : Fin 4) : Fin 16:=Fin.ofNat 16 (X.val ||| 2 ^ s.val)
noncomputable def ed (X Y : Fin 16) : Fin 16:=Fin.ofNat 16 (X.val &&& Y.val)
noncomputable abbrev Den:=Fin 16 → Fin 16 × Rd
noncomputable def dW (X : Fin 16) (r : Rd) : Rd:=r.filter fun q=>!bW X q.2
noncomputable def dz (Z : Fin 16) (Ys : List (Fin 16)) : Fin 16:=Ys.foldl ed Z
noncomputable def vaV (p : Int) (s : Fin 4) : ae:=ndV "var" p dJ [] (c9 s)
noncomputable def iz (X : Fin 16) (q : Rd × Den) : Rd:=dW X q.1 ++ (q.2 X).2
noncomputable def xS (F G : Den) : Den:=fun X=>((G (F X).1).1,(F X).2 ++ (G (F X).1).2)
mutual
inductive IsS : ae → Den → Rd → Nat → Prop
 | asg {at_ p : Int} {s : Fin 4} {v : ae} {r : Rd} {h : Nat} : IsV v r 3 → IsS (ndV "assign" at_ .none [vaV p s,v] .none) (fun X=>(dI X s,dW X r)) ((p,s) :: r) h
 | inc {at_ p : Int} {s : Fin 4} {v : ae} {r : Rd} {h : Nat} : IsV v r 3 → IsS (ndV "std" at_ .none [vaV p s,v] (.str "INC")) (fun X=>(dI X s,dW X r ++ dW X [(p,s)])) ((p,s) :: r) h
 | cal {at_ pc p : Int} {s : Fin 4} {v : ae} {r : Rd} {h : Nat} : IsV v r 3 → IsS (ndV "call" at_ .none [ndV "proc" pc dH [] fg,vaV p s,v] .none) (fun X=>(dI X s,dW X r)) ((p,s) :: r) h
 | if0 {at_ : Int} {kids : List ae} {Fs : List (Rd × Den)} {r : Rd} {h : Nat} : cD kids Fs r h → kids.length ≤ 4 → IsS (ndV "if" at_ .none kids (.bool false)) (fun X=>(dz X (Fs.map fun q=>(q.2 X).1),Fs.flatMap (iz X))) r (h + 1)
 | if1 {at_ : Int} {kids : List ae} {Fs : List (Rd × Den)} {r s : Rd} {h : Nat} {b : ae} {F : Den} : cD kids Fs r h → kids.length ≤ 4 → IsB b F s h → IsS (ndV "if" at_ .none (kids ++ [b]) (.bool true)) (fun X=>(dz (F X).1 (Fs.map fun q=>(q.2 X).1),Fs.flatMap (iz X) ++ (F X).2)) (r ++ s) (h + 1)
 | whl {at_ : Int} {kids : List ae} {Fs : List (Rd × Den)} {r : Rd} {h : Nat} : cD kids Fs r h → kids.length ≤ 4 → IsS (ndV "while" at_ .none kids .none) (fun X=>(X,Fs.flatMap (iz X))) r (h + 1)
 | rep {at_ : Int} {b t : ae} {F : Den} {r s : Rd} {h : Nat} : IsB b F r h → IsV t s 3 → IsS (ndV "repeat" at_ .none [b,t] .none) (fun X=>((F X).1,(F X).2 ++ dW (F X).1 s)) (r ++ s) (h + 1)
 | for_ {at_ p : Int} {s : Fin 4} {v1 v2 b : ae} {r1 r2 r : Rd} {F : Den} {h : Nat} : IsV v1 r1 3 → IsV v2 r2 3 → IsB b F r h → IsS (ndV "for" at_ .none [vaV p s,v1,v2,b] (.int 1)) (fun X=>(dI X s,dW X r1 ++ (dW (dI X s) r2 ++ (F (dI X s)).2))) ((p,s) :: (r1 ++ (r2 ++ r))) (h + 1)
 | cas {at_ : Int} {v val : ae} {bs : List ae} {rv r : Rd} {Fs : List Den} {h : Nat} : IsV v rv 3 → dM bs Fs r h → bs.length ≤ 11 → Fs ≠ [] → IsS (ndV "case" at_ .none (v :: bs) val) (fun X=>(dz 15 (Fs.map fun F=>(F X).1),dW X rv ++ Fs.flatMap fun F=>(F X).2)) (rv ++ r) (h + 1)
inductive IsL : List ae → Den → Rd → Nat → Prop
 | nil {h : Nat} : IsL [] (fun X=>(X,[])) [] h
 | cons {a : ae} {as : List ae} {F G : Den} {r s : Rd} {h : Nat} : IsS a F r h → IsL as G s h → IsL (a :: as) (xS F G) (r ++ s) h
inductive IsB : ae → Den → Rd → Nat → Prop
 | mk {p : Int} {kids : List ae} {F : Den} {r : Rd} {h : Nat} : IsL kids F r h → IsB (ndV "block" p .none kids .none) F r h
inductive cD : List ae → List (Rd × Den) → Rd → Nat → Prop
 | nil {h : Nat} : cD [] [] [] h
 | cons {t b : ae} {rt r s : Rd} {F : Den} {as : List ae} {Fs : List (Rd × Den)} {h : Nat} : IsV t rt 3 → IsB b F r h → cD as Fs s h → cD (t :: b :: as) ((rt,F) :: Fs) (rt ++ (r ++ s)) h
inductive dM : List ae → List Den → Rd → Nat → Prop
 | nil {h : Nat} : dM [] [] [] h
 | cons {b : ae} {F : Den} {r s : Rd} {bs : List ae} {Fs : List Den} {h : Nat} : IsB b F r h → dM bs Fs s h → dM (b :: bs) (F :: Fs) (r ++ s) h
end
@[elab_as_elim] theorem IsL.ind {h : Nat} {P : List ae → Den → Rd → Prop} {as : List ae} {F : Den} {r : Rd} (n : P [] (fun X=>(X,[])) []) (c : ∀ a as F G r s,IsS a F r h → IsL as G s h → P as G s → P (a :: as) (xS F G) (r ++ s)) (i : IsL as F r h) : P as F r:=by
 refine IsL.rec (motive_1:=fun a b c d e=>True) (motive_2:=fun as F r g i=>g = h → P as F r) (motive_3:=fun a b c d e=>True) (motive_4:=fun a b c d e=>True) (motive_5:=fun a b c d e=>True) ?_ ?_ ?_ ?_ ?_ ?_ ?_ ?_ ?_ ?_ ?_ ?_ ?_ ?_ ?_ ?_ i rfl <;> intros <;> first | trivial | (subst_vars; apply c <;> first | assumption | solve_by_elim)
@[elab_as_elim] theorem cD.ind {h : Nat} {P : List ae → List (Rd × Den) → Rd → Prop} {as : List ae} {Fs : List (Rd × Den)} {r : Rd} (n : P [] [] []) (c : ∀ t b rt r s F as Fs,IsV t rt 3 → IsB b F r h → cD as Fs s h → P as Fs s → P (t :: b :: as) ((rt,F) :: Fs) (rt ++ (r ++ s))) (i : cD as Fs r h) : P as Fs r:=by
 refine cD.rec (motive_1:=fun a b c d e=>True) (motive_2:=fun a b c d e=>True) (motive_3:=fun a b c d e=>True) (motive_4:=fun as F r g i=>g = h → P as F r) (motive_5:=fun a b c d e=>True) ?_ ?_ ?_ ?_ ?_ ?_ ?_ ?_ ?_ ?_ ?_ ?_ ?_ ?_ ?_ ?_ i rfl <;> intros <;> first | trivial | (subst_vars; apply c <;> first | assumption | solve_by_elim)
@[elab_as_elim] theorem dM.ind {h : Nat} {P : List ae → List Den → Rd → Prop} {bs : List ae} {Fs : List Den} {r : Rd} (n : P [] [] []) (c : ∀ b F r s bs Fs,IsB b F r h → dM bs Fs s h → P bs Fs s → P (b :: bs) (F :: Fs) (r ++ s)) (i : dM bs Fs r h) : P bs Fs r:=by
 refine dM.rec (motive_1:=fun a b c d e=>True) (motive_2:=fun a b c d e=>True) (motive_3:=fun a b c d e=>True) (motive_4:=fun a b c d e=>True) (motive_5:=fun as F r g i=>g = h → P as F r) ?_ ?_ ?_ ?_ ?_ ?_ ?_ ?_ ?_ ?_ ?_ ?_ ?_ ?_ ?_ ?_ i rfl <;> intros <;> first | trivial | (subst_vars; apply c <;> first | assumption | solve_by_elim)
section
variable {A : List ae} {pool : List Int} {n k : Int} {t : ah} {J : List ah} {d : Nat}
theorem eM {e : Nat} (he : 3 ≤ e) (hp : pool.length ≤ 1000000) {Q : ae → List ah → Prop} (h : ∀ v r pool' n' J',IsV v r 1 → Pl n n' r 3 → pool'.length ≤ pool.length → Q v (H A pool' n' k t (J ++ J'))) : W (sem e .f_law_value [.mref 34,.mref 2]) (H A pool n k t J) Q:=by
 obtain ⟨d,rfl⟩ : ∃ d,e = d + 3:=⟨e - 3,(KK he)⟩
 exact uU hp h
theorem A6 {e : Nat} (he : 1 ≤ e) {Q : ae → List ah → Prop} (hp : pool.length ≤ 1000000) {b : Int} (hb : b ≠ 0) : W (sem e .f_law_draw [.mref 2,.int b]) (H A pool n k t J) Q ↔ Q (.int (drV pool b)) (H A pool.dropLast n k t (J ++ [.lst []])):=by
 obtain ⟨d,rfl⟩ : ∃ d,e = d + 1:=⟨e - 1,(oJ he)⟩
 exact yZ hp hb
theorem dG {e : Nat} (he : 1 ≤ e) {Q : ae → List ah → Prop} (hp : pool.length ≤ 1000000) {b : Int} (hb : b ≠ 0) (xx : Q (.int (drV pool b)) (H A pool.dropLast n k t (J ++ [.lst []]))) : W (sem e .f_law_draw [.mref 2,.int b]) (H A pool n k t J) Q:=(A6 (e:=e) (he:=he) (Q:=Q) (hp:=hp) (b:=b) (hb:=hb)).mpr xx
theorem AB {e : Nat} (he : 1 ≤ e) {Q : ae → List ah → Prop} : W (sem e .f_law_place [.mref 34]) (H A pool n k t J) Q ↔ Q (.int (n + 1)) (H A pool (n + 1) k t J):=by
 obtain ⟨d,rfl⟩ : ∃ d,e = d + 1:=⟨e - 1,(oJ he)⟩
 exact vY
theorem gS {e : Nat} (he : 1 ≤ e) {Q : ae → List ah → Prop} (xx : Q (.int (n + 1)) (H A pool (n + 1) k t J)) : W (sem e .f_law_place [.mref 34]) (H A pool n k t J) Q:=(AB (e:=e) (he:=he) (Q:=Q)).mpr xx
theorem x0 {e : Nat} (he : 2 ≤ e) {Q : ae → List ah → Prop} (s : Fin 4) : W (sem e .f_law_var [.mref 34,.int (s.val : Int)]) (H A pool n k t J) Q ↔ Q (vaV (n + 1) s) (H A pool (n + 1) k t (J ++ [.gone] ++ [.gone])):=by
 obtain ⟨d,rfl⟩ : ∃ d,e = d + 2:=⟨e - 2,(JI he)⟩
 exact yP s
theorem GT {e : Nat} (he : 2 ≤ e) {Q : ae → List ah → Prop} (s : Fin 4) (xx : Q (vaV (n + 1) s) (H A pool (n + 1) k t (J ++ [.gone] ++ [.gone]))) : W (sem e .f_law_var [.mref 34,.int (s.val : Int)]) (H A pool n k t J) Q:=(x0 (e:=e) (he:=he) (Q:=Q) (s:=s)).mpr xx
theorem pG {e : Nat} (he : 4 ≤ e) (hp : pool.length ≤ 1000000) {Q : ae → List ah → Prop} (h : ∀ v r pool' n' J',IsV v r 3 → Pl n n' r 15 → pool'.length ≤ pool.length → Q v (H A pool' n' k t (J ++ J'))) : W (sem e .f_law_test [.mref 34,.mref 2]) (H A pool n k t J) Q:=by
 obtain ⟨d,rfl⟩ : ∃ d,e = d + 2:=⟨e - 2,(Kh he)⟩
 rw [vh]
 refine bK (loc0:=[some (.mref 34),some (.mref 2),none,none,none,none]) (by simp) rfl ?_
 have h' : ∀ v r p n' J2,IsV v r 3 → Pl n n' r 15 → p.length ≤ pool.length → Grw J J2 → Q v (H A p n' k t J2):=fun v r p n' J2 a b c ⟨X,e⟩=>e ▸ h v r p n' X a b c
 unfold fZ
 refine aB (aO (ba (aU (ao (v:=.mref 34) rfl (aR (mQ (xv (aj (aB (aO (dU (d:=d) rfl (ag (aR (ag (aA (ag (ao (v:=.mref 34) rfl (av (gS (Cp he) (ag (ao (v:=iy) rfl (ag (hG (ag (aA (ag (ao (v:=.mref 34) rfl (ag (ao (v:=.mref 2) rfl (av ?_))))))))))))))))))))))))))))))
 refine eM (BE he) hp fun v1 r1 p1 n1 J1 i1 l1 e1=>?_
 refine ag (aA (ag (ao (v:=.mref 34) rfl (ag (ao (v:=.mref 2) rfl (av ?_))))))
 refine eM (BE he) (j9 hp e1) fun v2 r2 p2 n2 J2 i2 l2 e2=>?_
 have dl:=iw p2
 refine av (kh rfl (av (lM (aj (aB (aO (aA (ag (ao (v:=.mref 2) rfl (ag (aR (av (dG (Cp he) (oE hp e1 e2) (b:=4) (by decide) (aj (aB (cG (bM (aU (ao (v:=.int (drV p2 4)) rfl (aR (Io (gn.mpr (wR (fun h2=>?_) (fun h2=>?_))))))))))))))))))))))))
 ·refine a8 (ao (v:=.inst 32 (ndF "<" (.int (n + 1)) iy (.lst [v1,v2]) .none)) rfl (aX (aF ?_)))
  exact h' _ _ _ _ _ (IsV.up (IsV.bin (op := "<") (by simp [hO]) i1 i2) (IO)) ((((l1.append l2)).wide (mC) (Int.le_refl _)).up (Ki)) (qz e1 e2 dl) (.app (.app (.app (.app (.app .nil)))))
 ·refine cB (aj (aB (aO (dU (d:=d) rfl (ag (aR (ag (aA (ag (ao (v:=.mref 34) rfl (av (gS (Cp he) (ag (ao (v:=iy) rfl (ag (hG (ag (aA (ag (ao (v:=.mref 34) rfl (ag (ao (v:=.mref 2) rfl (av ?_)))))))))))))))))))))))
  refine eM (BE he) (w3 hp e1 e2 dl) fun v3 r3 p3 n3 J3 i3 l3 e3=>?_
  refine ag (aA (ag (ao (v:=.mref 34) rfl (ag (ao (v:=.mref 2) rfl (av ?_))))))
  refine eM (BE he) (yn hp e1 e2 dl e3) fun v4 r4 p4 n4 J4 i4 l4 e4=>?_
  have pl : Pl n (n4 + 1) ((r1 ++ r2) ++ (r3 ++ r4)) 15:=(((l1.append l2).wide (mC) (Int.le_refl _)).append ((l3.append l4).wide (mC) (mC))).up (HA)
  refine av (kh rfl (av (lM (aj (a8 (dU (d:=d) rfl (ag (tl (bM (aU (ao (v:=.int (drV p2 4)) rfl (aR (eW (gn.mpr ?_))))))))))))))
  have hb : ∀ op,op ∈ hO → IsV (.inst 32 (ndF op (.int (n4 + 1)) iy (.lst [.inst 32 (ndF "<" (.int (n + 1)) iy (.lst [v1,v2]) .none),.inst 32 (ndF "=" (.int (n2 + 1)) iy (.lst [v3,v4]) .none)]) .none)) ((r1 ++ r2) ++ (r3 ++ r4)) 3:=fun op ho=>.bin ho (.bin (op := "<") (by simp [hO]) i1 i2) (.bin (op := "=") (by simp [hO]) i3 i4)
  refine wR (fun h3=>aR ?_) (fun h3=>aR ?_)
  all_goals
   refine ag (aA (ag (ao (v:=.mref 34) rfl (av (gS (Cp he) (ag (ao (v:=iy) rfl (ag (hG (ag (ao (v:=.inst 32 (ndF "<" (.int (n + 1)) iy (.lst [v1,v2]) .none)) rfl (ag (ao (v:=.inst 32 (ndF "=" (.int (n2 + 1)) iy (.lst [v3,v4]) .none)) rfl (av (kh rfl (av (lM (aF ?_))))))))))))))))))
   exact h' _ _ _ _ _ (hb _ (by simp [hO])) pl (BO e1 e2 dl e3 e4) (.app (.app (.app (.app (.app (.app (.app (.app (.app (.app (.app .nil)))))))))))
end
end Mine
end
section
open PySem PySem.W PySem.Spec PySem.Calls PySem.SeqAt PyProof.Rows
namespace Mine
theorem lu {t : Loc → Mo Bool} {m : Loc → Mo ae} {free : Loc} {acc : List ae} {M : List ah} {Q : List ae → List ah → Prop} : W (eF t m free [] acc) M Q ↔ Q acc M:=cb
theorem lm {t : Loc → Mo Bool} {m : Loc → Mo ae} {free : Loc} {acc : List ae} {M : List ah} {Q : List ae → List ah → Prop} (xx : Q acc M) : W (eF t m free [] acc) M Q:=(lu (t:=t) (m:=m) (free:=free) (acc:=acc) (M:=M) (Q:=Q)).mpr xx
theorem jH {t : Loc → Mo Bool} {m : Loc → Mo ae} {free : Loc} {a : ae} {as acc : List ae} {M : List ah} {Q : List ae → List ah → Prop} : W (eF t m free (a :: as) acc) M Q ↔ W (t (some a :: free)) M fun ok M1=>if ok then W (m (some a :: free)) M1 fun v M2=>W (eF t m free as (acc ++ [v])) M2 Q else W (eF t m free as acc) M1 Q:=by
 show W (bnd _ _) M Q ↔ _
 rw [ca]
 refine ⟨fun h=>b8 h fun ok M1 q=>?_,fun h=>b8 h fun ok M1 q=>?_⟩
 ·cases ok with
  | true=>exact ca.mp q
  | false=>exact q
 ·cases ok with
  | true=>exact ca.mpr q
  | false=>exact q
theorem ie {t : Loc → Mo Bool} {m : Loc → Mo ae} {free : Loc} {a : ae} {as acc : List ae} {M : List ah} {Q : List ae → List ah → Prop} (xx : W (t (some a :: free)) M fun ok M1=>if ok then W (m (some a :: free)) M1 fun v M2=>W (eF t m free as (acc ++ [v])) M2 Q else W (eF t m free as acc) M1 Q) : W (eF t m free (a :: as) acc) M Q:=(jH (t:=t) (m:=m) (free:=free) (a:=a) (as:=as) (acc:=acc) (M:=M) (Q:=Q)).mpr xx
theorem DF {loc : Loc} {M : List ah} {Q : Bool → List ah → Prop} : W (vC loc) M Q ↔ Q true M:=cb
theorem qt {loc : Loc} {M : List ah} {Q : Bool → List ah → Prop} (xx : Q true M) : W (vC loc) M Q:=(DF (loc:=loc) (M:=M) (Q:=Q)).mpr xx
theorem Do {fr : List (Nat × Str)} {l : Loc → Mo ae} {t : Loc → Mo Bool} {m : Loc → Mo ae} {loc : Loc} {M : List ah} {Q : ae → List ah → Prop} : W (iO fr l t m loc) M Q ↔ W (l loc) M fun a M1=>∃ as,cV a = some as ∧ bV as.length = true ∧ W (eF t m (fr.map fun q=>(loc[q.1]?).join) as []) M1 fun vs M2=>Q (.mref M2.length) (M2 ++ [.lst vs]):=by
 unfold iO
 rw [ca]
 refine ⟨fun h=>b8 h fun a M1 q=>?_,fun h=>b8 h fun a M1 q=>?_⟩
 ·obtain ⟨b,M2,e,q⟩:=q
  cases ha : cV a with
  | none=>rw [ha] at e; cases e
  | some as=>
   rw [ha] at e
   dsimp only at e
   split at e
   ·rename_i hs
    refine ⟨as,rfl,hs,?_⟩
    obtain ⟨vs,M3,e1,e2⟩:=aL e
    obtain ⟨rfl,rfl⟩:=dS e2
    exact ⟨vs,M3,e1,q⟩
   ·cases e
 ·obtain ⟨as,ha,hs,vs,M2,e,q⟩:=q
  refine ⟨_,_,?_,q⟩
  rw [ha]
  dsimp only
  rw [if_pos hs,qf e]; rfl
theorem rd {fr : List (Nat × Str)} {l : Loc → Mo ae} {t : Loc → Mo Bool} {m : Loc → Mo ae} {loc : Loc} {M : List ah} {Q : ae → List ah → Prop} (xx : W (l loc) M fun a M1=>∃ as,cV a = some as ∧ bV as.length = true ∧ W (eF t m (fr.map fun q=>(loc[q.1]?).join) as []) M1 fun vs M2=>Q (.mref M2.length) (M2 ++ [.lst vs])) : W (iO fr l t m loc) M Q:=(Do (fr:=fr) (l:=l) (t:=t) (m:=m) (loc:=loc) (M:=M) (Q:=Q)).mpr xx
theorem GS {i : Nat} {x v : Int} {body rest : Loc → Mo (Fl × Loc)} {loc : Loc} {M : List ah} {Q : Fl × Loc → List ah → Prop} (h : loc[i]? = some (some (.int v))) :
  W (au (sIf (a6 (aE oEq (af i) (ar (.int x)))) body bE) rest loc) M Q ↔ if v = x then W (body loc) M (jh rest Q) else W (rest loc) M Q:=by
 rw [eP,kc,dP,dL,bU h,dv,qp,gn]
 by_cases hx : v = x
 ·simp only [hx,decide_true,if_true]
 ·simp only [hx,decide_false,Bool.false_eq_true,if_false]
  rw [hJ]; rfl
theorem xz {i : Nat} {x v : Int} {body rest : Loc → Mo (Fl × Loc)} {loc : Loc} {M : List ah} {Q : Fl × Loc → List ah → Prop} (h : loc[i]? = some (some (.int v))) (xx : if v = x then W (body loc) M (jh rest Q) else W (rest loc) M Q) : W (au (sIf (a6 (aE oEq (af i) (ar (.int x)))) body bE) rest loc) M Q:=(GS (i:=i) (x:=x) (v:=v) (body:=body) (rest:=rest) (loc:=loc) (M:=M) (Q:=Q) (h:=h)).mpr xx
theorem Bz {n : Int} {M : List ah} {Q : ae → List ah → Prop} : W (cX [.int n]) M Q ↔ Q (.rng 0 n 1) M:=cb
theorem jS {n : Int} {M : List ah} {Q : ae → List ah → Prop} (xx : Q (.rng 0 n 1) M) : W (cX [.int n]) M Q:=(Bz (n:=n) (M:=M) (Q:=Q)).mpr xx
section
variable {A : List ae} {pool : List Int} {n k : Int} {t : ah} {J X : List ah} {d : Nat}
theorem to : (H A pool n k t J).length = J.length + 53:=by unfold H; simp
theorem gA {x : ah} : (H A pool n k t (J ++ x :: X))[J.length + 53]? = some x:=by
 show (J ++ x :: X)[J.length]? = _
 simp
theorem qZ {x y : ah} : (H A pool n k t (J ++ x :: X)).set (J.length + 53) y = H A pool n k t (J ++ y :: X):=by
 show H A pool n k t ((J ++ x :: X).set J.length y) = _
 congr 1
 simp
theorem xK {vs : List ae} {v : ae} {Q : ae → List ah → Prop} (hs : bV vs.length = true) : W (be [.mref (J.length + 53),v]) (H A pool n k t (J ++ .lst vs :: X)) Q ↔ Q .none (H A pool n k t (J ++ .lst (vs ++ [v]) :: X)):=by
 refine bJ ?_
 unfold be
 dsimp only
 rw [gA]
 dsimp only
 rw [hs,if_pos rfl,qZ]
theorem gN {vs : List ae} {v : ae} {Q : ae → List ah → Prop} (hs : bV vs.length = true) (xx : Q .none (H A pool n k t (J ++ .lst (vs ++ [v]) :: X))) : W (be [.mref (J.length + 53),v]) (H A pool n k t (J ++ .lst vs :: X)) Q:=(xK (vs:=vs) (v:=v) (Q:=Q) (hs:=hs)).mpr xx
theorem Di {i : Nat} {loc : Loc} {vs : List ae} {Q : ae → List ah → Prop} (h : loc[i]? = some (some (.mref (J.length + 53)))) : W (aD (af i) loc) (H A pool n k t (J ++ .lst vs :: X)) Q ↔ Q (.lst vs) (H A pool n k t (J ++ .gone :: X)):=by
 rw [kA,bU h]
 constructor
 ·rintro ⟨j,mo,v,e1,e2,e3,q⟩
  cases e1
  rw [gA] at e2; cases e2; cases e3
  rw [qZ] at q; exact q
 ·intro q
  refine ⟨_,_,_,rfl,gA,rfl,?_⟩
  rw [qZ]; exact q
theorem nw {i : Nat} {loc : Loc} {vs : List ae} {Q : ae → List ah → Prop} (h : loc[i]? = some (some (.mref (J.length + 53)))) (xx : Q (.lst vs) (H A pool n k t (J ++ .gone :: X))) : W (aD (af i) loc) (H A pool n k t (J ++ .lst vs :: X)) Q:=(Di (i:=i) (loc:=loc) (vs:=vs) (Q:=Q) (h:=h)).mpr xx
theorem Fx {loc : Loc} {Q : Fl × Loc → List ah → Prop} (h : loc[0]? = some (some (.mref 34))) : W (eO aV k0 fK (af 0) (ar (.str "spare")) (ar (.int 1)) loc) (H A pool n k t J) Q ↔ Q (.next,loc) (H A pool n (k - 1) t J):=by
 rw [nE,bU h,dv,v8,dv,CT]
 exact bJ (a:=()) (by kernel_rfl)
theorem EK {loc : Loc} {Q : Fl × Loc → List ah → Prop} (h : loc[0]? = some (some (.mref 34))) (xx : Q (.next,loc) (H A pool n (k - 1) t J)) : W (eO aV k0 fK (af 0) (ar (.str "spare")) (ar (.int 1)) loc) (H A pool n k t J) Q:=(Fx (loc:=loc) (Q:=Q) (h:=h)).mpr xx
theorem dr2 (pool : List Int) : drV pool 2 = 0 ∨ drV pool 2 = 1:=by
 have:=uQ pool (b:=2) (by decide)
 exact (Int.lt_or_eq_of_le (Int.le_of_lt_add_one (b:=1) this.2)).imp (fun h=>Int.le_antisymm (Int.le_of_lt_add_one (b:=0) h) this.1) id
noncomputable def dB : Nat → Nat
 | 0=>6
 | h + 1=>31 + 3 * (2 * dB h + 1)
noncomputable def CE (h : Nat) : Prop:=∀ (e : Nat) (A : List ae) (pool : List Int) (n k : Int) (t : ah) (J : List ah) (Q : ae → List ah → Prop),8 + 5 * h ≤ e → h ≤ 3 → pool.length ≤ 1000000 →
 (∀ v F r pool' n' k' J',IsS v F r h → Pl n n' r (dB h : Int) → pool'.length ≤ pool.length → Q v (H A pool' n' k' t (J ++ J'))) → W (sem e .f_law_deed [.mref 34,.mref 2,.int (3 - (h : Int))]) (H A pool n k t J) Q
noncomputable def qC (h : Nat) : Prop:=∀ (e : Nat) (A : List ae) (pool : List Int) (n k : Int) (t : ah) (J : List ah) (Q : ae → List ah → Prop),9 + 5 * h ≤ e → h ≤ 3 → pool.length ≤ 1000000 →
 (∀ v F r pool' n' k' J',IsB v F r h → Pl n n' r (2 * (dB h : Int) + 1) → pool'.length ≤ pool.length → Q v (H A pool' n' k' t (J ++ J'))) → W (sem e .f_law_block [.mref 34,.mref 2,.int (3 - (h : Int))]) (H A pool n k t J) Q
noncomputable def E9 (h : Nat) : Prop:=∀ (e : Nat) (A : List ae) (pool : List Int) (n k : Int) (t : ah) (J : List ah) (c : Int) (Q : ae → List ah → Prop),10 + 5 * h ≤ e → h ≤ 2 → (c = 1 ∨ c = 2) → pool.length ≤ 1000000 →
 (∀ kids Fs r pool' n' k' J',cD kids Fs r h → kids.length ≤ 4 → Pl n n' r (2 * (15 + (2 * (dB h : Int) + 1))) → pool'.length ≤ pool.length → Q (.mref (J.length + 53)) (H A pool' n' k' t (J ++ .lst kids :: J'))) → W (sem e .f_law_arms [.mref 34,.mref 2,.int (2 - (h : Int)),.int c]) (H A pool n k t J) Q
theorem rS {h : Nat} (D : CE h) : qC h:=by
 intro e A pool n k t J Q he h3 hp hQ
 obtain ⟨d,rfl⟩ : ∃ d,e = d + 2:=⟨e - 2,(KB he h3)⟩
 rw [tP]
 refine bK (loc0:=[some (.mref 34),some (.mref 2),some (.int (3 - (h : Int))),none]) (by simp) rfl ?_
 unfold fC
 refine aB (aO (rd (aA (ag (aU (aR (aA (wr rfl (dG (lD) hp (by decide) (fL (av (jS ?_))))))))))))
 have dl:=iw pool
 have item : ∀ (lap : ae) (M : List ah) (Q' : ae → List ah → Prop),W (aq (sem (d + 1) .f_law_deed) (ab (af 1) (ab (af 2) (ab (af 3) am))) (some lap :: ([(0,("book" : Str)),(1, "pool"),(2, "deep")].map fun q=>(([some (.mref 34),some (.mref 2),some (.int (3 - (h : Int))),none] : Loc)[q.1]?).join))) M Q' ↔ W (sem (d + 1) .f_law_deed [.mref 34,.mref 2,.int (3 - (h : Int))]) M Q':=by
  intro lap M Q'
  rw [qi,fI,bU (v:=.mref 34) rfl,fI,bU (v:=.mref 2) rfl,fI,bU (v:=.int (3 - (h : Int))) rfl,fR]
 have fin : ∀ (kids : List ae) (F : Den) (r : Rd) (pool' : List Int) (n' k' : Int) (J' : List ah),IsL kids F r h → kids.length ≤ 2 → Pl n n' r (2 * (dB h : Int)) → pool'.length ≤ pool.length →
   jh (bL (aD (aq (sem (d + 1) .Node) (ab (ar (.str "block")) (ab (aq (sem (d + 1) .f_law_place) (ab (af 0) am)) (ab (ar .none) (ab (aD (af 3)) am))))))) (iN Q) (.next,[some (.mref 34),some (.mref 2),some (.int (3 - (h : Int))),some (.mref (H A pool' n' k' t (J ++ J')).length)]) (H A pool' n' k' t (J ++ J') ++ [.lst kids]):=by
  intro kids F r pool' n' k' J' i hk l el
  refine aj (a8 (dU (d:=d) rfl (ag (aR (ag (aA (wr rfl ?_)))))))
  rw [gu]
  refine gS (lD) (ag (aR (ag ?_)))
  rw [to]
  refine nw rfl (av (CP ?_))
  rw [gu]
  simp only [List.append_assoc]
  exact hQ _ _ _ _ _ _ _ (.mk i) ((l.wide (Int.le_refl _) (mC)).up (Hc)) el
 rcases dr2 pool with h2 | h2
 ·rw [h2]
  refine ⟨[.int 0],by kernel_rfl,rfl,?_⟩
  refine ie (qt (ifp rfl ?_))
  rw [item]
  refine D _ _ _ _ _ _ _ _ (D4 he) h3 (j9 hp dl) fun v F r p1 n1 k1 J1 i l el=>?_
  refine lm ?_
  have:=fin [v] _ _ p1 n1 k1 ([.lst []] ++ J1) (.cons i .nil) (by simp) (by rw [List.append_nil]; exact l.up (Hx)) (o79 dl el)
  simp only [List.append_assoc] at this ⊢
  exact this
 ·rw [h2]
  refine ⟨[.int 0,.int 1],by kernel_rfl,rfl,?_⟩
  refine ie (qt (ifp rfl ?_))
  rw [item]
  refine D _ _ _ _ _ _ _ _ (D4 he) h3 (j9 hp dl) fun v F r p1 n1 k1 J1 i l el=>?_
  refine ie (qt (ifp rfl ?_))
  rw [item]
  refine D _ _ _ _ _ _ _ _ (D4 he) h3 (oE hp dl el) fun v2 F2 r2 p2 n2 k2 J2 i2 l2 el2=>?_
  refine lm ?_
  have:=fin [v,v2] _ _ p2 n2 k2 ([.lst []] ++ J1 ++ J2) (.cons i (.cons i2 .nil)) (by simp) (by rw [List.append_nil]; exact (l.append l2).up (Hk)) (qz dl el el2)
  simp only [List.append_assoc] at this ⊢
  exact this
theorem Cn {h : Nat} (Bk : qC h) : E9 h:=by
 intro e A pool n k t J c Q he h3 hc hp hQ
 obtain ⟨d,rfl⟩ : ∃ d,e = d + 2:=⟨e - 2,(GY he h3)⟩
 rw [tZ]
 refine bK (loc0:=[some (.mref 34),some (.mref 2),some (.int (2 - (h : Int))),some (.int c),none,none]) (by simp) rfl ?_
 unfold f6
 refine aB (aO (cU (av ?_)))
 refine ⟨rfl,?_⟩
 refine aj (aB (ci (wr rfl ?_)))
 rw [to,gu]
 have turn : ∀ (lap : ae) (z : Option ae) (pool : List Int) (n k : Int) (kids : List ae) (J2 : List ah) (R : Fl × Loc → List ah → Prop),pool.length ≤ 1000000 → kids.length ≤ 100 →
   (∀ tv rt bv F r pool' n' k' J3,IsV tv rt 3 → IsB bv F r h → Pl n n' (rt ++ r) (15 + (2 * (dB h : Int) + 1)) → pool'.length ≤ pool.length → R (.next,[some (.mref 34),some (.mref 2),some (.int (2 - (h : Int))),some (.int c),some (.mref (J.length + 53)),some lap]) (H A pool' n' k' t (J ++ .lst (kids ++ [tv] ++ [bv]) :: (J2 ++ J3)))) →
   W (au (bw (bG be (af 4) (ab (aq (sem (d + 1) .f_law_test) (ab (af 0) (ab (af 1) am))) am))) (bw (bG be (af 4) (ab (aq (sem (d + 1) .f_law_block) (ab (af 0) (ab (af 1) (ab (aE eH (af 2) (ar (.int 1))) am)))) am)))
    (([some (.mref 34),some (.mref 2),some (.int (2 - (h : Int))),some (.int c),some (.mref (J.length + 53)),z] : Loc).set 5 (some lap))) (H A pool n k t (J ++ .lst kids :: J2)) R:=by
  intro lap z pool n k kids J2 R hp hk hR
  refine aB (bu (cq (ao (v:=.mref (J.length + 53)) rfl ?_)))
  refine ⟨_,_,rfl,gA,?_⟩
  refine ag (aA (wr rfl ?_))
  refine pG (Ie h3 he) hp fun tv rt p1 n1 J3 i1 l1 e1=>?_
  refine av ?_
  rw [List.append_assoc,List.cons_append]
  refine gN (bi (AH hk)) (aj (bu (cq (ao (v:=.mref (J.length + 53)) rfl ?_))))
  refine ⟨_,_,rfl,gA,?_⟩
  refine ag (aA (ag (ao (v:=.mref 34) rfl (ag (ao (v:=.mref 2) rfl (ag (aU (ao (v:=.int (2 - (h : Int))) rfl (aR (fL (av ?_)))))))))))
  rw [show (2 - (h : Int)) + 1 = 3 - (h : Int) by exact JP]
  refine Bk _ _ _ _ _ _ _ _ (Hz he) (It h3) (j9 hp e1) fun bv F r p2 n2 k2 J4 i2 l2 e2=>?_
  refine av ?_
  rw [List.append_assoc,List.cons_append]
  refine gN (bi (by rw [List.length_append]; simp; exact Kd hk)) ?_
  have:=hR tv rt bv F r p2 n2 k2 (J3 ++ J4) i1 i2 (l1.append l2) (o79 e1 e2)
  simp only [List.append_assoc] at this ⊢
  exact this
 rcases hc with rfl | rfl
 ·refine ⟨[.int 0],by kernel_rfl,?_⟩
  refine aY ?_
  refine turn _ _ _ _ _ [] [] _ hp (by simp) fun tv rt bv F r p1 n1 k1 J3 i1 i2 l el=>?_
  dsimp only
  refine bN (aj (a8 (ao (v:=.mref (J.length + 53)) rfl (aF ?_))))
  have:=hQ [tv,bv] [(rt,F)] (rt ++ (r ++ [])) p1 n1 k1 J3 (.cons i1 i2 .nil) (by simp) (by rw [List.append_nil]; exact l.up (H9)) el
  exact this
 ·refine ⟨[.int 0,.int 1],by kernel_rfl,?_⟩
  refine aY ?_
  refine turn _ _ _ _ _ [] [] _ hp (by simp) fun tv rt bv F r p1 n1 k1 J3 i1 i2 l el=>?_
  dsimp only
  refine aY ?_
  refine turn _ _ _ _ _ [tv,bv] _ _ (j9 hp el) (by simp) fun tv2 rt2 bv2 F2 r2 p2 n2 k2 J4 i3 i4 l2 el2=>?_
  dsimp only
  refine bN (aj (a8 (ao (v:=.mref (J.length + 53)) rfl (aF ?_))))
  have pl : Pl n n2 (rt ++ (r ++ (rt2 ++ (r2 ++ [])))) (2 * (15 + (2 * (dB h : Int) + 1))):=by
   have:=(l.append l2).up (c':=2 * (15 + (2 * (dB h : Int) + 1))) (Hq)
   simp only [List.append_assoc,List.append_nil] at this ⊢
   exact this
  have:=hQ [tv,bv,tv2,bv2] [(rt,F),(rt2,F2)] _ p2 n2 k2 ([] ++ J3 ++ J4) (.cons i1 i2 (.cons i3 i4 .nil)) (by simp) pl (o79 el el2)
  simp only [List.append_assoc,List.nil_append] at this ⊢
  exact this
end
end Mine
end
section
open PySem PySem.W PySem.Spec PySem.Calls PySem.SeqAt PyProof.Rows
namespace Mine
theorem F5 {ms : Loc → Mo (List ae)} {loc : Loc} {M : List ah} {Q : ae → List ah → Prop} : W (jA ms loc) M Q ↔ W (ms loc) M fun vs M1=>bV vs.length = true ∧ Q (.tup vs) M1:=by
 unfold jA; rw [ca]
 constructor
 ·intro h; refine b8 h fun vs M1 ⟨a,M2,e,q⟩=>?_
  split at e
  ·rename_i hs; cases e; exact ⟨hs,q⟩
  ·cases e
 ·intro h; refine b8 h fun vs M1 ⟨hs,q⟩=>⟨_,_,?_,q⟩
  dsimp only
  rw [if_pos hs]
theorem so {ms : Loc → Mo (List ae)} {loc : Loc} {M : List ah} {Q : ae → List ah → Prop} (xx : W (ms loc) M fun vs M1=>bV vs.length = true ∧ Q (.tup vs) M1) : W (jA ms loc) M Q:=(F5 (ms:=ms) (loc:=loc) (M:=M) (Q:=Q)).mpr xx
theorem om (X : Fin 16) (a b : Rd) : dW X (a ++ b) = dW X a ++ dW X b:=List.filter_append ..
section
variable {A : List ae} {pool : List Int} {n k : Int} {t : ah} {J X : List ah} {d : Nat}
theorem A9 {Q : ae → List ah → Prop} {M : List ah} : W (aK "type" fg) M Q ↔ Q dH M:=bJ (by kernel_rfl)
theorem Bf {Q : ae → List ah → Prop} {M : List ah} (xx : Q dH M) : W (aK "type" fg) M Q:=(A9 (Q:=Q) (M:=M)).mpr xx
theorem drK (pool : List Int) : ∃ s : Fin 4,drV pool 4 = (s.val : Int):=D7 pool
theorem Ei {l : Loc → Mo ae} {loc : Loc} {M : List ah} {Q : ae → List ah → Prop} : W (aD l loc) M Q ↔ W (l loc) M (mv Q):=kA
theorem AN {l : Loc → Mo ae} {loc : Loc} {M : List ah} {Q : ae → List ah → Prop} (xx : W (l loc) M (mv Q)) : W (aD l loc) M Q:=(Ei (l:=l) (loc:=loc) (M:=M) (Q:=Q)).mpr xx
theorem Cl {a c : ae} {vs us : List ae} {M : List ah} {Q : ae → List ah → Prop} (h1 : cA a M = some vs) (h2 : cA c M = some us) (hs : bV (vs.length + us.length) = true) : W (g3 a c) M (mv Q) ↔ Q (.lst (vs ++ us)) (M ++ [.gone]):=by
 have e : g3 a c M = some (.mref M.length,M ++ [.lst (vs ++ us)]):=by
  unfold g3
  rw [h1,h2]
  dsimp only
  rw [if_pos hs]; rfl
 rw [bJ e]
 constructor
 ·rintro ⟨i,mo,v,e1,e2,e3,q⟩
  cases e1
  rw [bH] at e2; cases e2; cases e3
  rw [cC] at q; exact q
 ·intro q
  refine ⟨_,_,_,rfl,bH,rfl,?_⟩
  rw [cC]; exact q
theorem wn {a c : ae} {vs us : List ae} {M : List ah} {Q : ae → List ah → Prop} (h1 : cA a M = some vs) (h2 : cA c M = some us) (hs : bV (vs.length + us.length) = true) (xx : Q (.lst (vs ++ us)) (M ++ [.gone])) : W (g3 a c) M (mv Q):=(Cl (a:=a) (c:=c) (vs:=vs) (us:=us) (M:=M) (Q:=Q) (h1:=h1) (h2:=h2) (hs:=hs)).mpr xx
theorem wu {y x : ah} : (H A pool n k t (J ++ y :: x :: X))[J.length + 54]? = some x:=by
 show (J ++ y :: x :: X)[J.length + 1]? = _
 rw [List.getElem?_append_right (o97)]
 simp
theorem ug {y : ah} {vs : List ae} {v : ae} {Q : ae → List ah → Prop} (hs : bV vs.length = true) : W (be [.mref (J.length + 54),v]) (H A pool n k t (J ++ y :: .lst vs :: X)) Q ↔ Q .none (H A pool n k t (J ++ y :: .lst (vs ++ [v]) :: X)):=by
 refine bJ ?_
 unfold be
 dsimp only
 rw [wu]
 dsimp only
 rw [hs,if_pos rfl]
 have : (H A pool n k t (J ++ y :: .lst vs :: X)).set (J.length + 54) (.lst (vs ++ [v])) = H A pool n k t (J ++ y :: .lst (vs ++ [v]) :: X):=by
  show H A pool n k t ((J ++ y :: .lst vs :: X).set (J.length + 1) (.lst (vs ++ [v]))) = _
  rw [List.set_append_right _ _ (o97)]
  simp
 rw [this]
theorem uT {y : ah} {vs : List ae} {v : ae} {Q : ae → List ah → Prop} (hs : bV vs.length = true) (xx : Q .none (H A pool n k t (J ++ y :: .lst (vs ++ [v]) :: X))) : W (be [.mref (J.length + 54),v]) (H A pool n k t (J ++ y :: .lst vs :: X)) Q:=(ug (y:=y) (vs:=vs) (v:=v) (Q:=Q) (hs:=hs)).mpr xx
theorem uK {h : Nat} (he : 1 ≤ d) (h3 : h ≤ 3) (hp : pool.length ≤ 1000000) {rest : Loc → Mo (Fl × Loc)} {Q : Fl × Loc → List ah → Prop}
  (hR : ∀ (dr : Int) (pool' : List Int) (k' : Int) (J' : List ah),0 ≤ dr → dr < 9 → (h = 0 → dr < 3) → pool'.length ≤ pool.length → W (rest ([some (.mref 34),some (.mref 2),some (.int (3 - (h : Int))),some (.int dr),some (.int (n + 1))] ++ List.replicate 8 none)) (H A pool' (n + 1) k' t (J ++ J')) Q) :
  W (au (eO aV k0 fK (af 0) (ar (.str "spare")) (ar (.int 1))) (au (a7 3 (aq (sem d .f_law_draw) (ab (af 1) (ab (eIf (kM (a6 (aE oLt (af 2) (ar (.int 3)))) (a6 (aE oGt (aE aV (af 0) (ar (.str "spare"))) (ar (.int 0))))) (ar (.int 9)) (ar (.int 3))) am)))) (au (a7 4 (aq (sem d .f_law_place) (ab (af 0) am))) rest)) ([some (.mref 34),some (.mref 2),some (.int (3 - (h : Int)))] ++ List.replicate 10 none)) (H A pool n k t J) Q:=by
 refine aB (EK rfl (aj (aB (aO (aA (ag (ao (v:=.mref 2) rfl (ag (tl (h8 (wr rfl ?_)))))))))))
 have dl:=iw pool
 have fin : ∀ b : Int,0 < b → b ≤ 9 → (h = 0 → b ≤ 3) → W (sem d .f_law_draw [.mref 2,.int b]) (H A pool n (k - 1) t J) fun a M1=>jh (au (a7 4 (aq (sem d .f_law_place) (ab (af 0) am))) rest) Q (.next,(([some (.mref 34),some (.mref 2),some (.int (3 - (h : Int)))] ++ List.replicate 10 none : Loc).set 3 (some a))) M1:=by
  intro b h0 h9 hh
  refine dG he hp (fun a=>H8 h0 h9 a) (aj (aB (aO (aA (wr rfl (gS he (aj ?_)))))))
  obtain ⟨a1,a2⟩:=uQ pool h0
  exact hR _ _ _ _ a1 (Jm h0 h9 a2) (fun z=>Int.lt_of_lt_of_le a2 (hh z)) dl
 by_cases hd : (3 - (h : Int)) < 3
 ·simp only [hd,decide_true,if_true]
  refine bM (aU (aU (ao (v:=.mref 34) rfl (aR (Be (aR (w9 (b9 ?_))))))))
  by_cases hk : k - 1 > 0
  ·simp only [hk,decide_true,if_true]
   refine aR (av ?_)
   exact fin 9 (by decide) (by decide) (fun z=>by subst z; exact absurd hd (by decide))
  ·simp only [hk,decide_false,Bool.false_eq_true,if_false]
   refine aR (av ?_)
   exact fin 3 (by decide) (by decide) (fun _=>Int.le_refl _)
 ·simp only [hd,decide_false,Bool.false_eq_true,if_false]
  refine aR (av ?_)
  exact fin 3 (by decide) (by decide) (fun _=>Int.le_refl _)
theorem dBs (g : Nat) : ((dB (g + 1) : Nat) : Int) = 31 + 3 * (2 * (dB g : Int) + 1):=by show ((31 + 3 * (2 * dB g + 1) : Nat) : Int) = _; exact HQ
theorem FN : ∀ h : Nat,6 ≤ dB h
 | 0=>Nat.le_refl _
 | h + 1=>by show 6 ≤ 31 + _; exact Jr
theorem dB6 (h : Nat) {a : Int} (ha : a ≤ 6) : a ≤ (dB h : Int):=Int.le_trans ha (Int.ofNat_le.mpr (FN h))
theorem nn2 (n : Int) : n + 1 + 1 - n + 3 ≤ 6:=by rw [Int.add_assoc,Int.add_comm n,Int.add_sub_cancel]; decide
theorem nn3 (n : Int) : n + 1 + 1 + 1 - n + 3 ≤ 6:=by rw [Int.add_assoc,Int.add_assoc,Int.add_comm n,Int.add_sub_cancel]; decide
theorem E2 (p : List Int) : 1 + drV p 2 = 1 ∨ 1 + drV p 2 = 2:=(dr2 p).imp (fun h=>by rw [h]; rfl) fun h=>by rw [h]; rfl
theorem qB {e : Nat} (he : 2 ≤ e) {A : List ae} {pool p : List Int} {n k : Int} {t : ah} {J : List ah} {Q : ae → List ah → Prop} (x : ∀ s : Fin 4,Q (vaV (n + 1) s) (H A pool (n + 1) k t (J ++ [.gone] ++ [.gone]))) : W (sem e .f_law_var [.mref 34,.int (drV p 4)]) (H A pool n k t J) Q:=by
 obtain ⟨s,hs⟩:=D7 p
 rw [hs]; exact (x0 he s).mpr (x s)
theorem jJ {c : Fn → List ae → Mo ae} {A : List ae} {pool : List Int} {n k : Int} {t : ah} {J : List ah} {op : Str} {place ty kids value : ae} {Q : ae → List ah → Prop} (x : Q (.inst 32 (ndF op place ty kids value)) (H A pool n k t (J ++ [.gone]))) : W (mr c .Node [.str op,place,ty,kids,value]) (H A pool n k t J) (mv Q):=Fk x
theorem zz {α : Type} {m : Mo α} {A : List ae} {pool : List Int} {n k : Int} {t x : ah} {J X Y : List ah} {Q : α → List ah → Prop} (h : W m (H A pool n k t (J ++ x :: (X ++ Y))) Q) : W m (H A pool n k t (J ++ x :: X ++ Y)) Q:=by rw [List.append_assoc]; exact h
theorem EB {F : List ae → Mo ae} {x y : Int} {a b c : ae} {M : List ah} {Q : ae → List ah → Prop} (h : x = y) (w : W (F [a,b,.int y,c]) M Q) : W (F [a,b,.int x,c]) M Q:=h ▸ w
theorem zW {F : List ae → Mo ae} {x y : Int} {a b : ae} {M : List ah} {Q : ae → List ah → Prop} (h : x = y) (w : W (F [a,b,.int y]) M Q) : W (F [a,b,.int x]) M Q:=h ▸ w
theorem zJ {x y : Int} {M : List ah} {Q : ae → List ah → Prop} (a : x = y → Q (.bool true) M) (b : ¬ x = y → Q (.bool false) M) : W (oEq (.int x) (.int y)) M Q:=by
 refine eW ?_
 by_cases h : x = y
 ·rw [decide_eq_true h]; exact a h
 ·rw [decide_eq_false h]; exact b h
theorem KI {x y z : Int} {M : List ah} {l : Loc} {i : Nat} {Q : Bool → List ah → Prop} (hl : l[i]? = some (some (.int x))) (a : x = y ∨ x = z → Q true M) (b : ¬ (x = y ∨ x = z) → Q false M) : W (tOr (a6 (aE oEq (af i) (ar (.int y)))) (a6 (aE oEq (af i) (ar (.int z)))) l) M Q:=
 Cy (bM (aU (ao hl (aR (zJ (fun h=>⟨_,rfl,ifp rfl (a (.inl h))⟩) fun h=>⟨_,rfl,ifn (by decide) (bM (aU (ao hl (aR (zJ (fun h'=>⟨_,rfl,a (.inr h')⟩) fun h'=>⟨_,rfl,b fun z=>z.elim h h'⟩)))))⟩)))))
theorem wz {h : Nat} (Bk : ∀ g,h = g + 1 → qC g) : CE h:=by
 intro e A pool n k t J Q he h3 hp hQ
 obtain ⟨d,rfl⟩ : ∃ d,e = d + 2:=⟨e - 2,(KE he h3)⟩
 rw [uy]
 refine bK (loc0:=[some (.mref 34),some (.mref 2),some (.int (3 - (h : Int)))] ++ List.replicate 10 none) (by simp) rfl ?_
 have hQ' : ∀ v F r p n' k' J2,IsS v F r h → Pl n n' r (dB h : Int) → p.length ≤ pool.length → Grw J J2 → Q v (H A p n' k' t J2):=fun v F r p n' k' J2 a b c ⟨X,e⟩=>e ▸ hQ v F r p n' k' X a b c
 unfold f4
 refine uK (lD) h3 hp fun dr p1 k1 J1 d0 d9 dh e1=>?_
 have dl1:=iw p1
 refine xz (v:=dr) rfl ?_
 by_cases c0 : dr = 0
 ·refine ifp c0 (aB (aO (aA (ag (ao (v:=.mref 34) rfl (ag (aA (wr rfl (dG (b:=4) (lD) (j9 hp e1) (by decide) (av (qB (Dq h3 he) fun s=>aj (a8 (dU (d:=d) rfl (ag (aR (ag (ao (v:=.int (n + 1)) rfl (ag (aR (ag (hG (ag (ao (v:=vaV (n + 1 + 1) s) rfl (ag (aA (wr rfl ?_))))))))))))))))))))))))))
  refine eM (DJ h3 he) (oE hp e1 dl1) fun v r p2 n2 J2 i l e2=>av (kh rfl (av (lM (aX (aF ?_)))))
  exact hQ' _ _ _ _ _ _ _ (.asg (s:=s) (i.up (t9))) (((Pl.one (DX) (Int.le_refl _)).append l).up (dB6 h (nn2 _))) (qz e1 dl1 e2) (.app (.app (.app (.app (.app (.app (.app .nil)))))))
 refine ifn c0 (xz (v:=dr) rfl ?_)
 by_cases c1 : dr = 1
 ·refine ifp c1 (aB (aO (aA (ag (ao (v:=.mref 34) rfl (ag (aA (wr rfl (dG (b:=4) (lD) (j9 hp e1) (by decide) (av (qB (Dq h3 he) fun s=>aj (a8 (dU (d:=d) rfl (ag (aR (ag (ao (v:=.int (n + 1)) rfl (ag (aR (ag (hG (ag (ao (v:=vaV (n + 1 + 1) s) rfl (ag (aA (wr rfl ?_))))))))))))))))))))))))))
  refine eM (DJ h3 he) (oE hp e1 dl1) fun v r p2 n2 J2 i l e2=>av (kh rfl (wr rfl (jJ (aX (aF ?_)))))
  exact hQ' _ _ _ _ _ _ _ (.inc (s:=s) (i.up (t9))) (((Pl.one (DX) (Int.le_refl _)).append l).up (dB6 h (nn2 _))) (qz e1 dl1 e2) (.app (.app (.app (.app (.app (.app (.app .nil)))))))
 refine ifn c1 (xz (v:=dr) rfl ?_)
 by_cases c2 : dr = 2
 ·refine ifp c2 (aB (aO (dU (d:=d) rfl (ag (aR (ag (aA (wr rfl (gS (lD) (ag (ba (aU (ao (v:=.mref 34) rfl (aR (sN (Bf (ag (hG (av (kh rfl ?_))))))))))))))))))))
  refine ag (aU (ao (v:=.mref 34) rfl (aR (sN (av (jJ ?_))))))
  refine aj (aB (aO (aA (ag (ao (v:=.mref 34) rfl (ag (aA (wr rfl (dG (b:=4) (lD) (j9 hp e1) (by decide) (av (qB (Dq h3 he) fun s=>aj (a8 (dU (d:=d) rfl (ag (aR (ag (ao (v:=.int (n + 1)) rfl (ag (aR (ag (hG (ag (ao (v:=ndV "proc" (n + 1 + 1) dH [] fg) rfl (ag (ao (v:=vaV (n + 1 + 1 + 1) s) rfl (ag (aA (wr rfl ?_))))))))))))))))))))))))))))
  refine eM (DJ h3 he) (oE hp e1 dl1) fun v r p2 n2 J2 i l e2=>av (kh rfl (av (lM (aX (aF ?_)))))
  exact hQ' _ _ _ _ _ _ _ (.cal (s:=s) (i.up (t9))) (((Pl.one (Hn) (Int.le_refl _)).append l).up (dB6 h (nn3 _))) (qz e1 dl1 e2) (.app (.app (.app (.app (.app (.app (.app (.app (.app .nil)))))))))
 refine ifn c2 ?_
 obtain ⟨g,rfl⟩ : ∃ g,h = g + 1:=⟨h - 1,(Nat.sub_add_cancel (Nat.pos_of_ne_zero fun z=>c0 (Int.le_antisymm (Int.le_of_lt_add_one (b:=0) (Int.lt_iff_le_and_ne.mpr ⟨Int.le_of_lt_add_one (b:=1) (Int.lt_iff_le_and_ne.mpr ⟨Int.le_of_lt_add_one (b:=2) (dh z),c2⟩),c1⟩)) d0))).symm⟩
 have B:=Bk g rfl
 have Ar:=Cn B
 have deep : (3 - ((g + 1 : Nat) : Int)) = 2 - (g : Int):=HY
 have deep1 : (3 - ((g + 1 : Nat) : Int)) + 1 = 3 - (g : Int):=GW
 refine aB (cG (KI (x:=dr) rfl (fun c=>ifp rfl ?_) (fun c34=>ifn (by decide) ?_)))
 ·refine aB (aO (aA (ag (ao (v:=.mref 34) rfl (ag (ao (v:=.mref 2) rfl (ag (ao (v:=.int (3 - ((g + 1 : Nat) : Int))) rfl (ag (aU (aR (aA (wr rfl (dG (b:=2) (lD) (j9 hp e1) (by decide) (fL (av (EB deep ?_)))))))))))))))))
  refine Ar _ _ _ _ _ _ _ _ _ (F4 he) (Gf h3) (E2 p1) (oE hp e1 dl1) fun kids Fs r p2 n2 k2 J2 i ik l e2=>?_
  have dl2:=iw p2
  refine aj (aB (aO (aU (aA (wr rfl (dG (b:=2) (lD) (w3 hp e1 dl1 e2) (by decide) (aR (zJ (fun ho=>aj (aB (cG (wr rfl (ifp rfl ?_))))) (fun ho=>aj (aB (cG (wr rfl (ifn (by decide) ?_)))))))))))))
  ·refine zz (bu (cq (ao (v:=.mref ((J ++ J1 ++ [ah.lst []]).length + 53)) rfl ⟨_,_,rfl,gA,ag (aA (ag (ao (v:=.mref 34) rfl (ag (ao (v:=.mref 2) rfl (ag (aU (ao (v:=.int (3 - ((g + 1 : Nat) : Int))) rfl (aR (fL (av (zW deep1 ?_))))))))))))⟩)))
   refine B _ _ _ _ _ _ _ _ (yx he) (zd h3) (yn hp e1 dl1 e2 dl2) fun b F rb p3 n3 k3 J3 ib lb e3=>av (zz (gN (bi (Fg ik)) (aj (a8 (dU (d:=d) rfl (ag (aR (ag (ao (v:=.int (n + 1)) rfl (ag (aR (ag (nw rfl (wr rfl (jJ (aX (aF ?_)))))))))))))))))
   exact hQ' _ _ _ _ _ _ _ (.if1 i ik ib) (((l.append lb).wide (mC) (Int.le_refl _)).up (by rw [dBs]; exact Jv)) (BO e1 dl1 e2 dl2 e3) (.app (.app (.app (.app .nil))))
  ·refine zz (cB (aj (a8 (dU (d:=d) rfl (ag (aR (ag (ao (v:=.int (n + 1)) rfl (ag (aR (ag (nw rfl (wr rfl (jJ (aX (aF ?_))))))))))))))))
   exact hQ' _ _ _ _ _ _ _ (.if0 i ik) ((l.wide (mC) (Int.le_refl _)).up (by rw [dBs]; exact Gq)) (Fj e1 dl1 e2 dl2) (.app (.app (.app (.app .nil))))
 ·have n3 : ¬ dr = 3:=fun z=>c34 (.inl z)
  have n4 : ¬ dr = 4:=fun z=>c34 (.inr z)
  refine cB (aj (xz (v:=dr) rfl ?_))
  by_cases c5 : dr = 5
  ·refine ifp c5 (a8 (dU (d:=d) rfl (ag (aR (ag (ao (v:=.int (n + 1)) rfl (ag (aR (ag (lW (aA (ag (ao (v:=.mref 34) rfl (ag (ao (v:=.mref 2) rfl (ag (ao (v:=.int (3 - ((g + 1 : Nat) : Int))) rfl (ag (aU (aR (aA (wr rfl (dG (lD) (j9 hp e1) (by decide) (fL (av ?_)))))))))))))))))))))))))
   refine EB deep ?_
   refine Ar _ _ _ _ _ _ _ _ _ (F4 he) (Gf h3) (E2 p1) (oE hp e1 dl1) fun kids Fs r p2 n2 k2 J2 i ik l e2=>?_
   refine ⟨_,_,_,rfl,gA,rfl,?_⟩
   rw [qZ]
   refine av (lM (aX (aF ?_)))
   exact hQ' _ _ _ _ _ _ _ (.whl i ik) ((l.wide (mC) (Int.le_refl _)).up (by rw [dBs]; exact Gq)) (qz e1 dl1 e2) (.app (.app (.app (.app .nil))))
  refine ifn c5 (xz (v:=dr) rfl ?_)
  by_cases c6 : dr = 6
  ·refine ifp c6 (aB (aO (aA (ag (ao (v:=.mref 34) rfl (ag (ao (v:=.mref 2) rfl (ag (aU (ao (v:=.int (3 - ((g + 1 : Nat) : Int))) rfl (aR (fL (av (zW deep1 ?_))))))))))))))
   refine B _ _ _ _ _ _ _ _ (yx he) (zd h3) (j9 hp e1) fun b F r p2 n2 k2 J2 i l e2=>?_
   refine aj (a8 (dU (d:=d) rfl (ag (aR (ag (ao (v:=.int (n + 1)) rfl (ag (aR (ag (hG (ag (ao (v:=b) rfl (ag (aA (wr rfl ?_)))))))))))))))
   refine pG (Kq h3 he) (oE hp e1 e2) fun tv rt p3 n3' J3 i3 l3 e3=>av (kh rfl (av (lM (aX (aF ?_)))))
   exact hQ' _ _ _ _ _ _ _ (.rep i i3) (((l.append l3).wide (mC) (Int.le_refl _)).up (by rw [dBs]; exact GL)) (qz e1 e2 e3) (.app (.app (.app (.app (.app .nil)))))
  refine ifn c6 (xz (v:=dr) rfl ?_)
  by_cases c7 : dr = 7
  ·refine ifp c7 (aB (aO (cU (ag (aA (ag (ao (v:=.mref 34) rfl (ag (aA (wr rfl (dG (lD) (j9 hp e1) (by decide) (av ?_))))))))))))
   refine qB (Ib h3 he) fun s=>ag (aA (wr rfl ?_))
   refine eM (DH h3 he) (oE hp e1 dl1) fun v1 r1 p2 n2 J2 i1 l1 e2=>?_
   refine ag (aA (wr rfl ?_))
   refine eM (DH h3 he) (w3 hp e1 dl1 e2) fun v2 r2 p3 n3 J3 i2 l2 e3=>?_
   refine av ?_
   refine ⟨rfl,?_⟩
   rw [to,gu]
   refine aj (a8 (dU (d:=d) rfl (ag (aR (ag (ao (v:=.int (n + 1)) rfl (ag (aR (ag (AN (aU ?_)))))))))))
   generalize hJ4 : J ++ J1 ++ [ah.lst []] ++ [ah.gone] ++ [ah.gone] ++ J2 ++ J3 = J4
   refine ao (v:=.mref (J4.length + 53)) rfl (cU (ag (aA (ag (ao (v:=.mref 34) rfl (ag (ao (v:=.mref 2) rfl (ag (aU (ao (v:=.int (3 - ((g + 1 : Nat) : Int))) rfl (aR (fL (av ?_)))))))))))))
   refine zW deep1 ?_
   refine B _ _ _ _ _ _ _ _ (yx he) (zd h3) (yn hp e1 dl1 e2 e3) fun b F rb p4 n4 k4 J5 ib lb e4=>?_
   refine av ?_
   refine ⟨rfl,?_⟩
   refine wn (vs:=[vaV (n + 1 + 1) s,v1,v2]) (us:=[b]) ?g1 ?g2 rfl ?_
   case g1=>
    unfold cA
    dsimp only
    rw [gu,List.append_assoc,List.append_assoc,List.singleton_append,gA]
   case g2=>
    unfold cA
    dsimp only
    rw [bH]
   rw [gu,gu]
   refine wr rfl (jJ (aX (aF ?_)))
   subst hJ4
   have pl : Pl n n4 ([(n + 1 + 1,s)] ++ (r1 ++ (r2 ++ rb))) (dB (g + 1) : Int):=((Pl.one (DX) (Int.le_refl _)).append (l1.append (l2.append lb))).up (by rw [dBs]; exact Hy)
   exact hQ' _ _ _ _ _ _ _ (.for_ (s:=s) (i1.up (t9)) (i2.up (t9)) ib) pl (BO e1 dl1 e2 e3 e4) (.app (.app (.app (.app (.app (.app (.app (.app (.app (.app (.app .nil)))))))))))
  refine ifn c7 (aB (aO (cU (ag (aA (wr rfl ?_))))))
  refine eM (DH h3 he) (j9 hp e1) fun v1 r1 p2 n2 J2 i1 l1 e2=>?_
  refine av ?_
  refine ⟨rfl,?_⟩
  rw [to,gu]
  refine aj (aB (aO (cU (av ?_))))
  refine ⟨rfl,?_⟩
  generalize hJ4 : J ++ J1 ++ J2 = J4
  rw [to,gu]
  refine aj (aB (ci (aA (ag (aU (aR (aA (wr rfl (dG (lD) (oE hp e1 e2) (by decide) (fL (av (jS ?_))))))))))))
  rw [List.append_assoc J4,List.append_assoc J4,List.append_assoc [ah.lst [v1]],List.length_append,List.length_singleton]
  have turn : ∀ (lap : ae) (z : Option ae) (pool : List Int) (n₁ k : Int) (kids rows : List ae) (J2 : List ah) (R : Fl × Loc → List ah → Prop),pool.length ≤ 1000000 → kids.length ≤ 100 → rows.length ≤ 100 →
    (∀ bv F r pool' n' k' J3 rows',IsB bv F r g → Pl n₁ n' r (2 * (dB g : Int) + 1) → pool'.length ≤ pool.length → rows'.length ≤ rows.length + 1 → R (.next,[some (.mref 34),some (.mref 2),some (.int (3 - ((g + 1 : Nat) : Int))),some (.int dr),some (.int (n + 1)),some (.mref (J4.length + 53)),some (.mref (J4.length + 54)),some lap,none,none,none,none,none]) (H A pool' n' k' t (J4 ++ .lst (kids ++ [bv]) :: .lst rows' :: (J2 ++ J3)))) →
    W (au (bw (bG be (af 6) (ab (aD (bC (ab (jA (ab (af 7) (ab (af 7) am))) am))) am))) (bw (bG be (af 5) (ab (aq (sem (d + 1) .f_law_block) (ab (af 0) (ab (af 1) (ab (aE eH (af 2) (ar (.int 1))) am)))) am)))
     (([some (.mref 34),some (.mref 2),some (.int (3 - ((g + 1 : Nat) : Int))),some (.int dr),some (.int (n + 1)),some (.mref (J4.length + 53)),some (.mref (J4.length + 54)),z,none,none,none,none,none] : Loc).set 7 (some lap))) (H A pool n₁ k t (J4 ++ .lst kids :: .lst rows :: J2)) R:=by
   intro lap z pool n₁ k kids rows J2 R hp hk hr hR
   refine aB (bu (cq (ao (v:=.mref (J4.length + 54)) rfl ?_)))
   refine ⟨_,_,rfl,wu,?_⟩
   refine ag (kT (ag (so (wr rfl ?_))))
   refine ⟨rfl,?_⟩
   refine av ?_
   refine ⟨rfl,?_⟩
   refine av ?_
   rw [gu,List.append_assoc J4,List.cons_append (a:=ah.lst kids),List.cons_append (a:=ah.lst rows)]
   refine uT (bi (AH hr)) (aj (bu (cq (ao (v:=.mref (J4.length + 53)) rfl ?_))))
   refine ⟨_,_,rfl,gA,?_⟩
   refine ag (aA (ag (ao (v:=.mref 34) rfl (ag (ao (v:=.mref 2) rfl (ag (aU (ao (v:=.int (3 - ((g + 1 : Nat) : Int))) rfl (aR (fL (av ?_)))))))))))
   refine zW deep1 ?_
   refine B _ _ _ _ _ _ _ _ (yx he) (zd h3) hp fun bv F r p2 n2 k2 J5 i2 l2 e2=>?_
   refine av ?_
   rw [List.append_assoc J4,List.cons_append (a:=ah.lst kids)]
   refine gN (bi (AH hk)) ?_
   have:=hR bv F r p2 n2 k2 ([ah.gone] ++ J5) (rows ++ [ae.lst [ae.tup [lap,lap]]]) i2 l2 e2 (by simp)
   simp only [List.append_assoc,List.cons_append] at this ⊢
   exact this
  have fin : ∀ (bs : List ae) (Fs : List Den) (r : Rd) (rows : List ae) (lap : ae) (pool : List Int) (n' k : Int) (J3 : List ah),dM bs Fs r g → Fs ≠ [] → bs.length ≤ 10 → rows.length ≤ 100 → Pl n2 n' r (2 * (2 * (dB g : Int) + 1)) → pool.length ≤ p2.length →
    W (au (a7 8 (aE oEq (aq (sem (d + 1) .f_law_draw) (ab (af 1) (ab (ar (.int 2)) am))) (ar (.int 1)))) (au (sIf (a6 (af 8)) (bw (bG be (af 5) (ab (aq (sem (d + 1) .f_law_block) (ab (af 0) (ab (af 1) (ab (aE eH (af 2) (ar (.int 1))) am)))) am))) bE) (bL (aD (aq (sem (d + 1) .Node) (ab (ar (.str "case")) (ab (af 4) (ab (ar .none) (ab (aD (af 5)) (ab (jA (ab (af 6) (ab (af 8) am))) am)))))))))
     [some (.mref 34),some (.mref 2),some (.int (3 - ((g + 1 : Nat) : Int))),some (.int dr),some (.int (n + 1)),some (.mref (J4.length + 53)),some (.mref (J4.length + 54)),some lap,none,none,none,none,none]) (H A pool n' k t (J4 ++ .lst (v1 :: bs) :: .lst rows :: J3)) (iN Q):=by
   intro bs Fs r rows lap pool n' k J3 i hne hb hr l el
   have dl:=iw pool
   refine aB (aO (aU (aA (wr rfl (dG (lD) (w3 hp e1 e2 el) (by decide) (aR (eW (aj (aB (cG (wr rfl ?_)))))))))))
   rw [List.append_assoc J4,List.cons_append (a:=ah.lst (v1 :: bs))]
   have gJ : Grw J J4:=hJ4 ▸ .app (.app .nil)
   by_cases ho : drV pool 2 = 1
   ·refine ifp (decide_eq_true ho) (bu (cq (ao (v:=.mref (J4.length + 53)) rfl ?_)))
    refine ⟨_,_,rfl,gA,?_⟩
    refine ag (aA (ag (ao (v:=.mref 34) rfl (ag (ao (v:=.mref 2) rfl (ag (aU (ao (v:=.int (3 - ((g + 1 : Nat) : Int))) rfl (aR (fL (av ?_)))))))))))
    refine zW deep1 ?_
    refine B _ _ _ _ _ _ _ _ (yx he) (zd h3) (yn hp e1 e2 el dl) fun b F rb p3 n3 k3 J5 ib lb e3=>?_
    refine av ?_
    rw [List.append_assoc J4,List.cons_append (a:=ah.lst (v1 :: bs))]
    refine gN (bi (by rw [List.length_cons]; exact Jn hb)) (aj (a8 (dU (d:=d) rfl (ag (aR (ag (ao (v:=.int (n + 1)) rfl (ag (aR (ag (nw rfl (ag (so (wr rfl ?_))))))))))))))
    refine ⟨rfl,?_⟩
    refine av (jJ (aF ?_))
    have ib2 : dM (bs ++ [b]) (Fs ++ [F]) (r ++ rb) g:=by
     clear hne l el hb
     induction bs generalizing Fs r with
     | nil=>cases i; exact (by have:=dM.cons ib .nil; rw [List.append_nil] at this; exact this)
     | cons x xs ih=>cases i with | cons j js=>have:=ih _ _ js; rw [List.append_assoc]; exact .cons j this
    have pl : Pl n n3 (r1 ++ (r ++ rb)) (dB (g + 1) : Int):=((l1.append (l.append lb)).wide (mC) (Int.le_refl _)).up (by rw [dBs]; exact Hi)
    exact hQ' _ _ _ _ _ _ _ (.cas (i1.up (t9)) ib2 (by show (bs ++ [b]).length ≤ 11; rw [List.length_append,List.length_singleton]; exact H0 hb) (by simp)) pl (BO e1 e2 el dl e3) (.app (.app gJ))
   ·refine ifn (by rw [decide_eq_true_eq]; exact ho) (cB (aj (a8 (dU (d:=d) rfl (ag (aR (ag (ao (v:=.int (n + 1)) rfl (ag (aR (ag (nw rfl (ag (so (wr rfl ?_)))))))))))))))
    refine ⟨rfl,?_⟩
    refine av (jJ (aF ?_))
    have pl : Pl n n' (r1 ++ r) (dB (g + 1) : Int):=((l1.append l).wide (mC) (Int.le_refl _)).up (by rw [dBs]; exact Ix)
    exact hQ' _ _ _ _ _ _ _ (.cas (i1.up (t9)) i (HH hb) hne) pl (Fj e1 e2 el dl) (.app (.app gJ))
  have dl2:=iw p2
  rcases dr2 p2 with h2 | h2
  ·rw [h2]
   refine ⟨[.int 0],by kernel_rfl,?_⟩
   refine aY ?_
   refine turn _ _ _ _ _ [v1] [] _ _ (w3 hp e1 e2 dl2) (by simp) (by simp) fun bv F r p3 n3 k3 J3 rows' ib lb e3 er=>?_
   dsimp only
   refine bN (aj ?_)
   exact fin [bv] [F] _ rows' _ _ _ _ _ (.cons ib .nil) (by simp) (by simp) (by simp at er; exact FU er) (by rw [List.append_nil]; exact lb.up (JA)) (o79 dl2 e3)
  ·rw [h2]
   refine ⟨[.int 0,.int 1],by kernel_rfl,?_⟩
   refine aY ?_
   refine turn _ _ _ _ _ [v1] [] _ _ (w3 hp e1 e2 dl2) (by simp) (by simp) fun bv F r p3 n3 k3 J3 rows' ib lb e3 er=>?_
   dsimp only
   refine aY ?_
   refine turn _ _ _ _ _ [v1,bv] rows' _ _ (yn hp e1 e2 dl2 e3) (by simp) (by simp at er; exact FU er) fun bv2 F2 r2 p4 n4 k4 J5 rows2 ib2 lb2 e4 er2=>?_
   dsimp only
   refine bN (aj ?_)
   exact fin [bv,bv2] [F,F2] _ rows2 _ _ _ _ _ (.cons ib (.cons ib2 .nil)) (by simp) (by simp) (by simp at er; exact Hf er2 er) (by rw [List.append_nil]; exact (lb.append lb2).up (JE)) (qz dl2 e3 e4)
theorem rL : ∀ h : Nat,qC h
 | 0=>rS (wz fun g e=>nomatch e)
 | h + 1=>rS (wz fun g e=>by obtain rfl : g = h:=BA e; exact rL g)
end
end Mine
end
section
open PySem PySem.W PySem.Spec PySem.Calls PySem.SeqAt PyProof.Rows
namespace Mine
theorem ew (ns : List Int) : (gs ns).Perm ns:=List.mergeSort_perm ..
theorem pg (ns : List Int) : (gs ns).Pairwise (· ≤ ·):=by
 have:=List.pairwise_mergeSort (le:=fun a b : Int=>decide (a ≤ b)) (fun a b c h1 h2=>by rw [decide_eq_true_eq] at *; exact GZ h1 h2) (fun a b=>by rw [Bool.or_eq_true,decide_eq_true_eq,decide_eq_true_eq]; exact HX) ns
 exact this.imp fun h=>of_decide_eq_true h
theorem sr {xs ys : List Int} (hp : xs.Perm ys) (ha : ys.Pairwise (· ≤ ·)) : gs xs = ys:=
 ((ew xs).trans hp).eq_of_pairwise (fun x y _ _ h1 h2=>Int.le_antisymm h1 h2) (pg xs) ha
noncomputable def cm (c : Fin 16) : List Int:=(([0,1,2,3] : List (Fin 4)).filter (bW c)).map fun s=>(s.val : Int)
noncomputable def stV (c : Fin 16) : ae:=.lst ((cm c).map .int)
noncomputable def leS (X Y : Fin 16) : Prop:=∀ s : Fin 4,bW X s = true → bW Y s = true
theorem kL : ∀ (X : Fin 16) (s t : Fin 4),bW (dI X s) t = (bW X t || decide (t = s)):=by decide
theorem cS : ∀ (X Y : Fin 16) (t : Fin 4),bW (ed X Y) t = (bW X t && bW Y t):=by decide
theorem fV : ∀ (t : Fin 4),bW 15 t = true:=by decide
theorem iF : ∀ (X Y : Fin 16),(∀ t : Fin 4,bW X t = bW Y t) → X = Y:=by decide
theorem sz : ∀ (c : Fin 16) (s : Fin 4),gs ((cm c).filter (fun x=>!decide (x = (s.val : Int))) ++ [(s.val : Int)]) = cm (dI c s):=by
 intro c s
 have h : ((cm c).filter (fun x=>!decide (x = (s.val : Int))) ++ [(s.val : Int)]).isPerm (cm (dI c s)) = true ∧ (cm (dI c s)).Pairwise (· ≤ ·):=by
  revert c s
  decide
 exact sr (List.isPerm_iff.mp h.1) h.2
theorem Am : ∀ (c e : Fin 16),cm c = cm e → c = e:=by decide
noncomputable def br (S : List (Fin 16)) : Fin 16:=dz 15 S
theorem fY (S : List (Fin 16)) : ∀ (Z : Fin 16),dz Z S = ed Z (br S):=by
 unfold br dz
 induction S with
 | nil=>intro Z; exact iF _ _ fun t=>by rw [List.foldl_nil,List.foldl_nil,cS,fV,Bool.and_true]
 | cons a S ih=>
  intro Z
  rw [List.foldl_cons,List.foldl_cons,ih,ih (ed 15 a)]
  exact iF _ _ fun t=>by simp only [cS,fV,Bool.true_and,Bool.and_assoc]
theorem gM : br [] = 15:=rfl
theorem gi (a : Fin 16) (S : List (Fin 16)) : br (a :: S) = ed a (br S):=by
 show dz (ed 15 a) S = _
 rw [fY]
 exact iF _ _ fun t=>by simp only [cS,fV,Bool.true_and]
theorem rg (A B : List (Fin 16)) : br (A ++ B) = ed (br A) (br B):=by
 induction A with
 | nil=>exact iF _ _ fun t=>by rw [List.nil_append,gM,cS,fV,Bool.true_and]
 | cons a A ih=>
  rw [List.cons_append,gi,gi,ih]
  exact iF _ _ fun t=>by simp only [cS,Bool.and_assoc]
theorem gL (S : List (Fin 16)) (t : Fin 4) : bW (br S) t = S.all (bW · t):=by
 induction S with
 | nil=>rw [gM,fV]; rfl
 | cons a S ih=>rw [gi,cS,ih]; rfl
theorem tO {A B : List (Fin 16)} (h : ∀ c,c ∈ A ↔ c ∈ B) : br A = br B:=iF _ _ fun t=>by
 rw [gL,gL,Bool.eq_iff_iff,List.all_eq_true,List.all_eq_true]
 exact ⟨fun k c hc=>k c ((h c).mpr hc),fun k c hc=>k c ((h c).mp hc)⟩
noncomputable def fe (A B : List (Fin 16)) : List (Fin 16):=A ++ B.filter fun c=>!decide (c ∈ A)
theorem jY {A B : List (Fin 16)} {c : Fin 16} : c ∈ fe A B ↔ c ∈ A ∨ c ∈ B:=by
 unfold fe
 rw [List.mem_append,List.mem_filter]
 by_cases h : c ∈ A <;> simp [h]
theorem fm (A B : List (Fin 16)) : br (fe A B) = ed (br A) (br B):=by
 rw [← rg]
 exact tO fun c=>by rw [jY,List.mem_append]
theorem fo {A B : List (Fin 16)} (ha : A.Nodup) (hb : B.Nodup) : (fe A B).Nodup:=by
 unfold fe
 rw [List.nodup_append]
 refine ⟨ha,hb.filter _,fun x hx y hy e=>?_⟩
 subst e
 have:=(List.mem_filter.mp hy).2
 simp [hx] at this
theorem Go (B : List (Fin 16)) : fe [] B = B:=by
 unfold fe
 rw [List.nil_append]
 exact List.filter_eq_self.mpr fun c _=>by simp
theorem tS (A B : List (Fin 16)) : A.length ≤ (fe A B).length:=by unfold fe; rw [List.length_append]; exact o58
noncomputable def eQ (s : Fin 4) : List (Fin 16) → List (Fin 16) → List (Fin 16)
 | fs,[]=>fs
 | fs,c :: S=>eQ s (if dI c s ∈ fs then fs else fs ++ [dI c s]) S
theorem im (s : Fin 4) {c : Fin 16} : ∀ (S fs : List (Fin 16)),c ∈ eQ s fs S ↔ c ∈ fs ∨ c ∈ S.map (dI · s)
 | [],fs=>by simp [eQ]
 | a :: S,fs=>by
  rw [eQ,im s S]
  split
  ·rename_i h
   simp only [List.map_cons,List.mem_cons]
   constructor
   ·rintro (h1 | h1)
    ·exact .inl h1
    ·exact .inr (.inr h1)
   ·rintro (h1 | h1 | h1)
    ·exact .inl h1
    ·subst h1; exact .inl h
    ·exact .inr h1
  ·simp only [List.mem_append,List.map_cons,List.mem_cons,List.mem_nil_iff,or_false,List.not_mem_nil]
   rw [or_assoc]
theorem fb (s : Fin 4) : ∀ (S fs : List (Fin 16)),fs.Nodup → (eQ s fs S).Nodup
 | [],fs,h=>h
 | a :: S,fs,h=>by
  rw [eQ]
  refine fb s S _ ?_
  split
  ·exact h
  ·rename_i hn
   rw [List.nodup_append]
   exact ⟨h,by simp,fun x hx y hy e=>hn (by rw [List.mem_singleton] at hy; rw [← hy,← e]; exact hx)⟩
theorem dy {S : List (Fin 16)} (h : S.Nodup) : S.length ≤ 16:=by
 have:=h.length_le_of_subset (l₂:=List.finRange 16) (fun c _=>List.mem_finRange c)
 rwa [List.length_finRange] at this
theorem fS (s : Fin 4) {S : List (Fin 16)} (h : S ≠ []) : br (eQ s [] S) = dI (br S) s:=iF _ _ fun t=>by
 rw [gL,kL,gL,Bool.eq_iff_iff,List.all_eq_true,Bool.or_eq_true,List.all_eq_true,decide_eq_true_eq]
 constructor
 ·intro k
  by_cases e : t = s
  ·exact .inr e
  ·refine .inl fun c hc=>?_
   have:=k (dI c s) ((im s S []).mpr (.inr (List.mem_map.mpr ⟨c,hc,rfl⟩)))
   rw [kL] at this
   simpa [e] using this
 ·intro k c hc
  rcases (im s S []).mp hc with hc | hc
  ·cases hc
  ·obtain ⟨e,he,rfl⟩:=List.mem_map.mp hc
   rw [kL]
   rcases k with k | k
   ·rw [k e he]; rfl
   ·simp [k]
theorem ja (s : Fin 4) {S : List (Fin 16)} (h : S ≠ []) : eQ s [] S ≠ []:=by
 intro e
 obtain ⟨a,S',rfl⟩:=List.exists_cons_of_ne_nil h
 have : dI a s ∈ eQ s [] (a :: S'):=(im s _ _).mpr (.inr (List.mem_map.mpr ⟨a,List.mem_cons_self,rfl⟩))
 rw [e] at this
 cases this
theorem wg (c : Fin 16) : hV (stV c) = some (.list ((cm c).map .int)):=by
 unfold stV hV
 rw [ga]; rfl
theorem nr : ∀ S : List (Fin 16),eG (S.map stV) = some (S.map fun c=>.list ((cm c).map .int))
 | []=>rfl
 | c :: S=>by
  rw [List.map_cons,List.map_cons]
  unfold eG
  rw [wg,nr S]
theorem tV : ∀ xs ys : List Int,PyData.eqvAll (xs.map .int) (ys.map .int) = decide (xs = ys)
 | [],[]=>rfl
 | [],_ :: _=>rfl
 | _ :: _,[]=>rfl
 | x :: xs,y :: ys=>by
  rw [List.map_cons,List.map_cons,PyData.eqvAll,tV xs ys]
  show ((x == y) && _) = _
  rw [Bool.eq_iff_iff,Bool.and_eq_true,beq_iff_eq,decide_eq_true_eq,decide_eq_true_eq,List.cons.injEq]
theorem zi (c e : Fin 16) : PyData.eqv (.list ((cm c).map .int)) (.list ((cm e).map .int)) = decide (c = e):=by
 rw [PyData.eqv,tV,Bool.eq_iff_iff,decide_eq_true_eq,decide_eq_true_eq]
 exact ⟨Am c e,fun h=>by rw [h]⟩
theorem yi : ∀ S : List (Fin 16),PyData.canLayAll0 (S.map fun c=>PyData.list ((cm c).map .int)) = true
 | []=>rfl
 | c :: S=>by
  rw [List.map_cons]
  unfold PyData.canLayAll0
  rw [yi S]
  unfold PyData.canLay0
  rw [nm]; rfl
theorem tw : ∀ S : List (Fin 16),PyData.depthAll (S.map fun c=>PyData.list ((cm c).map .int)) ≤ 1
 | []=>by rw [List.map_nil]; exact Nat.zero_le _
 | c :: S=>by
  rw [List.map_cons]
  unfold PyData.depthAll PyData.depth
  rw [jC]
  have:=tw S
  exact Nat.max_le.mpr ⟨Nat.le_refl _,this⟩
theorem pH (S : List (Fin 16)) : shaped (.list (S.map fun c=>PyData.list ((cm c).map .int))) = true:=by
 unfold shaped PyData.canLay0 PyData.depth
 rw [yi]
 have:=tw S
 simp only [Bool.true_and,decide_eq_true_eq]
 exact Nat.le_trans (Nat.succ_le_succ this) (by decide)
theorem DI (S : List (Fin 16)) (c : Fin 16) : ((S.map fun c=>PyData.list ((cm c).map .int)).any fun y=>PyData.eqv y (.list ((cm c).map .int))) = decide (c ∈ S):=by
 rw [Bool.eq_iff_iff,List.any_map,List.any_eq_true,decide_eq_true_eq]
 constructor
 ·rintro ⟨e,he,k⟩
  have k' : PyData.eqv (.list ((cm e).map .int)) (.list ((cm c).map .int)) = true:=k
  rw [zi,decide_eq_true_eq] at k'
  rw [← k']; exact he
 ·intro h
  refine ⟨c,h,?_⟩
  show PyData.eqv (.list ((cm c).map .int)) (.list ((cm c).map .int)) = true
  rw [zi,decide_eq_true_eq]
section
variable {M : List ah} {Q : ae → List ah → Prop}
theorem zL : ∀ (c : Fin 16) (s : Fin 4),(((cm c).map PyData.int).any fun y=>PyData.eqv y (.int (s.val : Int))) = bW c s:=by decide
theorem tc (c : Fin 16) (s : Fin 4) : W (dA (.int (s.val : Int)) (stV c)) M Q ↔ Q (.bool (!bW c s)) M:=by
 refine bJ ?_
 have h : iS (.int (s.val : Int)) (stV c) M = some (bW c s):=by
  unfold iS stV cK cA hV
  dsimp only
  rw [ga]
  dsimp only
  rw [iE,show shaped (.int (s.val : Int)) = true from rfl,zL]; rfl
 unfold dA
 rw [h]; rfl
theorem Ff (c : Fin 16) (s : Fin 4) (xx : Q (.bool (!bW c s)) M) : W (dA (.int (s.val : Int)) (stV c)) M Q:=(tc (c:=c) (s:=s)).mpr xx
theorem s9 {a d : ae} {c : Fin 16} {S : List (Fin 16)} (h1 : cK a M = some (.list ((cm c).map .int))) (h2 : cA d M = some (S.map stV)) (ha : ∀ x,a ≠ .int x) (hd : ∀ vs,d ≠ .tup vs) : iS a d M = some (decide (c ∈ S)):=by
 unfold iS
 split
 ·exact absurd rfl (ha x)
 ·exact absurd rfl (hd vs)
 ·rw [h1,h2]
  dsimp only
  rw [nr]
  dsimp only
  rw [iE,pH,DI]; rfl
theorem zo {c : Fin 16} {S : List (Fin 16)} : W (dA (stV c) (.lst (S.map stV))) M Q ↔ Q (.bool (!decide (c ∈ S))) M:=by
 refine bJ ?_
 unfold dA
 rw [s9 (c:=c) (S:=S) (by unfold cK stV; dsimp only; exact wg c) rfl (fun x e=>by cases e) (fun x e=>by cases e)]; rfl
theorem H6 {c : Fin 16} {S : List (Fin 16)} (xx : Q (.bool (!decide (c ∈ S))) M) : W (dA (stV c) (.lst (S.map stV))) M Q:=(zo (c:=c) (S:=S)).mpr xx
end
end Mine
end
section
open PySem PySem.W PySem.Spec PySem.Calls PySem.SeqAt PyProof.Rows
namespace Mine
noncomputable def fD (hd : Rd) : List (Int × ae):=hd.map fun q=>(q.1,c9 q.2)
noncomputable def D (B : List ah) (hd : Rd) (J : List ah) : List ah:=B ++ .idict (fD hd) :: J
theorem di (B : List ah) (hd : Rd) (J X : List ah) : D B hd J ++ X = D B hd (J ++ X):=by unfold D; rw [List.append_assoc,List.cons_append]
noncomputable def Uni (R : Rd) : Prop:=(R.map (·.1)).Nodup ∧ R.length ≤ 1000000
noncomputable def Hd (R hd : Rd) : Prop:=(∀ q ∈ hd,q ∈ R) ∧ hd.Nodup
theorem Uni.inj {R : Rd} (u : Uni R) {q q' : Int × Fin 4} (h : q ∈ R) (h' : q' ∈ R) (e : q.1 = q'.1) : q = q':=by
 have n:=u.1
 clear u
 induction R with
 | nil=>cases h
 | cons a R ih=>
  rw [List.map_cons,List.nodup_cons] at n
  rcases List.mem_cons.mp h with e1 | h
  ·rcases List.mem_cons.mp h' with e' | h'
   ·rw [e1,e']
   ·exact absurd (List.mem_map.mpr ⟨q',h',by rw [← e,e1]⟩) n.1
  ·rcases List.mem_cons.mp h' with e' | h'
   ·exact absurd (List.mem_map.mpr ⟨q,h,by rw [e,e']⟩) n.1
   ·exact ih h h' n.2
theorem Hd.len {R hd : Rd} (h : Hd R hd) (u : Uni R) : hd.length ≤ 1000000:=Nat.le_trans (h.2.length_le_of_subset h.1) u.2
noncomputable def ln (hd : Rd) (q : Int × Fin 4) : Rd:=if q ∈ hd then hd else hd ++ [q]
theorem qR {hd : Rd} {q x : Int × Fin 4} : x ∈ ln hd q ↔ x ∈ hd ∨ x = q:=by
 unfold ln
 split
 ·rename_i h
  exact ⟨.inl,fun k=>k.elim id fun e=>e ▸ h⟩
 ·rw [List.mem_append,List.mem_singleton]
theorem Hd.ins {R hd : Rd} (h : Hd R hd) {q : Int × Fin 4} (hq : q ∈ R) : Hd R (ln hd q):=by
 refine ⟨fun x hx=>(qR.mp hx).elim (h.1 x) fun e=>e ▸ hq,?_⟩
 unfold ln
 split
 ·exact h.2
 ·rename_i hn
  rw [List.nodup_append]
  exact ⟨h.2,by simp,fun x hx y hy e=>hn (by rw [List.mem_singleton] at hy; rw [← hy,← e]; exact hx)⟩
theorem zM {R hd : Rd} (u : Uni R) (h : Hd R hd) {q : Int × Fin 4} (hq : q ∈ R) : jE (fD hd) q.1 (c9 q.2) = fD (ln hd q):=by
 unfold jE ln
 by_cases hm : q ∈ hd
 ·rw [if_pos hm,if_pos]
  ·unfold fD
   rw [List.map_map]
   refine List.map_congr_left fun x hx=>?_
   show (if x.1 = q.1 then (x.1,c9 q.2) else (x.1,c9 x.2)) = _
   split
   ·rename_i e
    rw [u.inj (h.1 x hx) hq e]
   ·rfl
  ·rw [List.any_eq_true]
   exact ⟨(q.1,c9 q.2),List.mem_map.mpr ⟨q,hm,rfl⟩,by simp⟩
 ·rw [if_neg hm,if_neg]
  ·unfold fD; rw [List.map_append]; rfl
  ·rw [List.any_eq_true]
   rintro ⟨kv,hk,e⟩
   obtain ⟨x,hx,rfl⟩:=List.mem_map.mp hk
   have e' : x.1 = q.1:=of_decide_eq_true e
   exact hm (u.inj (h.1 x hx) hq e' ▸ hx)
section
variable {B : List ah} {hd R : Rd} {J M X : List ah} {d : Nat}
theorem z5 : (D B hd J)[B.length]? = some (.idict (fD hd)):=by unfold D; simp
theorem E8 (hd' : Rd) : (D B hd J).set B.length (.idict (fD hd')) = D B hd' J:=by unfold D; simp
theorem Ej {Q : Unit → List ah → Prop} (u : Uni R) (h : Hd R hd) {q : Int × Fin 4} (hq : q ∈ R) : W (fK (.mref B.length) (.int q.1) (c9 q.2)) (D B hd J) Q ↔ Q () (D B (ln hd q) J):=by
 refine bJ ?_
 unfold fK
 dsimp only
 rw [z5]
 dsimp only
 rw [bi (by unfold fD; rw [List.length_map]; exact h.len u),if_pos rfl,zM u h hq,E8]
theorem DP {Q : Unit → List ah → Prop} (u : Uni R) (h : Hd R hd) {q : Int × Fin 4} (hq : q ∈ R) (xx : Q () (D B (ln hd q) J)) : W (fK (.mref B.length) (.int q.1) (c9 q.2)) (D B hd J) Q:=(Ej (Q:=Q) (u:=u) (h:=h) (q:=q) (hq:=hq)).mpr xx
theorem gO {op : Str} {p ty ks v : ae} {Q : ae → List ah → Prop} : W (aK "op" (.inst 32 (ndF op p ty ks v))) M Q ↔ Q (.str op) M:=bJ (by kernel_rfl)
theorem n6 {op : Str} {p ty ks v : ae} {Q : ae → List ah → Prop} (xx : Q (.str op) M) : W (aK "op" (.inst 32 (ndF op p ty ks v))) M Q:=(gO (op:=op) (p:=p) (ty:=ty) (ks:=ks) (v:=v) (Q:=Q)).mpr xx
theorem zb {op : Str} {p ty ks v : ae} {Q : ae → List ah → Prop} : W (aK "place" (.inst 32 (ndF op p ty ks v))) M Q ↔ Q p M:=bJ (by kernel_rfl)
theorem sh {op : Str} {p ty ks v : ae} {Q : ae → List ah → Prop} (xx : Q p M) : W (aK "place" (.inst 32 (ndF op p ty ks v))) M Q:=(zb (op:=op) (p:=p) (ty:=ty) (ks:=ks) (v:=v) (Q:=Q)).mpr xx
theorem B7 {op : Str} {p ty ks v : ae} {Q : ae → List ah → Prop} : W (aK "type" (.inst 32 (ndF op p ty ks v))) M Q ↔ Q ty M:=bJ (by kernel_rfl)
theorem Cd {op : Str} {p ty ks v : ae} {Q : ae → List ah → Prop} (xx : Q ty M) : W (aK "type" (.inst 32 (ndF op p ty ks v))) M Q:=(B7 (op:=op) (p:=p) (ty:=ty) (ks:=ks) (v:=v) (Q:=Q)).mpr xx
theorem ee {op : Str} {p ty ks v : ae} {Q : ae → List ah → Prop} : W (aK "kids" (.inst 32 (ndF op p ty ks v))) M Q ↔ Q ks M:=bJ (by kernel_rfl)
theorem hU {op : Str} {p ty ks v : ae} {Q : ae → List ah → Prop} (xx : Q ks M) : W (aK "kids" (.inst 32 (ndF op p ty ks v))) M Q:=(ee (op:=op) (p:=p) (ty:=ty) (ks:=ks) (v:=v) (Q:=Q)).mpr xx
theorem eT {op : Str} {p ty ks v : ae} {Q : ae → List ah → Prop} : W (aK "value" (.inst 32 (ndF op p ty ks v))) M Q ↔ Q v M:=bJ (by kernel_rfl)
theorem y5 {op : Str} {p ty ks v : ae} {Q : ae → List ah → Prop} (xx : Q v M) : W (aK "value" (.inst 32 (ndF op p ty ks v))) M Q:=(eT (op:=op) (p:=p) (ty:=ty) (ks:=ks) (v:=v) (Q:=Q)).mpr xx
theorem jX {s : Fin 4} {Q : ae → List ah → Prop} : W (aK "slot" (c9 s)) M Q ↔ Q (.int (s.val : Int)) M:=bJ (by kernel_rfl)
theorem Ba {s : Fin 4} {Q : ae → List ah → Prop} (xx : Q (.int (s.val : Int)) M) : W (aK "slot" (c9 s)) M Q:=(jX (s:=s) (Q:=Q)).mpr xx
theorem oq {s : Fin 4} {Q : ae → List ah → Prop} : W (aK "level" (c9 s)) M Q ↔ Q (.int 1) M:=bJ (by kernel_rfl)
theorem Gj {s : Fin 4} {Q : ae → List ah → Prop} (xx : Q (.int 1) M) : W (aK "level" (c9 s)) M Q:=(oq (s:=s) (Q:=Q)).mpr xx
theorem qP {i : Nat} {x op : Str} {p ty ks v : ae} {body rest : Loc → Mo (Fl × Loc)} {loc : Loc} {Q : Fl × Loc → List ah → Prop} (h : loc[i]? = some (some (.inst 32 (ndF op p ty ks v)))) :
  W (au (sIf (a6 (aE oEq (aS (aK "op") (af i)) (ar (.str x)))) body bE) rest loc) M Q ↔ if op = x then W (body loc) M (jh rest Q) else W (rest loc) M Q:=by
 rw [eP,kc,dP,dL,dN,bU h,gO,dv,g8,gn]
 by_cases hx : op = x
 ·simp only [hx,decide_true,if_true]
 ·simp only [hx,decide_false,Bool.false_eq_true,if_false]
  rw [hJ]; rfl
theorem bg {i : Nat} {x op : Str} {p ty ks v : ae} {body rest : Loc → Mo (Fl × Loc)} {loc : Loc} {Q : Fl × Loc → List ah → Prop} (h : loc[i]? = some (some (.inst 32 (ndF op p ty ks v)))) (xx : if op = x then W (body loc) M (jh rest Q) else W (rest loc) M Q) : W (au (sIf (a6 (aE oEq (aS (aK "op") (af i)) (ar (.str x)))) body bE) rest loc) M Q:=(qP (i:=i) (x:=x) (op:=op) (p:=p) (ty:=ty) (ks:=ks) (v:=v) (body:=body) (rest:=rest) (loc:=loc) (Q:=Q) (h:=h)).mpr xx
theorem zu : ∀ op ∈ hO,¬ op = "var" := by decide
theorem nF (u : Uni R) {p : Int} {s : Fin 4} (hq : (p,s) ∈ R) (L : ae) {Q : Fl × Loc → List ah → Prop} : ∀ (S : List (Fin 16)) (hd : Rd) (z : Option ae),Hd R hd →
  (∀ hd' z',Hd R hd' → (∀ q,q ∈ hd' ↔ q ∈ hd ∨ q = (p,s) ∧ bW (br S) s = false) → Q (.next,[some (vaV p s),some L,some (.mref B.length),none,z']) (D B hd' J)) →
  W (dY 4 (sIf (a6 (aE dA (aS (aK "slot") (aS (aK "value") (af 0))) (af 4))) (gP fK (af 2) (aS (aK "place") (af 0)) (aS (aK "value") (af 0))) bE) (S.map stV) [some (vaV p s),some L,some (.mref B.length),none,z]) (D B hd J) Q
 | [],hd,z,h,k=>by
  rw [List.map_nil]
  refine bN ?_
  exact k hd z h fun q=>⟨.inl,fun e=>e.elim id fun e=>by rw [gM,fV] at e; cases e.2⟩
 | c :: S,hd,z,h,k=>by
  rw [List.map_cons]
  refine aY (cG (bM (aU (ba (ba (ao (v:=vaV p s) rfl ?_))))))
  unfold vaV ndV
  rw [eT,jX,bU (v:=stV c) rfl,tc,gn]
  cases hc : bW c s with
  | true=>
   rw [Bool.not_true]
   refine ifn (by decide) (cB ?_)
   refine nF u hq L S hd (some (stV c)) h fun hd' z' h' m=>k hd' z' h' fun q=>?_
   rw [m q,gi,cS,hc,Bool.true_and]
  | false=>
   rw [Bool.not_false]
   refine ifp rfl (mX (ba (ao (v:=vaV p s) rfl ?_)))
   unfold vaV ndV
   refine y5 (ao (v:=.mref B.length) rfl (ba (ao (v:=vaV p s) rfl ?_)))
   unfold vaV ndV
   refine sh (DP (q:=(p,s)) u h hq ?_)
   refine nF u hq L S (ln hd (p,s)) (some (stV c)) (h.ins hq) fun hd' z' h' m=>k hd' z' h' fun q=>?_
   rw [m q,qR,gi,cS,hc,Bool.false_and]
   constructor
   ·rintro ((a | a) | a)
    ·exact .inl a
    ·exact .inr ⟨a,rfl⟩
    ·exact .inr ⟨a.1,rfl⟩
   ·rintro (a | a)
    ·exact .inl (.inl a)
    ·exact .inl (.inr a.1)
theorem j8 {Y : Fin 16} {r : Rd} {q : Int × Fin 4} : q ∈ dW Y r ↔ q ∈ r ∧ bW Y q.2 = false:=by
 unfold dW
 rw [List.mem_filter,Bool.not_eq_true']
theorem d4 {v : ae} {r : Rd} {m : Nat} (i : IsV v r m) : ∀ {e : Nat} {hd : Rd} {S : List (Fin 16)} {Q : ae → List ah → Prop},m + 1 ≤ e → Uni R → (∀ q ∈ r,q ∈ R) → Hd R hd →
  (∀ hd',Hd R hd' → (∀ q,q ∈ hd' ↔ q ∈ hd ∨ q ∈ dW (br S) r) → Q .none (D B hd' J)) → W (sem e .f_law_uses [v,.lst (S.map stV),.mref B.length]) (D B hd J) Q:=by
 induction i with
 | var p s m=>
  intro e hd S Q he u hr h k
  obtain ⟨d,rfl⟩ : ∃ d,e = d + 1:=⟨e - 1,(EC he)⟩
  rw [jy]
  refine bK (loc0:=[some (vaV p s),some (.lst (S.map stV)),some (.mref B.length),none,none]) (by simp) rfl ?_
  unfold eu
  refine bg (i:=0) (op := "var") rfl (ifp rfl (aB (ci (ao (v:=.lst (S.map stV)) rfl ?_))))
  refine ⟨_,rfl,nF u (hr _ List.mem_cons_self) _ S hd none h fun hd' z' h' mm=>?_⟩
  refine aj (By (aX (aF ?_)))
  refine k hd' h' fun q=>?_
  rw [mm q,j8,List.mem_singleton]
  constructor
  ·rintro (a | ⟨a,b⟩)
   ·exact .inl a
   ·subst a; exact .inr ⟨rfl,b⟩
  ·rintro (a | ⟨a,b⟩)
   ·exact .inl a
   ·subst a; exact .inr ⟨rfl,b⟩
 | cst p m=>
  intro e hd S Q he u hr h k
  obtain ⟨d,rfl⟩ : ∃ d,e = d + 1:=⟨e - 1,(EC he)⟩
  rw [jy]
  refine bK (loc0:=[some (ndV "const" p dJ [] (.int 1)),some (.lst (S.map stV)),some (.mref B.length),none,none]) (by simp) rfl ?_
  unfold eu
  refine bg (i:=0) (op := "const") rfl (ifn (by decide) (ci (ba (ao (v:=ndV "const" p dJ [] (.int 1)) rfl ?_))))
  unfold ndV
  refine hU ?_
  refine ⟨_,rfl,?_⟩
  refine bN (eE ?_)
  exact k hd h fun q=>⟨.inl,fun a=>a.elim id fun a=>by cases a⟩
 | @bin op p ty l r a b m ho h1 h2 i1 i2=>
  intro e hd S Q he u hr h k
  obtain ⟨d,rfl⟩ : ∃ d,e = d + 1:=⟨e - 1,(Ik he)⟩
  rw [jy]
  refine bK (loc0:=[some (ndV op p ty [l,r] .none),some (.lst (S.map stV)),some (.mref B.length),none,none]) (by simp) rfl ?_
  unfold eu
  refine bg (i:=0) (op:=op) rfl (ifn (zu op ho) (ci (ba (ao (v:=ndV op p ty [l,r] .none) rfl ?_))))
  unfold ndV
  refine hU ?_
  refine ⟨_,rfl,?_⟩
  refine aY (bu (aA (wr rfl ?_)))
  refine i1 (E7 he) u (fun q hq=>hr q (List.mem_append_left _ hq)) h fun hd1 k1 m1=>?_
  dsimp only
  refine aY (bu (aA (wr rfl ?_)))
  refine i2 (E7 he) u (fun q hq=>hr q (List.mem_append_right _ hq)) k1 fun hd2 k2 m2=>?_
  dsimp only
  refine bN (eE ?_)
  refine k hd2 k2 fun q=>?_
  rw [m2 q,m1 q,om,List.mem_append,or_assoc]
end
section
variable {M X : List ah}
theorem eD {x : ah} : (M ++ x :: X)[M.length]? = some x:=by simp
theorem jm {x y : ah} : (M ++ x :: X).set M.length y = M ++ y :: X:=by simp
theorem pr {vs : List ae} {v : ae} {Q : ae → List ah → Prop} (hs : bV vs.length = true) : W (be [.mref M.length,v]) (M ++ .lst vs :: X) Q ↔ Q .none (M ++ .lst (vs ++ [v]) :: X):=by
 refine bJ ?_
 unfold be
 dsimp only
 rw [eD]
 dsimp only
 rw [hs,if_pos rfl,jm]
theorem lp {vs : List ae} {v : ae} {Q : ae → List ah → Prop} (hs : bV vs.length = true) (xx : Q .none (M ++ .lst (vs ++ [v]) :: X)) : W (be [.mref M.length,v]) (M ++ .lst vs :: X) Q:=(pr (vs:=vs) (v:=v) (Q:=Q) (hs:=hs)).mpr xx
theorem D8 {i : Nat} {loc : Loc} {vs : List ae} {Q : ae → List ah → Prop} (h : loc[i]? = some (some (.mref M.length))) : W (aD (af i) loc) (M ++ .lst vs :: X) Q ↔ Q (.lst vs) (M ++ .gone :: X):=by
 rw [kA,bU h]
 constructor
 ·rintro ⟨j,mo,v,e1,e2,e3,q⟩
  cases e1
  rw [eD] at e2; cases e2; cases e3
  rw [jm] at q; exact q
 ·intro q
  refine ⟨_,_,_,rfl,eD,rfl,?_⟩
  rw [jm]; exact q
theorem Em {i : Nat} {loc : Loc} {vs : List ae} {Q : ae → List ah → Prop} (h : loc[i]? = some (some (.mref M.length))) (xx : Q (.lst vs) (M ++ .gone :: X)) : W (aD (af i) loc) (M ++ .lst vs :: X) Q:=(D8 (i:=i) (loc:=loc) (vs:=vs) (Q:=Q) (h:=h)).mpr xx
theorem lA (A : List (Fin 16)) {Q : List ae → List ah → Prop} : ∀ (B : List (Fin 16)) (acc : List ae), 
  W (eF (a6 (aE dA (af 0) (af 1))) (af 0) [some (.lst (A.map stV))] (B.map stV) acc) M Q ↔ Q (acc ++ (B.filter fun c=>!decide (c ∈ A)).map stV) M
 | [],acc=>by rw [List.map_nil,lu]; simp
 | c :: B,acc=>by
  rw [List.map_cons,jH,dP,dL,bU (v:=stV c) rfl,bU (v:=.lst (A.map stV)) rfl,zo,gn,List.filter_cons]
  cases hc : decide (c ∈ A) with
  | true=>
   rw [Bool.not_true,if_neg (by decide),if_neg (by decide),lA A B acc]
  | false=>
   rw [Bool.not_false,if_pos rfl,if_pos rfl,bU (v:=stV c) rfl,lA A B (acc ++ [stV c])]
   simp
theorem fk {e : Nat} {A B : List (Fin 16)} {Q : ae → List ah → Prop} (he : 1 ≤ e) (ha : A.Nodup) (hb : B.Nodup) (k : ∀ X,Q (.lst ((fe A B).map stV)) (M ++ X)) : W (sem e .f_law_joined [.lst (A.map stV),.lst (B.map stV)]) M Q:=by
 obtain ⟨d,rfl⟩ : ∃ d,e = d + 1:=⟨e - 1,(oJ he)⟩
 have la:=dy ha
 have lb:=dy hb
 have lf:=List.length_filter_le (fun c=>!decide (c ∈ A)) B
 rw [qm]
 refine bK (loc0:=[some (.lst (A.map stV)),some (.lst (B.map stV))]) (by simp) rfl ?_
 unfold eL
 refine a8 (AN (aU (ao (v:=.lst (A.map stV)) rfl (rd (ao (v:=.lst (B.map stV)) rfl ?_)))))
 refine ⟨_,rfl,bi (by rw [List.length_map]; exact yB lb),?_⟩
 rw [show ([(0,("one" : Str))].map fun q=>(([some (.lst (A.map stV)),some (.lst (B.map stV))] : Loc)[q.1]?).join) = [some (.lst (A.map stV))] from rfl,lA,List.nil_append]
 refine wn (vs:=A.map stV) (us:=(B.filter fun c=>!decide (c ∈ A)).map stV) rfl (by unfold cA; dsimp only; rw [bH]) (bi (by rw [List.length_map,List.length_map]; exact Hm la lb lf)) (aF ?_)
 rw [List.append_assoc,← List.map_append]
 exact k _
theorem iJ (s : Int) {Q : List ae → List ah → Prop} : ∀ (xs : List Int) (acc : List ae), 
  W (eF (a6 (aE oNe (af 0) (af 1))) (af 0) [some (.int s)] (xs.map .int) acc) M Q ↔ Q (acc ++ (xs.filter fun x=>!decide (x = s)).map .int) M
 | [],acc=>by rw [List.map_nil,lu]; simp
 | x :: xs,acc=>by
  rw [List.map_cons,jH,dP,dL,bU (v:=.int x) rfl,bU (v:=.int s) rfl,wc,gn,List.filter_cons]
  cases hc : decide (x = s) with
  | true=>rw [Bool.not_true,if_neg (by decide),if_neg (by decide),iJ s xs acc]
  | false=>
   rw [Bool.not_false,if_pos rfl,if_pos rfl,bU (v:=.int x) rfl,iJ s xs (acc ++ [ae.int x])]
   simp
theorem nX : ∀ ns : List Int,jB (ns.map .int) = some ns
 | []=>rfl
 | n :: r=>by
  rw [List.map_cons]
  unfold jB
  rw [nX r]; rfl
theorem Aj : ∀ c : Fin 16,(cm c).length ≤ 4:=by decide
theorem Ep {a c : ae} {vs us : List ae} {Q : ae → List ah → Prop} (h1 : cA a M = some vs) (h2 : cA c M = some us) (hs : bV (vs.length + us.length) = true) : W (g3 a c) M Q ↔ Q (.mref M.length) (M ++ [.lst (vs ++ us)]):=by
 refine bJ ?_
 unfold g3
 rw [h1,h2]
 dsimp only
 rw [if_pos hs]; rfl
theorem Eo {a c : ae} {vs us : List ae} {Q : ae → List ah → Prop} (h1 : cA a M = some vs) (h2 : cA c M = some us) (hs : bV (vs.length + us.length) = true) (xx : Q (.mref M.length) (M ++ [.lst (vs ++ us)])) : W (g3 a c) M Q:=(Ep (a:=a) (c:=c) (vs:=vs) (us:=us) (Q:=Q) (h1:=h1) (h2:=h2) (hs:=hs)).mpr xx
noncomputable def stO (c : Fin 16) : ah:=.lst ((cm c).map .int)
theorem jG (s : Fin 4) (L : ae) {Q : Fl × Loc → List ah → Prop} : ∀ (S fs : List (Fin 16)) (X : List ah) (z y : Option ae),fs.length + S.length ≤ 1000 →
  (∀ X z y,Q (.next,[some L,some (.int (s.val : Int)),some (.mref M.length),z,y]) (M ++ .lst ((eQ s fs S).map stV) :: X)) →
  W (dY 3 (au (a7 4 (aq dQ (ab (aE g3 (iO [(1, "spot")] (af 3) (a6 (aE oNe (af 0) (af 1))) (af 0)) (bC (ab (af 1) am))) am))) (sIf (a6 (aE dA (af 4) (af 2))) (bw (bG be (af 2) (ab (aD (af 4)) am))) bE)) (S.map stV) [some L,some (.int (s.val : Int)),some (.mref M.length),z,y]) (M ++ .lst (fs.map stV) :: X) Q
 | [],fs,X,z,y,hl,k=>by rw [List.map_nil,gc]; exact k X z y
 | c :: S,fs,X,z,y,hl,k=>by
  rw [List.length_cons] at hl
  have lb:=Aj c
  rw [List.map_cons]
  refine aY (aB (aO (aA (ag (aU (rd (ao (v:=stV c) rfl ?_)))))))
  refine ⟨_,rfl,bi (by rw [List.length_map]; exact Fg lb),?_⟩
  rw [show ([(1,("spot" : Str))].map fun q=>((([some L,some (.int (s.val : Int)),some (.mref M.length),z,y] : Loc).set 3 (some (stV c)))[q.1]?).join) = [some (.int (s.val : Int))] from rfl,iJ,List.nil_append]
  refine cU (wr rfl ?_)
  refine ⟨rfl,?_⟩
  have lf:=List.length_filter_le (fun x=>!decide (x = (s.val : Int))) (cm c)
  refine Eo (vs:=((cm c).filter fun x=>!decide (x = (s.val : Int))).map .int) (us:=[.int (s.val : Int)]) (by unfold cA; dsimp only; rw [List.append_assoc,List.singleton_append,eD]) (by unfold cA; dsimp only; rw [bH]) (bi (by rw [List.length_map,List.length_singleton]; exact Gi lb lf)) (av ?_)
  have e1 : ∀ P : List ah,dQ [.mref P.length] (P ++ [ah.lst (((cm c).filter fun x=>!decide (x = (s.val : Int))).map .int ++ [.int (s.val : Int)])]) = some (.mref (P ++ [ah.lst (((cm c).filter fun x=>!decide (x = (s.val : Int))).map .int ++ [.int (s.val : Int)])]).length,P ++ [ah.lst (((cm c).filter fun x=>!decide (x = (s.val : Int))).map .int ++ [.int (s.val : Int)])] ++ [stO (dI c s)]):=by
   intro P
   unfold dQ nk
   dsimp only
   rw [bH]
   dsimp only
   rw [show (((cm c).filter fun x=>!decide (x = (s.val : Int))).map ae.int ++ [ae.int (s.val : Int)]) = ((cm c).filter (fun x=>!decide (x = (s.val : Int))) ++ [(s.val : Int)]).map .int by rw [List.map_append]; rfl,nX]
   dsimp only
   rw [bi (by rw [List.length_append,List.length_singleton]; exact Gi lb lf),if_pos rfl,sz]
   rfl
  refine gm (e1 _) ?_
  obtain ⟨P,X3,hP,hX⟩ : ∃ P X3,(M ++ ah.lst (fs.map stV) :: X ++ [ah.lst (((cm c).filter fun x=>!decide (x = (s.val : Int))).map .int)] ++ [ah.lst [ae.int (s.val : Int)]] ++ [ah.lst (((cm c).filter fun x=>!decide (x = (s.val : Int))).map .int ++ [.int (s.val : Int)])]) = P ∧ P = M ++ ah.lst (fs.map stV) :: X3:=⟨_,_,rfl,by rw [List.append_assoc M,List.append_assoc M,List.append_assoc M,List.cons_append,List.cons_append,List.cons_append]⟩
  rw [hP]
  refine aj (cG (bM (aU (ao (v:=.mref P.length) rfl (ao (v:=.mref M.length) rfl ?_)))))
  have e2 : iS (.mref P.length) (.mref M.length) (P ++ [stO (dI c s)]) = some (decide (dI c s ∈ fs)):=s9 (by unfold cK; dsimp only; rw [bH]; unfold stO; dsimp only; rw [ga]; rfl) (by unfold cA; dsimp only; rw [hX,List.append_assoc,List.cons_append,eD]) (fun x e=>by cases e) (fun x e=>by cases e)
  refine gm (a:=.bool (!decide (dI c s ∈ fs))) (by unfold dA; rw [e2]; rfl) (b9 ?_)
  by_cases hc : dI c s ∈ fs
  ·rw [decide_eq_true hc,Bool.not_true]
   refine ifn (by decide) (cB ?_)
   rw [hX,List.append_assoc,List.cons_append]
   refine jG s L S fs _ _ _ (J9 hl) fun X' z' y'=>?_
   have:=k X' z' y'
   rw [eQ,if_pos hc] at this
   exact this
  ·rw [decide_eq_false hc,Bool.not_false]
   refine ifp rfl (bu (cq (ao (v:=.mref M.length) rfl ?_)))
   refine ⟨_,_,rfl,by rw [hX,List.append_assoc,List.cons_append]; exact eD,?_⟩
   refine ag (lW (ao (v:=.mref P.length) rfl ?_))
   refine ⟨_,_,_,rfl,bH,rfl,?_⟩
   rw [cC]
   refine av ?_
   rw [hX,List.append_assoc,List.cons_append]
   refine lp (bi (by rw [List.length_map]; exact EJ hl)) ?_
   rw [show fs.map stV ++ [ae.lst ((cm (dI c s)).map .int)] = (fs ++ [dI c s]).map stV by rw [List.map_append]; rfl]
   refine jG s L S _ _ _ _ (by rw [List.length_append,List.length_singleton]; exact Fp hl) fun X' z' y'=>?_
   have:=k X' z' y'
   rw [eQ,if_neg hc] at this
   exact this
theorem ir {e : Nat} {S : List (Fin 16)} {s : Fin 4} {Q : ae → List ah → Prop} (he : 1 ≤ e) (hs : S.Nodup) (k : ∀ X,Q (.lst ((eQ s [] S).map stV)) (M ++ X)) : W (sem e .f_law_stored [.lst (S.map stV),.int (s.val : Int)]) M Q:=by
 obtain ⟨d,rfl⟩ : ∃ d,e = d + 1:=⟨e - 1,(oJ he)⟩
 have la:=dy hs
 rw [qo]
 refine bK (loc0:=[some (.lst (S.map stV)),some (.int (s.val : Int)),none,none,none]) (by simp) rfl ?_
 unfold eJ
 refine aB (aO (cU (av ?_)))
 refine ⟨rfl,?_⟩
 refine aj (aB (ci (ao (v:=.lst (S.map stV)) rfl ?_)))
 refine ⟨_,rfl,?_⟩
 refine jG s _ S [] [] _ _ (by simp; exact JX la) fun X z y=>?_
 refine aj (a8 (Em rfl (aF ?_)))
 exact k _
end
end Mine
end
section
open PySem PySem.W PySem.Spec PySem.Calls PySem.SeqAt PyProof.Rows
namespace Mine
structure jq (F : Den) (r : Rd) : Prop where
 ext : ∀ X,leS X (F X).1
 mono : ∀ X Y,leS X Y → leS (F X).1 (F Y).1
 anti : ∀ X Y,leS X Y → ∀ q,q ∈ (F Y).2 → q ∈ (F X).2
 sub : ∀ X q,q ∈ (F X).2 → q ∈ r
theorem leS.rfl' {X : Fin 16} : leS X X:=fun _ h=>h
theorem leS.trans {X Y Z : Fin 16} (h : leS X Y) (g : leS Y Z) : leS X Z:=fun s k=>g s (h s k)
theorem qn (X : Fin 16) (s : Fin 4) : leS X (dI X s):=fun t h=>by rw [kL,h]; rfl
theorem g6 {X Y : Fin 16} (s : Fin 4) (h : leS X Y) : leS (dI X s) (dI Y s):=fun t k=>by
 rw [kL,Bool.or_eq_true] at *
 exact k.imp (h t) id
theorem eK {X Y : Fin 16} (h : leS X Y) {r : Rd} {q : Int × Fin 4} (k : q ∈ dW Y r) : q ∈ dW X r:=by
 rw [j8] at *
 refine ⟨k.1,?_⟩
 cases e : bW X q.2 with
 | false=>rfl
 | true=>rw [h _ e] at k; cases k.2
theorem fu {X : Fin 16} {r : Rd} {q : Int × Fin 4} (k : q ∈ dW X r) : q ∈ r:=(j8.mp k).1
theorem jw (Z : Fin 16) (Ys : List (Fin 16)) (t : Fin 4) : bW (dz Z Ys) t = (bW Z t && Ys.all (bW · t)):=by rw [fY,cS,gL]
theorem ld {X Z : Fin 16} {Ys : List (Fin 16)} (h : leS X Z) (g : ∀ Y ∈ Ys,leS X Y) : leS X (dz Z Ys):=fun t k=>by
 rw [jw,Bool.and_eq_true,List.all_eq_true]
 exact ⟨h t k,fun Y hY=>g Y hY t k⟩
theorem iV {α : Type} {Z Z' : Fin 16} {l : List α} {f g : α → Fin 16} (h : leS Z Z') (k : ∀ a ∈ l,leS (f a) (g a)) : leS (dz Z (l.map f)) (dz Z' (l.map g)):=fun t e=>by
 rw [jw,Bool.and_eq_true,List.all_eq_true] at *
 refine ⟨h t e.1,fun Y hY=>?_⟩
 obtain ⟨a,ha,rfl⟩:=List.mem_map.mp hY
 exact k a ha t (e.2 _ (List.mem_map.mpr ⟨a,ha,rfl⟩))
theorem jq.up {F : Den} {r r' : Rd} (g : jq F r) (h : ∀ q ∈ r,q ∈ r') : jq F r':=⟨g.ext,g.mono,g.anti,fun X q k=>h q (g.sub X q k)⟩
noncomputable def sw (h : Nat) : Prop:=∀ v F r,IsB v F r h → jq F r
noncomputable def Ah (h : Nat) : Prop:=∀ v F r,IsS v F r h → jq F r
theorem i7 {h : Nat} (g : sw h) : ∀ {kids : List ae} {Fs : List (Rd × Den)} {r : Rd},cD kids Fs r h → ∀ p ∈ Fs,jq p.2 r ∧ ∀ q ∈ p.1,q ∈ r:=by
 intro as0 F0 r0 i0
 refine cD.ind ?_ ?_ i0
 ·exact fun p hp=>by cases hp
 ·intro _ _ _ _ _ _ _ _ i j k ih p hp
  rcases List.mem_cons.mp hp with rfl | hp
  ·exact ⟨(g _ _ _ j).up fun q hq=>List.mem_append_right _ (List.mem_append_left _ hq),fun q hq=>List.mem_append_left _ hq⟩
  ·obtain ⟨a,b⟩:=ih p hp
   exact ⟨a.up fun q hq=>List.mem_append_right _ (List.mem_append_right _ hq),fun q hq=>List.mem_append_right _ (List.mem_append_right _ (b q hq))⟩
theorem xk {h : Nat} (g : sw h) : ∀ {bs : List ae} {Fs : List Den} {r : Rd},dM bs Fs r h → ∀ F ∈ Fs,jq F r:=by
 intro as0 F0 r0 i0
 refine dM.ind ?_ ?_ i0
 ·exact fun p hp=>by cases hp
 ·intro _ _ _ _ _ _ j k ih p hp
  rcases List.mem_cons.mp hp with rfl | hp
  ·exact (g _ _ _ j).up fun q hq=>List.mem_append_left _ hq
  ·exact (ih p hp).up fun q hq=>List.mem_append_right _ hq
theorem lB {Fs : List (Rd × Den)} {r : Rd} (g : ∀ p ∈ Fs,jq p.2 r ∧ ∀ q ∈ p.1,q ∈ r) {X Y : Fin 16} (h : leS X Y) {q : Int × Fin 4} (k : q ∈ Fs.flatMap (iz Y)) : q ∈ Fs.flatMap (iz X):=by
 rw [List.mem_flatMap] at *
 obtain ⟨p,hp,k⟩:=k
 refine ⟨p,hp,?_⟩
 unfold iz at *
 rw [List.mem_append] at *
 exact k.imp (eK h) ((g p hp).1.anti _ _ h _)
theorem nV {Fs : List (Rd × Den)} {r : Rd} (g : ∀ p ∈ Fs,jq p.2 r ∧ ∀ q ∈ p.1,q ∈ r) {X : Fin 16} {q : Int × Fin 4} (k : q ∈ Fs.flatMap (iz X)) : q ∈ r:=by
 rw [List.mem_flatMap] at k
 obtain ⟨p,hp,k⟩:=k
 unfold iz at k
 rw [List.mem_append] at k
 exact k.elim (fun k=>(g p hp).2 q (fu k)) fun k=>(g p hp).1.sub _ _ k
theorem sT {h : Nat} (gb : ∀ g,h = g + 1 → sw g) : Ah h:=by
 intro v F r i
 cases i with
 | asg iv=>exact ⟨fun X=>qn X _,fun X Y l=>g6 _ l,fun X Y l q k=>eK l k,fun X q k=>List.mem_cons_of_mem _ (fu k)⟩
 | inc iv=>
  refine ⟨fun X=>qn X _,fun X Y l=>g6 _ l,fun X Y l q k=>?_,fun X q k=>?_⟩
  ·dsimp only at *
   rw [List.mem_append] at *
   exact k.imp (eK l) (eK l)
  ·dsimp only at k
   rw [List.mem_append] at k
   rcases k with k | k
   ·exact List.mem_cons_of_mem _ (fu k)
   ·rw [List.mem_singleton.mp (fu k)]; exact List.mem_cons_self
 | cal iv=>exact ⟨fun X=>qn X _,fun X Y l=>g6 _ l,fun X Y l q k=>eK l k,fun X q k=>List.mem_cons_of_mem _ (fu k)⟩
 | if0 ia hl=>
  have g:=i7 (gb _ rfl) ia
  refine ⟨fun X=>ld leS.rfl' fun Y hY=>?_,fun X Y l=>iV l fun p hp=>(g p hp).1.mono _ _ l,fun X Y l q k=>lB g l k,fun X q k=>nV g k⟩
  obtain ⟨p,hp,rfl⟩:=List.mem_map.mp hY
  exact (g p hp).1.ext X
 | if1 ia hl ib=>
  have g:=i7 (gb _ rfl) ia
  have b:=gb _ rfl _ _ _ ib
  refine ⟨fun X=>ld (b.ext X) fun Y hY=>?_,fun X Y l=>iV (b.mono _ _ l) fun p hp=>(g p hp).1.mono _ _ l,fun X Y l q k=>?_,fun X q k=>?_⟩
  ·obtain ⟨p,hp,rfl⟩:=List.mem_map.mp hY
   exact (g p hp).1.ext X
  ·dsimp only at *
   rw [List.mem_append] at *
   exact k.imp (lB g l) (b.anti _ _ l _)
  ·dsimp only at k
   rw [List.mem_append] at *
   exact k.imp (nV g) (b.sub _ _)
 | whl ia hl=>
  have g:=i7 (gb _ rfl) ia
  exact ⟨fun X=>leS.rfl',fun X Y l=>l,fun X Y l q k=>lB g l k,fun X q k=>nV g k⟩
 | rep ib iv=>
  have b:=gb _ rfl _ _ _ ib
  refine ⟨b.ext,b.mono,fun X Y l q k=>?_,fun X q k=>?_⟩
  ·dsimp only at *
   rw [List.mem_append] at *
   exact k.imp (b.anti _ _ l _) (eK (b.mono _ _ l))
  ·dsimp only at k
   rw [List.mem_append] at *
   exact k.imp (b.sub _ _) fu
 | for_ i1 i2 ib=>
  have b:=gb _ rfl _ _ _ ib
  refine ⟨fun X=>qn X _,fun X Y l=>g6 _ l,fun X Y l q k=>?_,fun X q k=>?_⟩
  ·dsimp only at *
   rw [List.mem_append,List.mem_append] at *
   exact k.imp (eK l) fun k=>k.imp (eK (g6 _ l)) (b.anti _ _ (g6 _ l) _)
  ·dsimp only at k
   rw [List.mem_append,List.mem_append] at k
   refine List.mem_cons_of_mem _ ?_
   rw [List.mem_append,List.mem_append]
   exact k.imp fu fun k=>k.imp fu (b.sub _ _)
 | cas iv ib hl hne=>
  have g:=xk (gb _ rfl) ib
  refine ⟨fun X=>ld (fun t _=>fV t) fun Y hY=>?_,fun X Y l=>iV leS.rfl' fun p hp=>(g p hp).mono _ _ l,fun X Y l q k=>?_,fun X q k=>?_⟩
  ·obtain ⟨p,hp,rfl⟩:=List.mem_map.mp hY
   exact (g p hp).ext X
  ·dsimp only at *
   rw [List.mem_append,List.mem_flatMap] at *
   refine k.imp (eK l) ?_
   rintro ⟨p,hp,k⟩
   exact ⟨p,hp,(g p hp).anti _ _ l _ k⟩
  ·dsimp only at k
   rw [List.mem_append,List.mem_flatMap] at k
   rw [List.mem_append]
   refine k.imp fu ?_
   rintro ⟨p,hp,k⟩
   exact (g p hp).sub _ _ k
theorem zk {h : Nat} (g : Ah h) : ∀ {as : List ae} {F : Den} {r : Rd},IsL as F r h → jq F r:=by
 intro as0 F0 r0 i0
 refine IsL.ind ?_ ?_ i0
 ·exact ⟨fun X=>leS.rfl',fun X Y l=>l,fun X Y l q k=>(by cases k),fun X q k=>(by cases k)⟩
 ·intro _ _ _ _ _ _ i j ih
  have a:=g _ _ _ i
  have b:=ih
  refine ⟨fun X=>leS.trans (a.ext X) (b.ext _),fun X Y l=>b.mono _ _ (a.mono _ _ l),fun X Y l q k=>?_,fun X q k=>?_⟩
  ·unfold xS at *
   dsimp only at *
   rw [List.mem_append] at *
   exact k.imp (a.anti _ _ l _) (b.anti _ _ (a.mono _ _ l) _)
  ·unfold xS at k
   dsimp only at k
   rw [List.mem_append] at *
   exact k.imp (a.sub _ _) (b.sub _ _)
theorem tR {h : Nat} (g : Ah h) : sw h:=by
 intro v F r i
 cases i with
 | mk j=>exact zk g j
theorem wj : ∀ h : Nat,sw h
 | 0=>tR (sT fun g e=>nomatch e)
 | h + 1=>tR (sT fun g e=>by obtain rfl : g = h:=BA e; exact wj g)
end Mine
end
section
open PySem PySem.W PySem.Spec PySem.Calls PySem.SeqAt PyProof.Rows
namespace Mine
theorem vX {M : List ah} {ks : List ae} {i : Nat} {v : ae} {Q : ae → List ah → Prop} (h : ks[i]? = some v) (hi : i ≤ 1000000) : W (aV (.lst ks) (.int (i : Int))) M Q ↔ Q v M:=by
 refine bJ ?_
 unfold aV pb
 dsimp only
 rw [show (decide ((-1000000 : Int) ≤ (i : Int)) && decide ((i : Int) ≤ 1000000)) = true by rw [Bool.and_eq_true,decide_eq_true_eq,decide_eq_true_eq]; exact HW hi,if_pos rfl,if_pos (Jf hi),Option.bind_some,Int.toNat_natCast,h]
theorem ft {M : List ah} {ks : List ae} {i : Nat} {v : ae} {Q : ae → List ah → Prop} (h : ks[i]? = some v) (hi : i ≤ 1000000) (xx : Q v M) : W (aV (.lst ks) (.int (i : Int))) M Q:=(vX (M:=M) (ks:=ks) (i:=i) (v:=v) (Q:=Q) (h:=h) (hi:=hi)).mpr xx
theorem uo {M : List ah} {ks : List ae} {v : ae} {Q : ae → List ah → Prop} : W (aV (.lst (ks ++ [v])) (.int (-1))) M Q ↔ Q v M:=by
 refine bJ ?_
 unfold aV pb
 dsimp only
 rw [show (decide ((-1000000 : Int) ≤ (-1 : Int)) && decide ((-1 : Int) ≤ 1000000)) = true from rfl,if_pos rfl,List.length_append,List.length_singleton,if_neg (fun a=>Ht a),if_pos (Ja),Option.bind_some,show ((-1 : Int) + ((ks.length + 1 : Nat) : Int)).toNat = ks.length by omega]
 simp
theorem nO {M : List ah} {ks : List ae} {v : ae} {Q : ae → List ah → Prop} (xx : Q v M) : W (aV (.lst (ks ++ [v])) (.int (-1))) M Q:=(uo (M:=M) (ks:=ks) (v:=v) (Q:=Q)).mpr xx
theorem Dt {M : List ah} {ks : List ae} {Q : ae → List ah → Prop} (h : ks.length ≤ 1000000) : W (ff [.lst ks]) M Q ↔ Q (.int ks.length) M:=by
 refine bJ ?_
 unfold ff cA
 dsimp only
 rw [bi h,if_pos rfl]
theorem gf {M : List ah} {ks : List ae} {Q : ae → List ah → Prop} (h : ks.length ≤ 1000000) (xx : Q (.int ks.length) M) : W (ff [.lst ks]) M Q:=(Dt (M:=M) (ks:=ks) (Q:=Q) (h:=h)).mpr xx
theorem wT {M : List ah} {S : List (Fin 16)} {Q : ae → List ah → Prop} (hS : S ≠ []) : W (oEq (.lst (S.map stV)) (.mref M.length)) (M ++ [.lst []]) Q ↔ Q (.bool false) (M ++ [.lst []]):=by
 refine bJ ?_
 have h1 : cK (.lst (S.map stV)) (M ++ [.lst []]) = some (.list (S.map fun c=>.list ((cm c).map .int))):=by
  unfold cK hV
  dsimp only
  rw [nr]; rfl
 have h2 : cK (.mref M.length) (M ++ [.lst []]) = some (.list []):=by
  unfold cK
  dsimp only
  rw [bH]; rfl
 obtain ⟨a,S',rfl⟩:=List.exists_cons_of_ne_nil hS
 unfold oEq
 dsimp only
 rw [h1,h2]
 dsimp only
 rw [pH]; rfl
theorem GC {M : List ah} {S : List (Fin 16)} {Q : ae → List ah → Prop} (hS : S ≠ []) (xx : Q (.bool false) (M ++ [.lst []])) : W (oEq (.lst (S.map stV)) (.mref M.length)) (M ++ [.lst []]) Q:=(wT (M:=M) (S:=S) (Q:=Q) (hS:=hS)).mpr xx
theorem cY {M : List ah} {op : Str} {p ty val b : ae} {ks : List ae} {S : List (Fin 16)} {rest : Loc → Mo (Fl × Loc)} {Q : Fl × Loc → List ah → Prop} (hS : S ≠ []) :
  W (au (sIf (a6 (aE oEq (af 1) (bC am))) (bL (aD (bC am))) bE) (au (a7 3 (aS (aK "kids") (af 0))) rest) [some (.inst 32 (ndF op p ty (.lst ks) val)),some (.lst (S.map stV)),some b,none,none,none,none,none]) M Q ↔
  W (rest [some (.inst 32 (ndF op p ty (.lst ks) val)),some (.lst (S.map stV)),some b,some (.lst ks),none,none,none,none]) (M ++ [.lst []]) Q:=by
 rw [eP,kc,dP,dL,bU (v:=.lst (S.map stV)) rfl,m7,fR]
 rw [wT hS,gn,if_neg (by decide),hJ,dR,eP,uP,dN,bU (v:=.inst 32 (ndF op p ty (.lst ks) val)) rfl,ee,dR]
 exact ⟨fun h=>h.2,fun h=>⟨rfl,h⟩⟩
noncomputable def WS (n : Nat) (v : ae) (F : Den) (r : Rd) : Prop:=∀ {e : Nat} {R : Rd} {B : List ah} {hd : Rd} {J : List ah} {S : List (Fin 16)} {Q : ae → List ah → Prop},n ≤ e → Uni R → (∀ q ∈ r,q ∈ R) → Hd R hd → S ≠ [] → S.Nodup →
 (∀ S' hd' J',S' ≠ [] → S'.Nodup → br S' = (F (br S)).1 → Hd R hd' → (∀ q,q ∈ hd' ↔ q ∈ hd ∨ q ∈ (F (br S)).2) → Q (.lst (S'.map stV)) (D B hd' J')) →
 W (sem e .f_law_ways [v,.lst (S.map stV),.mref B.length]) (D B hd J) Q
noncomputable def yu (h : Nat) : Prop:=∀ v F r,IsS v F r h → WS (3 * h + 7) v F r
noncomputable def lK (h : Nat) : Prop:=∀ v F r,IsB v F r h → WS (3 * h + 8) v F r
section
variable {B : List ah} {hd R : Rd} {J M X : List ah} {d : Nat}
theorem xI {h : Nat} (ws : yu h) (he : 3 * h + 7 ≤ d) (u : Uni R) (x y : ae) {Q : Fl × Loc → List ah → Prop} : ∀ {as : List ae} {F : Den} {r : Rd},IsL as F r h → ∀ (hd : Rd) (J : List ah) (S : List (Fin 16)) (z : Option ae),(∀ q ∈ r,q ∈ R) → Hd R hd → S ≠ [] → S.Nodup →
  (∀ S' hd' J' z,S' ≠ [] → S'.Nodup → br S' = (F (br S)).1 → Hd R hd' → (∀ q,q ∈ hd' ↔ q ∈ hd ∨ q ∈ (F (br S)).2) → Q (.next,[some x,some (.lst (S'.map stV)),some (.mref B.length),some y,z,none,none,none]) (D B hd' J')) →
  W (dY 4 (a7 1 (aq (sem d .f_law_ways) (ab (af 4) (ab (af 1) (ab (af 2) am))))) as [some x,some (.lst (S.map stV)),some (.mref B.length),some y,z,none,none,none]) (D B hd J) Q:=by
 intro as0 F0 r0 i0
 refine IsL.ind ?_ ?_ i0
 ·intro hd J E z hr hh hS hn k
  refine bN ?_
  exact k _ _ _ z hS hn rfl hh fun q=>⟨.inl,fun a=>a.elim id fun a=>by cases a⟩
 ·intro a _ _ _ _ _ i j ih hd J E z hr hh hS hn k
  refine aY (aO (aA (wr rfl ?_)))
  refine ws _ _ _ i he u (fun q hq=>hr q (List.mem_append_left _ hq)) hh hS hn fun S1 hd1 J1 n1 d1 e1 h1 m1=>?_
  refine ih _ _ _ (some a) (fun q hq=>hr q (List.mem_append_right _ hq)) h1 n1 d1 fun S2 hd2 J2 z2 n2 d2 e2 h2 m2=>?_
  refine k S2 hd2 J2 z2 n2 d2 (by rw [e2,e1]; rfl) h2 fun q=>?_
  rw [m2 q,m1 q,e1]
  unfold xS
  dsimp only
  rw [List.mem_append,or_assoc]
theorem rp {h : Nat} (ws : yu h) : lK h:=by
 intro v F r i
 intro e R B hd J S Q he u hr hh hS hn k
 cases i with
 | @mk p kids _ _ _ i=>
  obtain ⟨d,rfl⟩ : ∃ d,e = d + 1:=⟨e - 1,(KF he)⟩
  rw [cW]
  refine bK (loc0:=[some (ndV "block" p .none kids .none),some (.lst (S.map stV)),some (.mref B.length),none,none,none,none,none]) (by simp) rfl ?_
  unfold cg ndV
  rw [cY hS]
  refine bg (i:=0) (op := "block") rfl (ifp rfl ?_)
  rw [di]
  refine aB (ci (ao (v:=.lst kids) rfl ?_))
  refine ⟨_,rfl,xI ws (ID he) u _ _ i _ _ _ none hr hh hS hn fun S' hd' J' z n' d' e' h' m'=>?_⟩
  refine aj (a8 (ao (v:=.lst (S'.map stV)) rfl (aX (aF ?_))))
  exact k S' hd' J' n' d' e' h' m'
theorem gK {h : Nat} : ∀ {kids : List ae} {Fs : List (Rd × Den)} {r : Rd},cD kids Fs r h → kids.length = 2 * Fs.length:=by
 intro as0 F0 r0 i0
 refine cD.ind ?_ ?_ i0
 ·exact rfl
 ·intro _ _ _ _ _ _ _ _ i j k ih
  rw [List.length_cons,List.length_cons,List.length_cons,ih]; exact Ju
theorem pJ {h : Nat} (wb : lK h) (he : 3 * h + 8 ≤ d) (u : Uni R) (x : ae) (kids : List ae) (hk : kids.length ≤ 10) {S : List (Fin 16)} (hS : S ≠ []) (hn : S.Nodup) {Q : Fl × Loc → List ah → Prop} : ∀ {as : List ae} {Fs : List (Rd × Den)} {r : Rd},cD as Fs r h → ∀ (hd : Rd) (J : List ah) (E : List (Fin 16)) (z : Option ae) (pre post : List ae) (n : Nat),kids = pre ++ as ++ post → pre.length = 2 * n → (∀ q ∈ r,q ∈ R) → Hd R hd → E.Nodup →
  (∀ E' hd' J' z,E'.Nodup → br E' = dz (br E) (Fs.map fun q=>(q.2 (br S)).1) → Hd R hd' → (∀ q,q ∈ hd' ↔ q ∈ hd ∨ q ∈ Fs.flatMap (iz (br S))) → Q (.next,[some x,some (.lst (S.map stV)),some (.mref B.length),some (.lst kids),none,some (.lst (E'.map stV)),z,none]) (D B hd' J')) →
  W (dY 6 (au (bw (aq (sem d .f_law_uses) (ab (aE aV (af 3) (aE lh (ar (.int 2)) (af 6))) (ab (af 1) (ab (af 2) am))))) (a7 5 (aq (sem d .f_law_joined) (ab (af 5) (ab (aq (sem d .f_law_ways) (ab (aE aV (af 3) (aE eH (aE lh (ar (.int 2)) (af 6)) (ar (.int 1)))) (ab (af 1) (ab (af 2) am)))) am)))))
   ((List.range' n Fs.length).map fun (i : Nat)=>ae.int (i : Int)) [some x,some (.lst (S.map stV)),some (.mref B.length),some (.lst kids),none,some (.lst (E.map stV)),z,none]) (D B hd J) Q:=by
 intro as0 F0 r0 i0
 refine cD.ind ?_ ?_ i0
 ·intro hd J E z pre post n e1 e2 hr hh hE k
  rw [show (List.range' n ([] : List (Rd × Den)).length).map (fun (i : Nat)=>ae.int (i : Int)) = [] from rfl]
  refine bN ?_
  exact k _ _ _ z hE rfl hh fun q=>⟨.inl,fun a=>a.elim id fun a=>by cases a⟩
 ·intro t b rt rb _ F as Fs i j ia ih hd J E z pre post n e1 e2 hr hh hE k
  have l1:=congrArg List.length e1
  rw [List.length_append,List.length_append,List.length_cons,List.length_cons] at l1
  have mul : ∀ (M : List ah) (Q : ae → List ah → Prop),W (lh (.int 2) (.int (n : Int))) M Q ↔ Q (.int ((2 * n : Nat) : Int)) M:=fun M Q=>bJ (by
   unfold lh i2i
   dsimp only
   rw [if_pos (show fit 2 = true from rfl),show ((2 : Int) * (n : Int)) = ((2 * n : Nat) : Int) by exact Im]
   rfl)
  have g0 : kids[2 * n]? = some t:=by rw [e1,List.append_assoc,List.getElem?_append_right (Bi e2),e2,Nat.sub_self]; rfl
  have g1 : kids[2 * n + 1]? = some b:=by rw [e1,List.append_assoc,List.getElem?_append_right (by exact BG e2),e2,show 2 * n + 1 - 2 * n = 1 by exact AZ]; rfl
  rw [List.length_cons,List.range'_succ,List.map_cons]
  refine aY (aB (bu (aA (ag (aU (ao (v:=.lst kids) rfl (aU (aR (ao (v:=.int (n : Int)) rfl ?_)))))))))
  rw [mul]
  refine ft g0 (Dm hk e2 l1) (wr rfl ?_)
  refine d4 i (Du he) u (fun q hq=>hr q (List.mem_append_left _ hq)) hh fun hd1 h1 m1=>?_
  refine aj (aO (aA (ag (ao (v:=.lst (E.map stV)) rfl (ag (aA (ag (aU (ao (v:=.lst kids) rfl (aU (aU (aR (ao (v:=.int (n : Int)) rfl ?_)))))))))))))
  rw [mul]
  refine aR (fL ?_)
  rw [show (((2 * n : Nat) : Int) + 1) = ((2 * n + 1 : Nat) : Int) by exact Br]
  refine ft g1 (DL hk e2 l1) (wr rfl ?_)
  refine wb _ _ _ j he u (fun q hq=>hr q (List.mem_append_right _ (List.mem_append_left _ hq))) h1 hS hn fun S2 hd2 J2 n2 d2 e3 h2 m2=>?_
  refine av ?_
  refine fk (Bt he) hE d2 fun X=>?_
  rw [di]
  refine ih _ _ _ (some (.int (n : Int))) (pre ++ [t,b]) post (n + 1) (by rw [e1]; simp) (by rw [List.length_append,e2]; simp; exact Bu) (fun q hq=>hr q (List.mem_append_right _ (List.mem_append_right _ hq))) h2 (fo hE d2) fun E' hd' J' z' n' e' h' m'=>?_
  refine k E' hd' J' z' n' ?_ h' fun q=>?_
  ·rw [e',fm,e3]; rfl
  ·rw [m' q,m2 q,m1 q,List.flatMap_cons,List.mem_append]
   unfold iz
   rw [List.mem_append,or_assoc,or_assoc,or_assoc]
theorem xt {h : Nat} (wb : lK h) (he : 3 * h + 8 ≤ d) (u : Uni R) (x y : ae) {S : List (Fin 16)} (hS : S ≠ []) (hn : S.Nodup) {Q : Fl × Loc → List ah → Prop} : ∀ {bs : List ae} {Fs : List Den} {r : Rd},dM bs Fs r h → ∀ (hd : Rd) (J : List ah) (E : List (Fin 16)) (z : Option ae),(∀ q ∈ r,q ∈ R) → Hd R hd → E.Nodup →
  (∀ E' hd' J' z,(E ≠ [] ∨ Fs ≠ [] → E' ≠ []) → E'.Nodup → br E' = dz (br E) (Fs.map fun F=>(F (br S)).1) → Hd R hd' → (∀ q,q ∈ hd' ↔ q ∈ hd ∨ q ∈ Fs.flatMap fun F=>(F (br S)).2) → Q (.next,[some x,some (.lst (S.map stV)),some (.mref B.length),some y,z,some (.lst (E'.map stV)),none,none]) (D B hd' J')) →
  W (dY 4 (a7 5 (aq (sem d .f_law_joined) (ab (af 5) (ab (aq (sem d .f_law_ways) (ab (af 4) (ab (af 1) (ab (af 2) am)))) am)))) bs [some x,some (.lst (S.map stV)),some (.mref B.length),some y,z,some (.lst (E.map stV)),none,none]) (D B hd J) Q:=by
 intro as0 F0 r0 i0
 refine dM.ind ?_ ?_ i0
 ·intro hd J E z hr hh hE k
  refine bN ?_
  exact k _ _ _ z (fun a=>a.elim id fun a=>absurd rfl a) hE rfl hh fun q=>⟨.inl,fun a=>a.elim id fun a=>by cases a⟩
 ·intro b F _ _ _ Fs j ib ih hd J E z hr hh hE k
  refine aY (aO (aA (ag (ao (v:=.lst (E.map stV)) rfl (ag (aA (wr rfl ?_)))))))
  refine wb _ _ _ j he u (fun q hq=>hr q (List.mem_append_left _ hq)) hh hS hn fun S2 hd2 J2 n2 d2 e3 h2 m2=>?_
  refine av ?_
  refine fk (Bt he) hE d2 fun X=>?_
  rw [di]
  refine ih _ _ _ (some b) (fun q hq=>hr q (List.mem_append_right _ hq)) h2 (fo hE d2) fun E' hd' J' z' ne' n' e' h' m'=>?_
  refine k E' hd' J' z' (fun _=>ne' (.inl ?_)) n' ?_ h' fun q=>?_
  ·intro e0
   obtain ⟨a,S2',rfl⟩:=List.exists_cons_of_ne_nil n2
   have : a ∈ fe E (a :: S2'):=jY.mpr (.inr List.mem_cons_self)
   rw [e0] at this; cases this
  ·rw [e',fm,e3]; rfl
  ·rw [m' q,m2 q,List.flatMap_cons,List.mem_append,or_assoc]
end
end Mine
end
section
open PySem PySem.W PySem.Spec PySem.Calls PySem.SeqAt PyProof.Rows
namespace Mine
section
variable {B : List ah} {hd R : Rd} {J M X : List ah} {d : Nat}
theorem Cr {Q : Bool → List ah → Prop} {loc : Loc} : W (a6 (ar (.bool true)) loc) M Q ↔ Q true M:=by rw [dP,dv,gn]
theorem wS {Q : Bool → List ah → Prop} {loc : Loc} (xx : Q true M) : W (a6 (ar (.bool true)) loc) M Q:=(Cr (Q:=Q) (loc:=loc)).mpr xx
theorem Ae {a c : Int} {Q : ae → List ah → Prop} : W (cX [.int a,.int c,.int 2]) M Q ↔ Q (.rng a c 2) M:=by
 unfold cX
 dsimp only
 rw [if_pos (show (decide ((2 : Int) ≠ 0) && fit 2) = true from rfl)]
 exact cb
theorem kz {a c : Int} {Q : ae → List ah → Prop} (xx : Q (.rng a c 2) M) : W (cX [.int a,.int c,.int 2]) M Q:=(Ae (a:=a) (c:=c) (Q:=Q)).mpr xx
theorem kR {h : Nat} (wb : lK h) (he : 3 * h + 8 ≤ d) (u : Uni R) (x y : ae) {kids : List ae} {iu ib : Nat} {t b : ae} {rt r : Rd} {F : Den} (iv : IsV t rt 3) (jb : IsB b F r h) (g0 : kids[iu]? = some t) (g1 : kids[ib]? = some b) (hu : iu ≤ 100) (hb : ib ≤ 100) (hr : ∀ q ∈ rt ++ r,q ∈ R) (Z : Fin 16) {Q : Fl × Loc → List ah → Prop} :
  ∀ (n : Nat) (hd : Rd) (J : List ah) (T : List (Fin 16)) (z : Option ae),17 ≤ n + T.length → T ≠ [] → T.Nodup → br T = Z → Hd R hd →
  (∀ T' hd' J' loc,T' ≠ [] → T'.Nodup → br T' = Z → Hd R hd' → (∀ q,q ∈ hd' ↔ q ∈ hd ∨ q ∈ dW Z rt ∨ q ∈ (F Z).2) → Q (.ret (.lst (T'.map stV)),loc) (D B hd' J')) →
  W (dC (a6 (ar (.bool true))) (au (bw (aq (sem d .f_law_uses) (ab (aE aV (af 3) (ar (.int (iu : Int)))) (ab (af 4) (ab (af 2) am))))) (au (a7 5 (aq (sem d .f_law_joined) (ab (af 4) (ab (aq (sem d .f_law_ways) (ab (aE aV (af 3) (ar (.int (ib : Int)))) (ab (af 4) (ab (af 2) am)))) am)))) (au (sIf (a6 (aE oEq (aq ff (ab (af 5) am)) (aq ff (ab (af 4) am)))) (bL (af 4)) bE) (a7 4 (af 5))))) n [some x,some y,some (.mref B.length),some (.lst kids),some (.lst (T.map stV)),z,none]) (D B hd J) Q
 | 0,hd,J,T,z,hl,hT,hn,hz,hh,k=>absurd (dy hn) (fun a=>FO hl a)
 | n + 1,hd,J,T,z,hl,hT,hn,hz,hh,k=>by
  have G:=wj h _ _ _ jb
  refine hH (wS (ifp rfl (aB (bu (aA (ag (aU (ao (v:=.lst kids) rfl (aR (ft g0 (AH hu) (ag (ao (v:=.lst (T.map stV)) rfl (ag (ao (v:=.mref B.length) rfl (av ?_)))))))))))))))
  refine d4 iv (Du he) u (fun q hq=>hr q (List.mem_append_left _ hq)) hh fun hd1 h1 m1=>?_
  refine aj (aB (aO (aA (ag (ao (v:=.lst (T.map stV)) rfl (ag (aA (ag (aU (ao (v:=.lst kids) rfl (aR (ft g1 (AH hb) (ag (ao (v:=.lst (T.map stV)) rfl (ag (ao (v:=.mref B.length) rfl (av ?_)))))))))))))))))
  refine wb _ _ _ jb he u (fun q hq=>hr q (List.mem_append_right _ hq)) h1 hT hn fun S2 hd2 J2 n2 d2 e3 h2 m2=>?_
  refine av ?_
  refine fk (Bt he) hn d2 fun X=>?_
  have dj:=fo hn d2
  have lj:=dy dj
  have lt:=dy hn
  have ll:=tS T S2
  rw [di]
  refine aj (aB (cG (bM (aU (aA (ag (ao (v:=.lst ((fe T S2).map stV)) rfl (av (gf (by rw [List.length_map]; exact yB lj) (aA (ag (ao (v:=.lst (T.map stV)) rfl (av (gf (by rw [List.length_map]; exact yB lt) (eW (b9 ?_))))))))))))))))
  rw [List.length_map,List.length_map]
  have hits : ∀ q,q ∈ hd2 ↔ q ∈ hd ∨ q ∈ dW Z rt ∨ q ∈ (F Z).2:=fun q=>by rw [m2 q,m1 q,hz,or_assoc]
  by_cases hc : ((fe T S2).length : Int) = T.length
  ·refine ifp (decide_eq_true hc) (a8 (ao (v:=.lst (T.map stV)) rfl (aX ?_)))
   exact k T hd2 _ _ hT hn hz h2 hits
  ·refine ifn (by rw [decide_eq_true_eq]; exact hc) (cB (aj (aO (ao (v:=.lst ((fe T S2).map stV)) rfl ?_))))
   refine kR wb he u x y iv jb g0 g1 hu hb hr Z n hd2 _ (fe T S2) (some (.lst ((fe T S2).map stV))) (EQ hl ll hc) ?_ dj ?_ h2 fun T' hd' J' loc t' n' e' h' m'=>?_
   ·intro e0
    rw [e0] at ll
    exact hT (List.length_eq_zero_iff.mp (Nat.le_zero.mp ll))
   ·rw [fm,e3,hz]
    refine iF _ _ fun s=>?_
    rw [cS]
    cases e4 : bW Z s with
    | false=>rfl
    | true=>rw [G.ext Z s e4]; rfl
   ·refine k T' hd' J' loc t' n' e' h' fun q=>?_
    rw [m' q,hits q]
    constructor
    ·rintro ((a | a) | a)
     ·exact .inl a
     ·exact .inr a
     ·exact .inr a
    ·rintro (a | a)
     ·exact .inl (.inl a)
     ·exact .inr a
theorem uD {h : Nat} (wb : lK h) (he : 3 * h + 8 ≤ d) (u : Uni R) (x y : ae) (kids : List ae) (hk : kids.length ≤ 10) {T : List (Fin 16)} (hT : T ≠ []) (hn : T.Nodup) {Q : Fl × Loc → List ah → Prop} : ∀ {as : List ae} {Fs : List (Rd × Den)} {r : Rd},cD as Fs r h → ∀ (hd : Rd) (J : List ah) (E : List (Fin 16)) (z : Option ae) (pre : List ae) (n : Nat),kids = pre ++ as → pre.length = 2 * n → (∀ q ∈ r,q ∈ R) → Hd R hd → E.Nodup →
  (∀ E' hd' J' z,E'.Nodup → E.length ≤ E'.length → br E' = dz (br E) (Fs.map fun q=>(q.2 (br T)).1) → Hd R hd' → (∀ q,q ∈ hd' ↔ q ∈ hd ∨ q ∈ Fs.flatMap (iz (br T))) → Q (.next,[some x,some y,some (.mref B.length),some (.lst kids),some (.lst (T.map stV)),some (.lst (E'.map stV)),z]) (D B hd' J')) →
  W (dY 6 (au (bw (aq (sem d .f_law_uses) (ab (aE aV (af 3) (af 6)) (ab (af 4) (ab (af 2) am))))) (a7 5 (aq (sem d .f_law_joined) (ab (af 5) (ab (aq (sem d .f_law_ways) (ab (aE aV (af 3) (aE eH (af 6) (ar (.int 1)))) (ab (af 4) (ab (af 2) am)))) am)))))
   ((List.range' n Fs.length).map fun (i : Nat)=>ae.int ((2 * i : Nat) : Int)) [some x,some y,some (.mref B.length),some (.lst kids),some (.lst (T.map stV)),some (.lst (E.map stV)),z]) (D B hd J) Q:=by
 intro as0 F0 r0 i0
 refine cD.ind ?_ ?_ i0
 ·intro hd J E z pre n e1 e2 hr hh hE k
  rw [show (List.range' n ([] : List (Rd × Den)).length).map (fun (i : Nat)=>ae.int ((2 * i : Nat) : Int)) = [] from rfl]
  refine bN ?_
  exact k _ _ _ z hE (Nat.le_refl _) rfl hh fun q=>⟨.inl,fun a=>a.elim id fun a=>by cases a⟩
 ·intro t b rt rb _ F as Fs i j ia ih hd J E z pre n e1 e2 hr hh hE k
  have l1:=congrArg List.length e1
  rw [List.length_append,List.length_cons,List.length_cons] at l1
  have g0 : kids[2 * n]? = some t:=by rw [e1,List.getElem?_append_right (Bi e2),e2,Nat.sub_self]; rfl
  have g1 : kids[2 * n + 1]? = some b:=by rw [e1,List.getElem?_append_right (by exact BG e2),e2,show 2 * n + 1 - 2 * n = 1 by exact AZ]; rfl
  rw [List.length_cons,List.range'_succ,List.map_cons]
  refine aY (aB (bu (aA (ag (aU (ao (v:=.lst kids) rfl (ao (v:=.int ((2 * n : Nat) : Int)) rfl (ft g0 (JL hk e2 l1) (ag (ao (v:=.lst (T.map stV)) rfl (ag (ao (v:=.mref B.length) rfl (av ?_)))))))))))))
  refine d4 i (Du he) u (fun q hq=>hr q (List.mem_append_left _ hq)) hh fun hd1 h1 m1=>?_
  refine aj (aO (aA (ag (ao (v:=.lst (E.map stV)) rfl (ag (aA (ag (aU (ao (v:=.lst kids) rfl (aU (ao (v:=.int ((2 * n : Nat) : Int)) rfl (aR (fL ?_)))))))))))))
  rw [show (((2 * n : Nat) : Int) + 1) = ((2 * n + 1 : Nat) : Int) by exact Br]
  refine ft g1 (Jl hk e2 l1) (ag (ao (v:=.lst (T.map stV)) rfl (ag (ao (v:=.mref B.length) rfl (av ?_)))))
  refine wb _ _ _ j he u (fun q hq=>hr q (List.mem_append_right _ (List.mem_append_left _ hq))) h1 hT hn fun S2 hd2 J2 n2 d2 e3 h2 m2=>?_
  refine av ?_
  refine fk (Bt he) hE d2 fun X=>?_
  have ll:=tS E S2
  rw [di]
  refine ih _ _ _ (some (.int ((2 * n : Nat) : Int))) (pre ++ [t,b]) (n + 1) (by rw [e1]; simp) (by rw [List.length_append,e2]; simp; exact Bu) (fun q hq=>hr q (List.mem_append_right _ (List.mem_append_right _ hq))) h2 (fo hE d2) fun E' hd' J' z' n' le' e' h' m'=>?_
  refine k E' hd' J' z' n' (ED ll le') ?_ h' fun q=>?_
  ·rw [e',fm,e3]; rfl
  ·rw [m' q,m2 q,m1 q,List.flatMap_cons,List.mem_append]
   unfold iz
   rw [List.mem_append,or_assoc,or_assoc,or_assoc]
theorem Fm {Fs : List (Rd × Den)} (h : Fs.length ≤ 2) {kl : Nat} (e : kl = 2 * Fs.length) : cV (.rng 0 (kl : Int) 2) = some ((List.range' 0 Fs.length).map fun (i : Nat)=>ae.int ((2 * i : Nat) : Int)):=by
 subst e
 match hl : Fs.length,h with
 | 0,_=>kernel_rfl
 | 1,_=>kernel_rfl
 | 2,_=>kernel_rfl
theorem nP {h : Nat} (wb : lK h) (he : 3 * h + 8 ≤ d) (u : Uni R) (x y : ae) {kids : List ae} (hk : kids.length ≤ 4) {Fs : List (Rd × Den)} {r : Rd} (ia : cD kids Fs r h) (hr : ∀ q ∈ r,q ∈ R) (Z : Fin 16) {Q : Fl × Loc → List ah → Prop} :
  ∀ (n : Nat) (hd : Rd) (J : List ah) (T : List (Fin 16)) (z z6 : Option ae),17 ≤ n + T.length → T ≠ [] → T.Nodup → br T = Z → Hd R hd →
  (∀ T' hd' J' loc,T' ≠ [] → T'.Nodup → br T' = Z → Hd R hd' → (∀ q,q ∈ hd' ↔ q ∈ hd ∨ q ∈ Fs.flatMap (iz Z)) → Q (.ret (.lst (T'.map stV)),loc) (D B hd' J')) →
  W (dC (a6 (ar (.bool true))) (au (a7 5 (af 4)) (au (dX 6 (aq cX (ab (ar (.int 0)) (ab (aq ff (ab (af 3) am)) (ab (ar (.int 2)) am)))) (au (bw (aq (sem d .f_law_uses) (ab (aE aV (af 3) (af 6)) (ab (af 4) (ab (af 2) am))))) (a7 5 (aq (sem d .f_law_joined) (ab (af 5) (ab (aq (sem d .f_law_ways) (ab (aE aV (af 3) (aE eH (af 6) (ar (.int 1)))) (ab (af 4) (ab (af 2) am)))) am)))))) (au (sIf (a6 (aE oEq (aq ff (ab (af 5) am)) (aq ff (ab (af 4) am)))) (bL (af 4)) bE) (a7 4 (af 5))))) n [some x,some y,some (.mref B.length),some (.lst kids),some (.lst (T.map stV)),z,z6]) (D B hd J) Q
 | 0,hd,J,T,z,z6,hl,hT,hn,hz,hh,k=>absurd (dy hn) (fun a=>FO hl a)
 | n + 1,hd,J,T,z,z6,hl,hT,hn,hz,hh,k=>by
  have G:=i7 (wj h) ia
  have al:=gK ia
  refine hH (wS (ifp rfl (aB (aO (ao (v:=.lst (T.map stV)) rfl (aj (aB (ci (aA (ag (aR (ag (aA (ag (ao (v:=.lst kids) rfl (av (gf (BH hk al) (ag (aR (av ?_))))))))))))))))))))
  refine kz ?_
  refine ⟨_,Fm (xD hk al) al,?_⟩
  refine uD wb he u x y kids (BS hk al) hT hn ia hd J T z6 [] 0 rfl rfl hr hh hn fun E' hd2 J2 z2 n2 le2 e2 h2 m2=>?_
  have lj:=dy n2
  have lt:=dy hn
  refine aj (aB (cG (bM (aU (aA (ag (ao (v:=.lst (E'.map stV)) rfl (av (gf (by rw [List.length_map]; exact yB lj) (aA (ag (ao (v:=.lst (T.map stV)) rfl (av (gf (by rw [List.length_map]; exact yB lt) (eW (b9 ?_))))))))))))))))
  rw [List.length_map,List.length_map]
  have hits : ∀ q,q ∈ hd2 ↔ q ∈ hd ∨ q ∈ Fs.flatMap (iz Z):=fun q=>by rw [m2 q,hz]
  by_cases hc : (E'.length : Int) = T.length
  ·refine ifp (decide_eq_true hc) (a8 (ao (v:=.lst (T.map stV)) rfl (aX ?_)))
   exact k T hd2 _ _ hT hn hz h2 hits
  ·refine ifn (by rw [decide_eq_true_eq]; exact hc) (cB (aj (aO (ao (v:=.lst (E'.map stV)) rfl ?_))))
   refine nP wb he u x y hk ia hr Z n hd2 _ E' (some (.lst (E'.map stV))) z2 (EQ hl le2 hc) ?_ n2 ?_ h2 fun T' hd' J' loc t' n' e' h' m'=>?_
   ·intro e0
    rw [e0] at le2
    exact hT (List.length_eq_zero_iff.mp (Nat.le_zero.mp le2))
   ·rw [e2,hz]
    refine iF _ _ fun s=>?_
    rw [jw]
    cases e4 : bW Z s with
    | false=>rfl
    | true=>
     rw [Bool.true_and,List.all_eq_true]
     intro Y hY
     obtain ⟨p,hp,rfl⟩:=List.mem_map.mp hY
     exact (G p hp).1.ext Z s e4
   ·refine k T' hd' J' loc t' n' e' h' fun q=>?_
    rw [m' q,hits q]
    constructor
    ·rintro ((a | a) | a)
     ·exact .inl a
     ·exact .inr a
     ·exact .inr a
    ·rintro (a | a)
     ·exact .inl (.inl a)
     ·exact .inr a
end
end Mine
end
section
open PySem PySem.W PySem.Spec PySem.Calls PySem.SeqAt PyProof.Rows
namespace Mine
section
variable {B : List ah} {hd R : Rd} {J M X : List ah} {d : Nat}
theorem EE {Fs : List (Rd × Den)} (h : Fs.length ≤ 2) {kl : Nat} (e : kl = 2 * Fs.length ∨ kl = 2 * Fs.length + 1) : ∃ n,(∀ (M : List ah) (Q : ae → List ah → Prop),W (qM (.int (kl : Int)) (.int 2)) M Q ↔ Q (.int n) M) ∧ cV (.rng 0 n 1) = some ((List.range' 0 Fs.length).map fun (i : Nat)=>ae.int (i : Int)):=by
 refine ⟨(kl : Int).fdiv 2,fun M Q=>?_,?_⟩
 ·unfold qM i2i
  dsimp only
  rw [if_pos (show (decide ((2 : Int) ≠ 0) && fit 2) = true from rfl)]
  exact cb
 ·have : (kl : Int).fdiv 2 = (Fs.length : Int):=by
   rw [Int.fdiv_eq_ediv_of_nonneg _ (by decide)]
   exact Jy e
  rw [this]
  match hl : Fs.length,h with
  | 0,_=>kernel_rfl
  | 1,_=>kernel_rfl
  | 2,_=>kernel_rfl
theorem kq {ks : List ae} {v : ae} {x : Int} (i : Nat) (hx : x = (i : Int)) (h : ks[i]? = some v) (hi : i ≤ 1000000) {Q : ae → List ah → Prop} : W (aV (.lst ks) (.int x)) M Q ↔ Q v M:=by
 subst hx
 exact vX h hi
theorem dE {ks : List ae} {v : ae} {x : Int} (i : Nat) (hx : x = (i : Int)) (h : ks[i]? = some v) (hi : i ≤ 1000000) {Q : ae → List ah → Prop} (xx : Q v M) : W (aV (.lst ks) (.int x)) M Q:=(kq (ks:=ks) (v:=v) (x:=x) (i:=i) (hx:=hx) (h:=h) (hi:=hi) (Q:=Q)).mpr xx
theorem x3 {loc : Loc} {Q : ae → List ah → Prop} : W (aD (bC am) loc) M Q ↔ Q (.lst ([].map stV)) (M ++ [.gone]):=by
 rw [jc,fR]
 exact ⟨fun h=>h.2,fun h=>⟨rfl,h⟩⟩
theorem ki {loc : Loc} {Q : ae → List ah → Prop} (xx : Q (.lst ([].map stV)) (M ++ [.gone])) : W (aD (bC am) loc) M Q:=(x3 (loc:=loc) (Q:=Q)).mpr xx
theorem vc {s : Fin 4} {p : Int} {Q : ae → List ah → Prop} {l : Loc → Mo ae} {loc : Loc} (h : W (l loc) M fun a M1=>a = vaV p s ∧ M1 = M) : W (aS (aK "slot") (aS (aK "value") l) loc) M Q ↔ Q (.int (s.val : Int)) M:=by
 obtain ⟨a,M1,e,rfl,rfl⟩:=h
 rw [dN,dN,bJ e]
 unfold vaV ndV
 rw [eT,jX]
theorem g7 {s : Fin 4} {p : Int} {Q : ae → List ah → Prop} {l : Loc → Mo ae} {loc : Loc} (h : W (l loc) M fun a M1=>a = vaV p s ∧ M1 = M) (xx : Q (.int (s.val : Int)) M) : W (aS (aK "slot") (aS (aK "value") l) loc) M Q:=(vc (s:=s) (p:=p) (Q:=Q) (l:=l) (loc:=loc) (h:=h)).mpr xx
theorem Bn {i : Nat} {loc : Loc} {a : ae} {vs : List ae} {Q : ae → List ah → Prop} (h : loc[i]? = some (some (.lst (a :: vs)))) (hl : vs.length ≤ 1000) : W (aD (gT 1 (af i)) loc) M Q ↔ Q (.lst vs) (M ++ [.gone]):=by
 have e : gT 1 (af i) loc M = some (.mref M.length,M ++ [.lst vs]):=by
  unfold gT af
  rw [h]
  unfold bnd
  dsimp only
  unfold cA
  dsimp only
  rw [bi (by rw [List.length_cons]; exact DV hl),if_pos rfl]
  rfl
 rw [kA,bJ e]
 constructor
 ·rintro ⟨j,mo,v,e1,e2,e3,q⟩
  cases e1
  rw [bH] at e2; cases e2; cases e3
  rw [cC] at q; exact q
 ·intro q
  refine ⟨_,_,_,rfl,bH,rfl,?_⟩
  rw [cC]; exact q
theorem B6 {i : Nat} {loc : Loc} {a : ae} {vs : List ae} {Q : ae → List ah → Prop} (h : loc[i]? = some (some (.lst (a :: vs)))) (hl : vs.length ≤ 1000) (xx : Q (.lst vs) (M ++ [.gone])) : W (aD (gT 1 (af i)) loc) M Q:=(Bn (i:=i) (loc:=loc) (a:=a) (vs:=vs) (Q:=Q) (h:=h) (hl:=hl)).mpr xx
theorem tN {h : Nat} (wb0 : ∀ g,h = g + 1 → lK g) : yu h:=by
 intro v F r i
 intro e R B hd J S Q he u hr hh hS hn k
 obtain ⟨d,rfl⟩ : ∃ d,e = d + 1:=⟨e - 1,(GE he)⟩
 have ls:=dy hn
 cases i with
 | @asg at_ p s v r _ iv=>
  rw [cW]
  refine bK (loc0:=[some (ndV "assign" at_ .none [vaV p s,v] .none),some (.lst (S.map stV)),some (.mref B.length),none,none,none,none,none]) (by simp) rfl ?_
  unfold cg ndV
  rw [cY hS]
  refine bg (i:=0) (op := "assign") rfl (ifn (by decide) (bg (i:=0) (op := "assign") rfl (ifp rfl ?_)))
  rw [di]
  refine aB (bu (aA (wr rfl ?_)))
  refine d4 iv (Dx he) u (fun q hq=>hr q (List.mem_cons_of_mem _ hq)) hh fun hd1 h1 m1=>?_
  refine aj (a8 (aA (ag (ao (v:=.lst (S.map stV)) rfl (ag (g7 (s:=s) (p:=p) (by rw [dL,bU (v:=.lst [vaV p s,v]) rfl,dv,kq (x:=0) 0 rfl rfl (by decide)]; exact ⟨rfl,rfl⟩) (av ?_)))))))
  refine ir (En he) hn fun X=>?_
  refine aX (aF ?_)
  rw [di]
  exact k _ _ _ (ja s hS) (fb s S [] List.nodup_nil) (fS s hS) h1 m1
 | @inc at_ p s v r _ iv=>
  rw [cW]
  refine bK (loc0:=[some (ndV "std" at_ .none [vaV p s,v] (.str "INC")),some (.lst (S.map stV)),some (.mref B.length),none,none,none,none,none]) (by simp) rfl ?_
  unfold cg ndV
  rw [cY hS]
  refine bg (i:=0) (op := "std") rfl (ifn (by decide) (bg (i:=0) (op := "std") rfl (ifn (by decide) (bg (i:=0) (op := "std") rfl (ifp rfl ?_)))))
  rw [di]
  refine aB (bu (aA (wr rfl ?_)))
  refine d4 iv (Dx he) u (fun q hq=>hr q (List.mem_cons_of_mem _ hq)) hh fun hd1 h1 m1=>?_
  refine aj (aB (bu (aA (wr rfl ?_))))
  refine d4 (.var p s 0) (HT he) u (fun q hq=>hr q (by rw [List.mem_singleton.mp hq]; exact List.mem_cons_self)) h1 fun hd2 h2 m2=>?_
  refine aj (a8 (aA (ag (ao (v:=.lst (S.map stV)) rfl (ag (g7 (s:=s) (p:=p) (by rw [dL,bU (v:=.lst [vaV p s,v]) rfl,dv,kq (x:=0) 0 rfl rfl (by decide)]; exact ⟨rfl,rfl⟩) (av ?_)))))))
  refine ir (En he) hn fun X=>?_
  refine aX (aF ?_)
  rw [di]
  exact k _ _ _ (ja s hS) (fb s S [] List.nodup_nil) (fS s hS) h2 fun q=>by rw [m2 q,m1 q,List.mem_append,or_assoc]
 | @cal at_ pc p s v r _ iv=>
  rw [cW]
  refine bK (loc0:=[some (ndV "call" at_ .none [ndV "proc" pc dH [] fg,vaV p s,v] .none),some (.lst (S.map stV)),some (.mref B.length),none,none,none,none,none]) (by simp) rfl ?_
  rw [show ndV "call" at_ .none [ndV "proc" pc dH [] fg,vaV p s,v] .none = .inst 32 (ndF "call" (.int at_) .none (.lst [ndV "proc" pc dH [] fg,vaV p s,v]) .none) from rfl]
  unfold cg
  rw [cY hS]
  refine bg (i:=0) (op := "call") rfl (ifn (by decide) (bg (i:=0) (op := "call") rfl (ifn (by decide) (bg (i:=0) (op := "call") rfl (ifn (by decide) (bg (i:=0) (op := "call") rfl (ifp rfl ?_)))))))
  rw [di]
  refine aB (bu (aA (wr rfl ?_)))
  refine d4 iv (Dx he) u (fun q hq=>hr q (List.mem_cons_of_mem _ hq)) hh fun hd1 h1 m1=>?_
  refine aj (a8 (aA (ag (ao (v:=.lst (S.map stV)) rfl (ag (g7 (s:=s) (p:=p) (by rw [dL,bU (v:=.lst [ndV "proc" pc dH [] fg,vaV p s,v]) rfl,dv,kq (x:=1) 1 rfl rfl (by decide)]; exact ⟨rfl,rfl⟩) (av ?_)))))))
  refine ir (En he) hn fun X=>?_
  refine aX (aF ?_)
  rw [di]
  exact k _ _ _ (ja s hS) (fb s S [] List.nodup_nil) (fS s hS) h1 m1
 | @if0 at_ kids Fs r g ia hl=>
  have wb:=wb0 g rfl
  have al:=gK ia
  obtain ⟨n,hdv,hit⟩:=EE (Fs:=Fs) (xD hl al) (.inl al)
  rw [cW]
  refine bK (loc0:=[some (ndV "if" at_ .none kids (.bool false)),some (.lst (S.map stV)),some (.mref B.length),none,none,none,none,none]) (by simp) rfl ?_
  unfold cg ndV
  rw [cY hS]
  refine bg (i:=0) (op := "if") rfl (ifn (by decide) (bg (i:=0) (op := "if") rfl (ifn (by decide) (bg (i:=0) (op := "if") rfl (ifn (by decide) (bg (i:=0) (op := "if") rfl (ifn (by decide) (bg (i:=0) (op := "if") rfl (ifp rfl ?_)))))))))
  rw [di]
  refine aB (aO (ki ?_))
  rw [di]
  refine aj (aB (ci (aA (ag (aU (aA (ag (ao (v:=.lst kids) rfl (av (gf (BH hl al) (aR ?_)))))))))))
  rw [hdv]
  refine av (jS ?_)
  refine ⟨_,hit,pJ wb (Ci he) u _ kids (BS hl al) hS hn ia _ _ [] none [] [] 0 (by simp) rfl hr hh List.nodup_nil fun E' hd1 J1 z1 n1 e1 h1 m1=>?_⟩
  refine aj (aB (aO (tl (wr rfl (ifn (by decide) (ao (v:=.lst (S.map stV)) rfl (aj (a8 (aA (wr rfl ?_))))))))))
  refine fk (F8 he) n1 hn fun X=>?_
  refine aX (aF ?_)
  rw [di]
  refine k _ _ _ (fun e0=>?_) (fo n1 hn) ?_ h1 m1
  ·obtain ⟨a,S',rfl⟩:=List.exists_cons_of_ne_nil hS
   have : a ∈ fe E' (a :: S'):=jY.mpr (.inr List.mem_cons_self)
   rw [e0] at this; cases this
  ·rw [fm,e1,gM]
   dsimp only
   rw [fY (Fs.map _) (br S),fY]
   exact iF _ _ fun t=>by rw [cS,cS,cS,fV,Bool.true_and,Bool.and_comm]
 | @if1 at_ kids Fs ra rb g b F ia hl ib=>
  have wb:=wb0 g rfl
  have al:=gK ia
  obtain ⟨n,hdv,hit⟩:=EE (Fs:=Fs) (kl:=(kids ++ [b]).length) (xD hl al) (.inr (by rw [List.length_append,List.length_singleton,al]))
  rw [cW]
  refine bK (loc0:=[some (ndV "if" at_ .none (kids ++ [b]) (.bool true)),some (.lst (S.map stV)),some (.mref B.length),none,none,none,none,none]) (by simp) rfl ?_
  unfold cg ndV
  have kl : (kids ++ [b]).length ≤ 5:=by rw [List.length_append,List.length_singleton]; exact Fy hl al
  rw [cY hS]
  refine bg (i:=0) (op := "if") rfl (ifn (by decide) (bg (i:=0) (op := "if") rfl (ifn (by decide) (bg (i:=0) (op := "if") rfl (ifn (by decide) (bg (i:=0) (op := "if") rfl (ifn (by decide) (bg (i:=0) (op := "if") rfl (ifp rfl ?_)))))))))
  rw [di]
  refine aB (aO (ki ?_))
  rw [di]
  refine aj (aB (ci (aA (ag (aU (aA (ag (ao (v:=.lst (kids ++ [b])) rfl (av (gf (FX kl) (aR ?_)))))))))))
  rw [hdv]
  refine av (jS ?_)
  refine ⟨_,hit,pJ wb (Ci he) u _ (kids ++ [b]) (Fc kl) hS hn ia _ _ [] none [] [b] 0 (by simp) rfl (fun q hq=>hr q (List.mem_append_left _ hq)) hh List.nodup_nil fun E' hd1 J1 z1 n1 e1 h1 m1=>?_⟩
  refine aj (aB (aO (tl (wr rfl (ifp rfl (aA (ag (aU (ao (v:=.lst (kids ++ [b])) rfl (ba (aR (gm (a:=.int (-1)) rfl (nO (wr rfl ?_))))))))))))))
  refine wb _ _ _ ib (Ci he) u (fun q hq=>hr q (List.mem_append_right _ hq)) h1 hS hn fun S2 hd2 J2 n2 d2 e2 h2 m2=>?_
  refine aj (a8 (aA (wr rfl ?_)))
  refine fk (F8 he) n1 d2 fun X=>?_
  refine aX (aF ?_)
  rw [di]
  refine k _ _ _ (fun e0=>?_) (fo n1 d2) ?_ h2 fun q=>?_
  ·obtain ⟨a,S',rfl⟩:=List.exists_cons_of_ne_nil n2
   have : a ∈ fe E' (a :: S'):=jY.mpr (.inr List.mem_cons_self)
   rw [e0] at this; cases this
  ·rw [fm,e1,e2,gM]
   dsimp only
   rw [fY (Fs.map _) (F (br S)).1,fY]
   exact iF _ _ fun t=>by rw [cS,cS,cS,fV,Bool.true_and,Bool.and_comm]
  ·rw [m2 q,m1 q,List.mem_append,or_assoc]
 | @whl at_ kids Fs r g ia hl=>
  have wb:=wb0 g rfl
  rw [cW]
  refine bK (loc0:=[some (ndV "while" at_ .none kids .none),some (.lst (S.map stV)),some (.mref B.length),none,none,none,none,none]) (by simp) rfl ?_
  unfold cg ndV
  rw [cY hS]
  refine bg (i:=0) (op := "while") rfl (ifn (by decide) (bg (i:=0) (op := "while") rfl (ifn (by decide) (bg (i:=0) (op := "while") rfl (ifn (by decide) (bg (i:=0) (op := "while") rfl (ifn (by decide) (bg (i:=0) (op := "while") rfl (ifn (by decide) (bg (i:=0) (op := "while") rfl (ifn (by decide) ?_)))))))))))
  rw [di]
  refine a8 (aA (wr rfl ?_))
  obtain ⟨d,rfl⟩ : ∃ d',d = d' + 1:=⟨d - 1,(DT he)⟩
  rw [iI]
  refine bK (loc0:=[some (.inst 32 (ndF "while" (.int at_) .none (.lst kids) .none)),some (.lst (S.map stV)),some (.mref B.length),none,none,none,none]) (by simp) rfl ?_
  unfold dO
  refine zV rfl (bg (i:=0) (op := "while") rfl (ifn (by decide) (bg (i:=0) (op := "while") rfl (ifn (by decide) (zV rfl ?_)))))
  refine nP wb (A1 he) u _ _ hl ia hr (br S) 1000 _ _ S none none (IL ls) hS hn rfl hh fun T' hd' J' loc t' n' e' h' m'=>?_
  refine aF (aF ?_)
  exact k _ _ _ t' n' e' h' m'
 | @rep at_ b t F rb rt g ib iv=>
  have wb:=wb0 g rfl
  have G:=wj g _ _ _ ib
  rw [cW]
  refine bK (loc0:=[some (ndV "repeat" at_ .none [b,t] .none),some (.lst (S.map stV)),some (.mref B.length),none,none,none,none,none]) (by simp) rfl ?_
  unfold cg ndV
  rw [cY hS]
  refine bg (i:=0) (op := "repeat") rfl (ifn (by decide) (bg (i:=0) (op := "repeat") rfl (ifn (by decide) (bg (i:=0) (op := "repeat") rfl (ifn (by decide) (bg (i:=0) (op := "repeat") rfl (ifn (by decide) (bg (i:=0) (op := "repeat") rfl (ifn (by decide) (bg (i:=0) (op := "repeat") rfl (ifn (by decide) ?_)))))))))))
  rw [di]
  refine a8 (aA (wr rfl ?_))
  obtain ⟨d,rfl⟩ : ∃ d',d = d' + 1:=⟨d - 1,(DT he)⟩
  rw [iI]
  refine bK (loc0:=[some (.inst 32 (ndF "repeat" (.int at_) .none (.lst [b,t]) .none)),some (.lst (S.map stV)),some (.mref B.length),none,none,none,none]) (by simp) rfl ?_
  unfold dO
  refine zV rfl (bg (i:=0) (op := "repeat") rfl (ifp rfl (aB (aO (aA (wr rfl ?_))))))
  refine wb _ _ _ ib (A1 he) u (fun q hq=>hr q (List.mem_append_left _ hq)) hh hS hn fun S2 hd2 J2 n2 d2 e2 h2 m2=>?_
  refine aj ?_
  refine kR wb (A1 he) u _ _ (iu:=1) (ib:=0) iv ib rfl rfl (by decide) (by decide) (fun q hq=>hr q (by rw [List.mem_append] at *; exact hq.symm)) (F (br S)).1 1000 _ _ S2 none (Fz) n2 d2 e2 h2 fun T' hd' J' loc t' n' e' h' m'=>?_
  refine aX (aF (aF ?_))
  refine k _ _ _ t' n' e' h' fun q=>?_
  rw [m' q,m2 q,List.mem_append]
  constructor
  ·rintro ((a | a) | a | a)
   ·exact .inl a
   ·exact .inr (.inl a)
   ·exact .inr (.inr a)
   ·exact .inr (.inl (G.anti _ _ (G.ext _) _ a))
  ·rintro (a | a | a)
   ·exact .inl (.inl a)
   ·exact .inl (.inr a)
   ·exact .inr (.inl a)
 | @for_ at_ p s v1 v2 b r1 r2 rb F g i1 i2 ib=>
  have wb:=wb0 g rfl
  rw [cW]
  refine bK (loc0:=[some (ndV "for" at_ .none [vaV p s,v1,v2,b] (.int 1)),some (.lst (S.map stV)),some (.mref B.length),none,none,none,none,none]) (by simp) rfl ?_
  unfold cg ndV
  rw [cY hS]
  refine bg (i:=0) (op := "for") rfl (ifn (by decide) (bg (i:=0) (op := "for") rfl (ifn (by decide) (bg (i:=0) (op := "for") rfl (ifn (by decide) (bg (i:=0) (op := "for") rfl (ifn (by decide) (bg (i:=0) (op := "for") rfl (ifn (by decide) (bg (i:=0) (op := "for") rfl (ifn (by decide) ?_)))))))))))
  rw [di]
  refine a8 (aA (wr rfl ?_))
  obtain ⟨d,rfl⟩ : ∃ d',d = d' + 1:=⟨d - 1,(DT he)⟩
  rw [iI]
  refine bK (loc0:=[some (.inst 32 (ndF "for" (.int at_) .none (.lst [vaV p s,v1,v2,b]) (.int 1))),some (.lst (S.map stV)),some (.mref B.length),none,none,none,none]) (by simp) rfl ?_
  unfold dO
  refine zV rfl (bg (i:=0) (op := "for") rfl (ifn (by decide) (bg (i:=0) (op := "for") rfl (ifp rfl (aB (bu (aA (wr rfl ?_))))))))
  refine d4 i1 (IZ he) u (fun q hq=>hr q (List.mem_cons_of_mem _ (List.mem_append_left _ hq))) hh fun hd1 h1 m1=>?_
  refine aj (aB (aO (aA (ag (ao (v:=.lst (S.map stV)) rfl (ag (g7 (s:=s) (p:=p) (by rw [dL,bU (v:=.lst [vaV p s,v1,v2,b]) rfl,dv,kq (x:=0) 0 rfl rfl (by decide)]; exact ⟨rfl,rfl⟩) (av ?_))))))))
  refine ir (Hp he) hn fun X=>?_
  rw [di]
  refine aj ?_
  refine kR wb (A1 he) u _ _ (iu:=2) (ib:=3) i2 ib rfl rfl (by decide) (by decide) (fun q hq=>hr q (List.mem_cons_of_mem _ (List.mem_append_right _ hq))) (dI (br S) s) 1000 _ _ (eQ s [] S) none (Fz) (ja s hS) (fb s S [] List.nodup_nil) (fS s hS) h1 fun T' hd' J' loc t' n' e' h' m'=>?_
  refine aX (aF (aF ?_))
  refine k _ _ _ t' n' e' h' fun q=>?_
  rw [m' q,m1 q,List.mem_append,List.mem_append,or_assoc]
 | @cas at_ v val bs rv r Fs g iv ib hl hne=>
  have wb:=wb0 g rfl
  rw [cW]
  refine bK (loc0:=[some (ndV "case" at_ .none (v :: bs) val),some (.lst (S.map stV)),some (.mref B.length),none,none,none,none,none]) (by simp) rfl ?_
  unfold cg ndV
  rw [cY hS]
  refine bg (i:=0) (op := "case") rfl (ifn (by decide) (bg (i:=0) (op := "case") rfl (ifn (by decide) (bg (i:=0) (op := "case") rfl (ifn (by decide) (bg (i:=0) (op := "case") rfl (ifn (by decide) (bg (i:=0) (op := "case") rfl (ifn (by decide) (bg (i:=0) (op := "case") rfl (ifp rfl ?_)))))))))))
  rw [di]
  refine aB (bu (aA (wr rfl ?_)))
  refine d4 iv (Iq he) u (fun q hq=>hr q (List.mem_append_left _ hq)) hh fun hd1 h1 m1=>?_
  refine aj (aB (aO (ki ?_)))
  rw [di]
  refine aj (aB (ci (B6 (i:=3) rfl (Gc hl) ?_)))
  rw [di]
  refine ⟨_,rfl,xt wb (Ci he) u _ _ hS hn ib _ _ [] none (fun q hq=>hr q (List.mem_append_right _ hq)) h1 List.nodup_nil fun E' hd2 J2 z2 t2 n2 e2 h2 m2=>?_⟩
  refine aj (a8 (ao (v:=.lst (E'.map stV)) rfl (aX (aF ?_))))
  refine k _ _ _ (t2 (.inr hne)) n2 e2 h2 fun q=>?_
  rw [m2 q,m1 q,List.mem_append,or_assoc]
theorem CG : ∀ h : Nat,lK h
 | 0=>rp (tN fun g e=>nomatch e)
 | h + 1=>rp (tN fun g e=>by obtain rfl : g = h:=BA e; exact CG g)
end
end Mine
end
section
open PySem PySem.W PySem.Spec PySem.Calls PySem.SeqAt PyProof.Rows
namespace Mine
noncomputable def gD (hd : Rd) : List (Int × ae):=hd.map fun q=>(q.1,.int (q.2.val : Int))
noncomputable def E (B : List ah) (hd : Rd) (J : List ah) : List ah:=B ++ .idict (gD hd) :: J
noncomputable def Ak (st sl n : Nat) : ah:=.inst 116 [("level",.int 1),("slots",.mref sl),("found",.mref n)]
structure FB (B : List ah) (st sl : Nat) (T : Fin 16) : Prop where
 st : B[st]? = some (Ak st sl B.length)
 sl : ∃ kvs,B[sl]? = some (.idict kvs) ∧ ∀ s : Fin 4,(kvs.lookup (s.val : Int)).isSome = bW T s
theorem xU {R hd : Rd} (u : Uni R) (h : Hd R hd) {q : Int × Fin 4} (hq : q ∈ R) : jE (gD hd) q.1 (.int (q.2.val : Int)) = gD (ln hd q):=by
 unfold jE ln
 by_cases hm : q ∈ hd
 ·rw [if_pos hm,if_pos]
  ·unfold gD
   rw [List.map_map]
   refine List.map_congr_left fun x hx=>?_
   show (if x.1 = q.1 then (x.1,ae.int (q.2.val : Int)) else (x.1,ae.int (x.2.val : Int))) = _
   split
   ·rename_i e
    rw [u.inj (h.1 x hx) hq e]
   ·rfl
  ·rw [List.any_eq_true]
   exact ⟨(q.1,.int (q.2.val : Int)),List.mem_map.mpr ⟨q,hm,rfl⟩,by simp⟩
 ·rw [if_neg hm,if_neg]
  ·unfold gD; rw [List.map_append]; rfl
  ·rw [List.any_eq_true]
   rintro ⟨kv,hk,e⟩
   obtain ⟨x,hx,rfl⟩:=List.mem_map.mp hk
   have e' : x.1 = q.1:=of_decide_eq_true e
   exact hm (u.inj (h.1 x hx) hq e' ▸ hx)
noncomputable def mV (X T : Fin 16) : ae:=.int ((ed X T).val : Int)
theorem eg {B X : List ah} {i : Nat} {o : ah} (h : B[i]? = some o) : (B ++ X)[i]? = some o:=by
 rw [List.getElem?_append_left (List.getElem?_eq_some_iff.mp h).1]; exact h
section
variable {B : List ah} {hd R : Rd} {J M X : List ah} {d st sl : Nat} {T : Fin 16}
theorem ko : E B hd J ++ X = E B hd (J ++ X):=by unfold E; rw [List.append_assoc,List.cons_append]
theorem yU : (E B hd J)[B.length]? = some (.idict (gD hd)):=by unfold E; simp
theorem E0 (hd' : Rd) : (E B hd J).set B.length (.idict (gD hd')) = E B hd' J:=by unfold E; simp
theorem rZ : (E B hd J).length = B.length + 1 + J.length:=by unfold E; simp; exact Iy
theorem ou {x : ah} : (E B hd (J ++ x :: X))[B.length + 1 + J.length]? = some x:=by
 have : E B hd (J ++ x :: X) = E B hd J ++ x :: X:=by rw [ko]
 rw [this,← rZ (hd:=hd),eD]
theorem ua {x y : ah} : (E B hd (J ++ x :: X)).set (B.length + 1 + J.length) y = E B hd (J ++ y :: X):=by
 have h1 : E B hd (J ++ x :: X) = E B hd J ++ x :: X:=by rw [ko]
 have h2 : E B hd (J ++ y :: X) = E B hd J ++ y :: X:=by rw [ko]
 rw [h1,h2,← rZ (hd:=hd),jm]
theorem xr {vs : List ae} {v : ae} {Q : ae → List ah → Prop} (hs : bV vs.length = true) : W (be [.mref (B.length + 1 + J.length),v]) (E B hd (J ++ .lst vs :: X)) Q ↔ Q .none (E B hd (J ++ .lst (vs ++ [v]) :: X)):=by
 refine bJ ?_
 unfold be
 dsimp only
 rw [ou]
 dsimp only
 rw [hs,if_pos rfl,ua]
theorem pj {vs : List ae} {v : ae} {Q : ae → List ah → Prop} (hs : bV vs.length = true) (xx : Q .none (E B hd (J ++ .lst (vs ++ [v]) :: X))) : W (be [.mref (B.length + 1 + J.length),v]) (E B hd (J ++ .lst vs :: X)) Q:=(xr (vs:=vs) (v:=v) (Q:=Q) (hs:=hs)).mpr xx
theorem Dv {i : Nat} {loc : Loc} {vs : List ae} {Q : ae → List ah → Prop} (h : loc[i]? = some (some (.mref (B.length + 1 + J.length)))) : W (aD (af i) loc) (E B hd (J ++ .lst vs :: X)) Q ↔ Q (.lst vs) (E B hd (J ++ .gone :: X)):=by
 rw [kA,bU h]
 constructor
 ·rintro ⟨j,mo,v,e1,e2,e3,q⟩
  cases e1
  rw [ou] at e2; cases e2; cases e3
  rw [ua] at q; exact q
 ·intro q
  refine ⟨_,_,_,rfl,ou,rfl,?_⟩
  rw [ua]; exact q
theorem uO {i : Nat} {loc : Loc} {vs : List ae} {Q : ae → List ah → Prop} (h : loc[i]? = some (some (.mref (B.length + 1 + J.length)))) (xx : Q (.lst vs) (E B hd (J ++ .gone :: X))) : W (aD (af i) loc) (E B hd (J ++ .lst vs :: X)) Q:=(Dv (i:=i) (loc:=loc) (vs:=vs) (Q:=Q) (h:=h)).mpr xx
theorem FB.getSt (f : FB B st sl T) : (E B hd J)[st]? = some (Ak st sl B.length):=eg f.st
theorem jx {i : Nat} {C : Addr} {fs : List (Str × ae)} {x : Str} {v : ae} {Q : ae → List ah → Prop} (h : M[i]? = some (.inst C fs)) (hC : cM.contains C = true) (hx : mz x fs = some v) : W (aK x (.mref i)) M Q ↔ Q v M:=by
 refine bJ ?_
 unfold aK nB
 dsimp only
 rw [h]
 dsimp only
 rw [hC,if_pos rfl,hx]
theorem iC {i : Nat} {C : Addr} {fs : List (Str × ae)} {x : Str} {v : ae} {Q : ae → List ah → Prop} (h : M[i]? = some (.inst C fs)) (hC : cM.contains C = true) (hx : mz x fs = some v) (xx : Q v M) : W (aK x (.mref i)) M Q:=(jx (i:=i) (C:=C) (fs:=fs) (x:=x) (v:=v) (Q:=Q) (h:=h) (hC:=hC) (hx:=hx)).mpr xx
theorem DE {Q : Unit → List ah → Prop} (u : Uni R) (h : Hd R hd) {p : Int} {s : Fin 4} (hq : (p,s) ∈ R) : W (fK (.mref B.length) (.int p) (.int (s.val : Int))) (E B hd J) Q ↔ Q () (E B (ln hd (p,s)) J):=by
 refine bJ ?_
 unfold fK
 dsimp only
 rw [yU]
 dsimp only
 rw [bi (by unfold gD; rw [List.length_map]; exact h.len u),if_pos rfl,xU (q:=(p,s)) u h hq,E0]
theorem DK {Q : Unit → List ah → Prop} (u : Uni R) (h : Hd R hd) {p : Int} {s : Fin 4} (hq : (p,s) ∈ R) (xx : Q () (E B (ln hd (p,s)) J)) : W (fK (.mref B.length) (.int p) (.int (s.val : Int))) (E B hd J) Q:=(DE (Q:=Q) (u:=u) (h:=h) (p:=p) (s:=s) (hq:=hq)).mpr xx
theorem qw {C : Addr} {x : Str} {F : List ae → Mo ae} {o : Loc → Mo ae} {ms : Loc → Mo (List ae)} {loc : Loc} {Q : ae → List ah → Prop} {a : ae} (h1 : o loc M = some (a,M)) (h2 : pz C x a M = some ((),M)) : W (eB C x F o ms loc) M Q ↔ W (ms loc) M fun as M1=>W (F (a :: as)) M1 Q:=by
 unfold eB
 rw [ca,bJ h1,ca,bJ h2,ca]
theorem Bm {C : Addr} {x : Str} {F : List ae → Mo ae} {o : Loc → Mo ae} {ms : Loc → Mo (List ae)} {loc : Loc} {Q : ae → List ah → Prop} {a : ae} (h1 : o loc M = some (a,M)) (h2 : pz C x a M = some ((),M)) (xx : W (ms loc) M fun as M1=>W (F (a :: as)) M1 Q) : W (eB C x F o ms loc) M Q:=(qw (C:=C) (x:=x) (F:=F) (o:=o) (ms:=ms) (loc:=loc) (Q:=Q) (a:=a) (h1:=h1) (h2:=h2)).mpr xx
noncomputable def slI (T : Fin 16) (s : Fin 4) : Int:=if bW T s then (s.val : Int) else -1
theorem n7 {e : Nat} (he : 1 ≤ e) (f : FB B st sl T) {p : Int} {s : Fin 4} {Q : ae → List ah → Prop} : W (sem e .slot_of [.mref st,vaV p s]) (E B hd J) Q ↔ Q (.int (slI T s)) (E B hd J):=by
 obtain ⟨d,rfl⟩ : ∃ d,e = d + 1:=⟨e - 1,(oJ he)⟩
 obtain ⟨kvs,hk,hm⟩:=f.sl
 have e1 : oIn (.int (s.val : Int)) (.mref sl) (E B hd J) = some (.bool (bW T s),E B hd J):=by
  unfold oIn iS
  dsimp only
  rw [show (E B hd J)[sl]? = some (.idict kvs) from eg hk]
  dsimp only
  rw [hm s]; rfl
 rw [xw,tt (loc0:=[some (.mref st),some (vaV p s)]) (by simp) rfl]
 unfold cO
 rw [eP,kc,vP,dP,dL,dN,bU (v:=vaV p s) rfl]
 unfold vaV ndV
 rw [gO,dv,g8,gn,if_pos (by decide),vP,dP,dL,dN,dN,bU (v:=vaV p s) rfl]
 unfold vaV ndV
 rw [eT,oq,dN,bU (v:=.mref st) rfl,jx (f.getSt) rfl (v:=.int 1) rfl,qp,gn,if_pos (by decide),dP,dL,dN,dN,bU (v:=vaV p s) rfl]
 unfold vaV ndV
 rw [eT,jX,dN,bU (v:=.mref st) rfl,jx (f.getSt) rfl (v:=.mref sl) rfl,bJ e1,gn]
 unfold slI
 cases hT : bW T s with
 | true=>
  rw [if_pos rfl,if_pos rfl,f5,dN,dN,bU (v:=vaV p s) rfl]
  unfold vaV ndV
  rw [eT,jX,iY,fJ]
 | false=>
  rw [if_neg (by decide),if_neg (by decide),hJ,dR,f5,dN,dv,bJ (a:=.int (-1)) rfl,fJ]
theorem At {e : Nat} (he : 1 ≤ e) (f : FB B st sl T) {p : Int} {s : Fin 4} {Q : ae → List ah → Prop} (xx : Q (.int (slI T s)) (E B hd J)) : W (sem e .slot_of [.mref st,vaV p s]) (E B hd J) Q:=(n7 (e:=e) (he:=he) (f:=f) (p:=p) (s:=s) (Q:=Q)).mpr xx
theorem isF (f : FB B st sl T) : pz 116 "slot_of" (.mref st) (E B hd J) = some ((),E B hd J):=by
 unfold pz nB
 dsimp only
 rw [f.getSt]
 rfl
theorem yV : ∀ (Y : Fin 16) (s : Fin 4),Builtin.bitAnd ((Y.val : Int).fdiv (2 ^ (s.val : Int).toNat)) 1 = if bW Y s then 1 else 0:=by decide
theorem zG : ∀ (X T : Fin 16) (s : Fin 4),Builtin.bitOr ((ed X T).val : Int) (1 * 2 ^ (s.val : Int).toNat) = if bW T s then ((ed (dI X s) T).val : Int) else Builtin.bitOr ((ed X T).val : Int) (1 * 2 ^ (s.val : Int).toNat):=by decide
theorem AF : ∀ (X T : Fin 16) (s : Fin 4),bW T s = false → ed (dI X s) T = ed X T:=by decide
theorem sQ : ∀ (X Y T : Fin 16),Builtin.bitAnd ((ed X T).val : Int) ((ed Y T).val : Int) = ((ed (ed X Y) T).val : Int):=by decide
theorem Av : ∀ (Y T : Fin 16),Builtin.bitAnd (-1) ((ed Y T).val : Int) = ((ed (ed 15 Y) T).val : Int):=by decide
theorem Ab {e : Nat} (he : 2 ≤ e) (f : FB B st sl T) {p : Int} {s : Fin 4} {X : Fin 16} (u : Uni R) (h : Hd R hd) (hq : (p,s) ∈ R) {Q : ae → List ah → Prop}
  (k : ∀ v hd',Hd R hd' → (∀ q,q ∈ hd' ↔ q ∈ hd ∨ q ∈ dW X [(p,s)] ∧ bW T q.2 = true) → Q v (E B hd' J)) : W (sem e .f_used [.mref st,vaV p s,mV X T]) (E B hd J) Q:=by
 obtain ⟨d,rfl⟩ : ∃ d,e = d + 1:=⟨e - 1,(BU he)⟩
 rw [Eg]
 refine bK (loc0:=[some (.mref st),some (vaV p s),some (mV X T),none]) (by simp) rfl ?_
 unfold nY
 refine aB (aO (Bm (a:=.mref st) rfl (isF f) (wr rfl (At (zT he) f (aj (cG (h8 (wr rfl ?_))))))))
 unfold slI
 cases hT : bW T s with
 | false=>
  simp only [Bool.false_eq_true,if_false]
  refine ifn (by decide) (cB (eE ?_))
  refine k _ _ h fun q=>⟨.inl,fun a=>a.elim id fun a=>?_⟩
  rw [List.mem_singleton.mp (fu a.1),hT] at a
  cases a.2
 | true=>
  simp only [if_true]
  have bit : ∀ (M : List ah) (Q : ae → List ah → Prop),W (Bp (mV X T) (.int (s.val : Int))) M (fun a M2=>W (mB a (.int 1)) M2 Q) ↔ Q (.int (if bW (ed X T) s then 1 else 0)) M:=fun M Q=>by
   unfold Bp mB i2i mV
   dsimp only
   rw [if_pos (by rw [decide_eq_true_eq]; exact HI),cb]
   dsimp only
   rw [if_pos (show rj _ _ = true from rfl),cb,yV]
  refine ifp (by rw [decide_eq_true_eq]; exact EZ) (bM (aU (aU (aU (ao (v:=mV X T) rfl (ao (v:=.int (s.val : Int)) rfl ?_))))))
  simp only [dv]
  rw [bit]
  refine eW (b9 ?_)
  rw [cS,hT,Bool.and_true]
  cases hX : bW X s with
  | true=>
   simp only [if_true]
   refine ifn (by decide) (cB (eE ?_))
   refine k _ _ h fun q=>⟨.inl,fun a=>a.elim id fun a=>?_⟩
   have a1:=j8.mp a.1
   rw [List.mem_singleton.mp a1.1,hX] at a1
   cases a1.2
  | false=>
   simp only [Bool.false_eq_true,if_false]
   refine ifp (by decide) (mX (ao (v:=.int (s.val : Int)) rfl (ba (ao (v:=.mref st) rfl (iC f.getSt rfl (v:=.mref B.length) rfl (ba (ao (v:=vaV p s) rfl ?_)))))))
   unfold vaV ndV
   refine sh (DK u h hq (eE ?_))
   refine k _ _ (h.ins hq) fun q=>?_
   rw [qR,j8,List.mem_singleton]
   constructor
   ·rintro (a | a)
    ·exact .inl a
    ·subst a; exact .inr ⟨⟨rfl,hX⟩,hT⟩
   ·rintro (a | a)
    ·exact .inl a
    ·exact .inr a.1.1
theorem Ck {e : Nat} (he : 2 ≤ e) (f : FB B st sl T) {p : Int} {s : Fin 4} {X : Fin 16} {Q : ae → List ah → Prop} : W (sem e .f_with_store [.mref st,vaV p s,mV X T]) (E B hd J) Q ↔ Q (mV (dI X s) T) (E B hd J):=by
 obtain ⟨d,rfl⟩ : ∃ d,e = d + 1:=⟨e - 1,(BU he)⟩
 rw [pM,tt (loc0:=[some (.mref st),some (vaV p s),some (mV X T),none]) (by simp) rfl]
 unfold e7
 rw [eP,wy,dP,dL,dN,bU (v:=vaV p s) rfl]
 unfold vaV ndV
 rw [gO,dv,g8,gn,if_neg (by decide),dR,eP,uP,qw (a:=.mref st) rfl (isF f),fI,bU (v:=vaV p s) rfl,fR,n7 (zT he) f,dR,eP,kc,dP,dL,bU (v:=.int (slI T s)) rfl,dv,FT,gn]
 unfold slI
 cases hT : bW T s with
 | false=>
  simp only [Bool.false_eq_true,if_false]
  rw [if_pos (by decide),f5,bU (v:=mV X T) rfl,iY,fJ]
  unfold mV
  rw [AF X T s hT]
 | true=>
  simp only [if_true]
  have bit : ∀ (M : List ah) (Q : ae → List ah → Prop),W (Cu (.int 1) (.int (s.val : Int))) M (fun a M2=>W (oOr (mV X T) a) M2 Q) ↔ Q (mV (dI X s) T) M:=fun M Q=>by
   have hs:=s.isLt
   unfold Cu oOr i2i mV
   dsimp only
   rw [if_pos (by rw [Bool.and_eq_true,Bool.and_eq_true,decide_eq_true_eq,decide_eq_true_eq]; exact ⟨⟨(HU hs),(JQ hs)⟩,rfl⟩),cb]
   dsimp only
   rw [if_pos (show rj _ _ = true from rfl),cb,zG,hT,if_pos rfl]
  rw [if_neg (by rw [decide_eq_true_eq]; exact fun a=>GQ a),hJ,dR,f5,dL,bU (v:=mV X T) rfl,dL,dv,bU (v:=.int (s.val : Int)) rfl,bit,fJ]
theorem mP {e : Nat} (he : 2 ≤ e) (f : FB B st sl T) {p : Int} {s : Fin 4} {X : Fin 16} {Q : ae → List ah → Prop} (xx : Q (mV (dI X s) T) (E B hd J)) : W (sem e .f_with_store [.mref st,vaV p s,mV X T]) (E B hd J) Q:=(Ck (e:=e) (he:=he) (f:=f) (p:=p) (s:=s) (X:=X) (Q:=Q)).mpr xx
theorem tT {e : Nat} (he : 2 ≤ e) (f : FB B st sl T) {p : Int} {s : Fin 4} {x : ae} {Q : ae → List ah → Prop} : W (sem e .f_place_uses [.mref st,vaV p s,x]) (E B hd J) Q ↔ Q x (E B hd J):=by
 obtain ⟨d,rfl⟩ : ∃ d,e = d + 1:=⟨e - 1,(BU he)⟩
 rw [pP,tt (loc0:=[some (.mref st),some (vaV p s),some x,none]) (by simp) rfl]
 unfold e8
 rw [eP,kc,dP,dL,qw (a:=.mref st) rfl (isF f),fI,bU (v:=vaV p s) rfl,fR,n7 (zT he) f,dv,FM,gn]
 unfold slI
 cases hT : bW T s with
 | false=>
  simp only [Bool.false_eq_true,if_false]
  rw [if_neg (by decide),hJ,dR,qP (i:=1) (op := "var") rfl,if_pos rfl,f5,bU (v:=x) rfl,iY,fJ]
 | true=>
  simp only [if_true]
  rw [if_pos (by rw [decide_eq_true_eq]; exact EZ),f5,bU (v:=x) rfl,iY,fJ]
theorem gt {e : Nat} (he : 2 ≤ e) (f : FB B st sl T) {p : Int} {s : Fin 4} {x : ae} {Q : ae → List ah → Prop} (xx : Q x (E B hd J)) : W (sem e .f_place_uses [.mref st,vaV p s,x]) (E B hd J) Q:=(tT (e:=e) (he:=he) (f:=f) (p:=p) (s:=s) (x:=x) (Q:=Q)).mpr xx
end
end Mine
end
section
open PySem PySem.W PySem.Spec PySem.Calls PySem.SeqAt PyProof.Rows
namespace Mine
section
variable {B : List ah} {hd R : Rd} {J M : List ah} {d st sl : Nat} {T : Fin 16}
theorem wD {i : Nat} {x y op : Str} {p ty ks v : ae} {body rest : Loc → Mo (Fl × Loc)} {loc : Loc} {Q : Fl × Loc → List ah → Prop} (h : loc[i]? = some (some (.inst 32 (ndF op p ty ks v)))) :
  W (au (sIf (tOr (a6 (aE oEq (aS (aK "op") (af i)) (ar (.str x)))) (a6 (aE oEq (aS (aK "op") (af i)) (ar (.str y))))) body bE) rest loc) M Q ↔ if op = x ∨ op = y then W (body loc) M (jh rest Q) else W (rest loc) M Q:=by
 rw [eP,kc,Cx,dP,dL,dN,bU h,gO,dv,g8,gn]
 by_cases hx : op = x
 ·simp only [hx,decide_true,if_true,true_or]
 ·simp only [hx,decide_false,Bool.false_eq_true,if_false,false_or]
  rw [dP,dL,dN,bU h,gO,dv,g8,gn]
  by_cases hy : op = y
  ·simp only [hy,decide_true,if_true]
  ·simp only [hy,decide_false,Bool.false_eq_true,if_false]
   rw [hJ]; rfl
theorem wd {i : Nat} {x y op : Str} {p ty ks v : ae} {body rest : Loc → Mo (Fl × Loc)} {loc : Loc} {Q : Fl × Loc → List ah → Prop} (h : loc[i]? = some (some (.inst 32 (ndF op p ty ks v)))) (xx : if op = x ∨ op = y then W (body loc) M (jh rest Q) else W (rest loc) M Q) : W (au (sIf (tOr (a6 (aE oEq (aS (aK "op") (af i)) (ar (.str x)))) (a6 (aE oEq (aS (aK "op") (af i)) (ar (.str y))))) body bE) rest loc) M Q:=(wD (i:=i) (x:=x) (y:=y) (op:=op) (p:=p) (ty:=ty) (ks:=ks) (v:=v) (body:=body) (rest:=rest) (loc:=loc) (Q:=Q) (h:=h)).mpr xx
theorem A0 {i : Nat} {x v : Str} {body rest : Loc → Mo (Fl × Loc)} {loc : Loc} {Q : Fl × Loc → List ah → Prop} (h : loc[i]? = some (some (.str v))) :
  W (au (sIf (a6 (aE oEq (af i) (ar (.str x)))) body bE) rest loc) M Q ↔ if v = x then W (body loc) M (jh rest Q) else W (rest loc) M Q:=by
 rw [eP,kc,dP,dL,bU h,dv,g8,gn]
 by_cases hx : v = x
 ·simp only [hx,decide_true,if_true]
 ·simp only [hx,decide_false,Bool.false_eq_true,if_false]
  rw [hJ]; rfl
theorem a9 {i : Nat} {x v : Str} {body rest : Loc → Mo (Fl × Loc)} {loc : Loc} {Q : Fl × Loc → List ah → Prop} (h : loc[i]? = some (some (.str v))) (xx : if v = x then W (body loc) M (jh rest Q) else W (rest loc) M Q) : W (au (sIf (a6 (aE oEq (af i) (ar (.str x)))) body bE) rest loc) M Q:=(A0 (i:=i) (x:=x) (v:=v) (body:=body) (rest:=rest) (loc:=loc) (Q:=Q) (h:=h)).mpr xx
theorem BD : ∀ op ∈ hO,¬ op = "call" := by decide
theorem cI {v : ae} {r : Rd} {m : Nat} (i : IsV v r m) : ∀ {e : Nat} {hd : Rd} {X : Fin 16} {Q : ae → List ah → Prop},m + 3 ≤ e → FB B st sl T → Uni R → (∀ q ∈ r,q ∈ R) → Hd R hd →
  (∀ hd',Hd R hd' → (∀ q,q ∈ hd' ↔ q ∈ hd ∨ q ∈ dW X r ∧ bW T q.2 = true) → Q (mV X T) (E B hd' J)) → W (sem e .f_value_uses [.mref st,v,mV X T]) (E B hd J) Q:=by
 induction i with
 | var p s m=>
  intro e hd X Q he f u hr h k
  obtain ⟨d,rfl⟩ : ∃ d,e = d + 1:=⟨e - 1,(Gk he)⟩
  rw [fT]
  refine bK (loc0:=[some (.mref st),some (vaV p s),some (mV X T),none]) (by simp) rfl ?_
  unfold cT
  refine bg (i:=1) (op := "var") rfl (ifp rfl (aB (bu (aA (wr rfl ?_)))))
  refine Ab (JS he) f u h (hr _ List.mem_cons_self) fun v hd' h' mm=>?_
  refine aj (a8 (ao (v:=mV X T) rfl (aX (aF ?_))))
  exact k hd' h' mm
 | cst p m=>
  intro e hd X Q he f u hr h k
  obtain ⟨d,rfl⟩ : ∃ d,e = d + 1:=⟨e - 1,(Gk he)⟩
  rw [fT]
  refine bK (loc0:=[some (.mref st),some (ndV "const" p dJ [] (.int 1)),some (mV X T),none]) (by simp) rfl ?_
  unfold cT
  refine bg (i:=1) (op := "const") rfl (ifn (by decide) (wd (i:=1) (op := "const") rfl (ifn (by decide) (bg (i:=1) (op := "const") rfl (ifn (by decide) (aB (ci (ba (ao (v:=ndV "const" p dJ [] (.int 1)) rfl ?_)))))))))
  unfold ndV
  refine hU ?_
  refine ⟨_,rfl,?_⟩
  refine bN (aj (a8 (ao (v:=mV X T) rfl (aF ?_))))
  exact k hd h fun q=>⟨.inl,fun a=>a.elim id fun a=>by cases a.1⟩
 | @bin op p ty l r a b m ho h1 h2 i1 i2=>
  intro e hd X Q he f u hr h k
  obtain ⟨d,rfl⟩ : ∃ d,e = d + 1:=⟨e - 1,(KG he)⟩
  have fin : ∀ hd1 hd2 : Rd,(∀ q,q ∈ hd1 ↔ q ∈ hd ∨ q ∈ dW X a ∧ bW T q.2 = true) → (∀ q,q ∈ hd2 ↔ q ∈ hd1 ∨ q ∈ dW X b ∧ bW T q.2 = true) → ∀ q,q ∈ hd2 ↔ q ∈ hd ∨ q ∈ dW X (a ++ b) ∧ bW T q.2 = true:=fun hd1 hd2 m1 m2 q=>by
   rw [m2 q,m1 q,om,List.mem_append,or_and_right,or_assoc]
  rw [fT]
  refine bK (loc0:=[some (.mref st),some (ndV op p ty [l,r] .none),some (mV X T),none]) (by simp) rfl ?_
  unfold cT
  refine bg (i:=1) (op:=op) rfl (ifn (zu op ho) (wd (i:=1) (op:=op) rfl ?_))
  by_cases hc : op = "&" ∨ op = "OR"
  ·refine ifp hc (aB (aO (aA (ag (ao (v:=.mref st) rfl (ag (aU (ba (ao (v:=ndV op p ty [l,r] .none) rfl ?_)))))))))
   unfold ndV
   refine hU (aR (dE (x:=0) 0 rfl rfl (by decide) (wr rfl ?_)))
   refine i1 (Cc he) f u (fun q hq=>hr q (List.mem_append_left _ hq)) h fun hd1 k1 m1=>?_
   refine aj (aB (bu (aA (ag (ao (v:=.mref st) rfl (ag (aU (ba (ao (v:=ndV op p ty [l,r] .none) rfl ?_)))))))))
   unfold ndV
   refine hU (aR (dE (x:=1) 1 rfl rfl (by decide) (wr rfl ?_)))
   refine i2 (Cc he) f u (fun q hq=>hr q (List.mem_append_right _ hq)) k1 fun hd2 k2 m2=>?_
   refine aj (a8 (ao (v:=mV X T) rfl (aX (aF ?_))))
   exact k hd2 k2 (fin hd1 hd2 m1 m2)
  ·refine ifn hc (bg (i:=1) (op:=op) rfl (ifn (BD op ho) (aB (ci (ba (ao (v:=ndV op p ty [l,r] .none) rfl ?_))))))
   unfold ndV
   refine hU ?_
   refine ⟨_,rfl,?_⟩
   refine aY (aO (aA (wr rfl ?_)))
   refine i1 (Cc he) f u (fun q hq=>hr q (List.mem_append_left _ hq)) h fun hd1 k1 m1=>?_
   dsimp only
   refine aY (aO (aA (wr rfl ?_)))
   refine i2 (Cc he) f u (fun q hq=>hr q (List.mem_append_right _ hq)) k1 fun hd2 k2 m2=>?_
   dsimp only
   refine bN (aj (a8 (ao (v:=mV X T) rfl (aF ?_))))
   exact k hd2 k2 (fin hd1 hd2 m1 m2)
theorem Af {l : Loc → Mo ae} {loc : Loc} {a : ae} {vs : List ae} {Q : ae → List ah → Prop} (h : W (l loc) M fun x M1=>x = .lst (a :: vs) ∧ M1 = M) (hl : vs.length ≤ 1000) : W (aD (gT 1 l) loc) M Q ↔ Q (.lst vs) (M ++ [.gone]):=by
 obtain ⟨x,M1,h0,rfl,rfl⟩:=h
 have e : gT 1 l loc M1 = some (.mref M1.length,M1 ++ [.lst vs]):=by
  unfold gT
  rw [qf h0]
  unfold cA
  dsimp only
  rw [bi (by rw [List.length_cons]; exact DV hl),if_pos rfl]
  rfl
 rw [kA,bJ e]
 constructor
 ·rintro ⟨j,mo,v,e1,e2,e3,q⟩
  cases e1
  rw [bH] at e2; cases e2; cases e3
  rw [cC] at q; exact q
 ·intro q
  refine ⟨_,_,_,rfl,bH,rfl,?_⟩
  rw [cC]; exact q
theorem rC {l : Loc → Mo ae} {loc : Loc} {a : ae} {vs : List ae} {Q : ae → List ah → Prop} (h : W (l loc) M fun x M1=>x = .lst (a :: vs) ∧ M1 = M) (hl : vs.length ≤ 1000) (xx : Q (.lst vs) (M ++ [.gone])) : W (aD (gT 1 l) loc) M Q:=(Af (l:=l) (loc:=loc) (a:=a) (vs:=vs) (Q:=Q) (h:=h) (hl:=hl)).mpr xx
theorem B2 {n k m : Str} {ty v : ae} {l s : Int} {Q : ae → List ah → Prop} : W (aK "kind" (obV n k ty l m v s)) M Q ↔ Q (.str k) M:=bJ (by kernel_rfl)
theorem wf {n k m : Str} {ty v : ae} {l s : Int} {Q : ae → List ah → Prop} (xx : Q (.str k) M) : W (aK "kind" (obV n k ty l m v s)) M Q:=(B2 (n:=n) (k:=k) (m:=m) (ty:=ty) (v:=v) (l:=l) (s:=s) (Q:=Q)).mpr xx
theorem xB {Q : ae → List ah → Prop} : W (aK "params" dH) M Q ↔ Q (.lst [obV "x" "par" dJ 0 "" .none 0,obV "y" "var" dJ 0 "" .none 0]) M:=bJ (by kernel_rfl)
theorem xO {Q : ae → List ah → Prop} (xx : Q (.lst [obV "x" "par" dJ 0 "" .none 0,obV "y" "var" dJ 0 "" .none 0]) M) : W (aK "params" dH) M Q:=(xB (Q:=Q)).mpr xx
theorem tz {e : Nat} (he : 1 ≤ e) {pc : Int} {a x : ae} {Q : ae → List ah → Prop} : W (sem e .f_value_uses [a,ndV "proc" pc dH [] fg,x]) M Q ↔ Q x M:=by
 obtain ⟨d,rfl⟩ : ∃ d,e = d + 1:=⟨e - 1,(oJ he)⟩
 rw [fT,tt (loc0:=[some a,some (ndV "proc" pc dH [] fg),some x,none]) (by simp) rfl]
 unfold cT
 rw [qP (i:=1) (op := "proc") rfl,if_neg (by decide),wD (i:=1) (op := "proc") rfl,if_neg (by decide),qP (i:=1) (op := "proc") rfl,if_neg (by decide),eP,Ax,dN,bU (v:=ndV "proc" pc dH [] fg) rfl]
 rw [show ndV "proc" pc dH [] fg = .inst 32 (ndF "proc" (.int pc) dH (.lst []) fg) from rfl,ee]
 constructor
 ·rintro ⟨as,e,h⟩
  cases e
  rw [gc,dR,f5,bU (v:=x) rfl,fJ] at h
  exact h
 ·intro h
  refine ⟨_,rfl,?_⟩
  refine bN (aj (a8 (ao (v:=x) rfl (aF ?_))))
  exact h
theorem sv {e : Nat} (he : 1 ≤ e) {pc : Int} {a x : ae} {Q : ae → List ah → Prop} (xx : Q x M) : W (sem e .f_value_uses [a,ndV "proc" pc dH [] fg,x]) M Q:=(tz (e:=e) (he:=he) (pc:=pc) (a:=a) (x:=x) (Q:=Q)).mpr xx
theorem vb {e : Nat} {at_ pc p : Int} {s : Fin 4} {v : ae} {r : Rd} {X : Fin 16} {Q : ae → List ah → Prop} (iv : IsV v r 3) (he : 7 ≤ e) (f : FB B st sl T) (u : Uni R) (hr : ∀ q ∈ r,q ∈ R) (h : Hd R hd)
  (k : ∀ hd' J',Hd R hd' → (∀ q,q ∈ hd' ↔ q ∈ hd ∨ q ∈ dW X r ∧ bW T q.2 = true) → Q (mV (dI X s) T) (E B hd' (J ++ J'))) :
  W (sem e .f_call_uses [.mref st,ndV "call" at_ .none [ndV "proc" pc dH [] fg,vaV p s,v] .none,mV X T]) (E B hd J) Q:=by
 obtain ⟨d,rfl⟩ : ∃ d,e = d + 1:=⟨e - 1,(EA he)⟩
 generalize hnd : ndV "call" at_ .none [ndV "proc" pc dH [] fg,vaV p s,v] .none = nd
 have gk : ∀ (M : List ah) (Q : ae → List ah → Prop),W (aK "kids" nd) M Q ↔ Q (.lst [ndV "proc" pc dH [] fg,vaV p s,v]) M:=fun M Q=>by subst hnd; exact ee
 rw [tm]
 refine bK (loc0:=[some (.mref st),some nd,some (mV X T),none,none,none,none,none]) (by simp) rfl ?_
 unfold fF
 refine aB (aO (aU (ba (ao (v:=nd) rfl (ii (gk _ _) (aR (dE (x:=0) 0 rfl rfl (by decide) (aj (aB (aO (aA (wr rfl ?_))))))))))))
 refine sv (Kv he) (aj (aB (aO (ba (ba (ao (v:=ndV "proc" pc dH [] fg) rfl ?_))))))
 rw [show ndV "proc" pc dH [] fg = .inst 32 (ndF "proc" (.int pc) dH (.lst []) fg) from rfl]
 refine Cd (xO ?_)
 generalize hps : ([obV "x" "par" dJ 0 "" .none 0,obV "y" "var" dJ 0 "" .none 0] : List ae) = ps
 refine aj (aB (aO (cU (av ?_))))
 refine ⟨rfl,?_⟩
 rw [rZ,ko]
 refine aj (aB (ci (aA (ag (aU (aA (ag (ba (ao (v:=nd) rfl (ii (gk _ _) (av (gf (by simp) (aR (wN (av (jS ?_))))))))))))))))
 refine ⟨[.int 0,.int 1],by kernel_rfl,?_⟩
 refine aY (aB (aO (aU (ba (ao (v:=nd) rfl (ii (gk _ _) (aU (ao (v:=.int 0) rfl (aR (fL (dE (x:=0 + 1) 1 rfl rfl (by decide) (aj (cG (h8 (bM (aU (ba (aU (ao (v:=.lst ps) rfl (ao (v:=.int 0) rfl (dE (x:=0) 0 rfl (v:=obV "x" "par" dJ 0 "" .none 0) (by subst hps; rfl) (by decide) (wf (aR (ip (b9 (ifp (by decide) (bM (aU (ba (ao (v:=vaV p s) rfl ?_))))))))))))))))))))))))))))))
 rw [show vaV p s = .inst 32 (ndF "var" (.int p) dJ (.lst []) (c9 s)) from rfl]
 refine n6 (aR (wH (b9 (ifp (by decide) (aB (aO (aA (wr rfl ?_))))))))
 rw [show (.inst 32 (ndF "var" (.int p) dJ (.lst []) (c9 s)) : ae) = vaV p s from rfl]
 refine gt (AP he) f (aj (bu (cq (ao (v:=.mref (B.length + 1 + J.length)) rfl ?_))))
 refine ⟨_,_,rfl,ou,?_⟩
 refine wr rfl (pj (bi (by decide)) ?_)
 dsimp only
 refine aY (aB (aO (aU (ba (ao (v:=nd) rfl (ii (gk _ _) (aU (ao (v:=.int 1) rfl (aR (fL (dE (x:=1 + 1) 2 rfl rfl (by decide) (aj (cG (h8 (bM (aU (ba (aU (ao (v:=.lst ps) rfl (ao (v:=.int 1) rfl (dE (x:=1) 1 rfl (v:=obV "y" "var" dJ 0 "" .none 0) (by subst hps; rfl) (by decide) (wf (aR (ip (b9 (ifn (by decide) (ifn (by decide) (aO (aA (ag (ao (v:=.mref st) rfl (ag (ao (v:=v) rfl (ag (ao (v:=mV X T) rfl (av ?_))))))))))))))))))))))))))))))))))))
 refine cI iv (EM he) f u hr h fun hd1 h1 m1=>?_
 dsimp only
 refine bN (aj (aB (ci (uO rfl ?_))))
 refine ⟨_,rfl,?_⟩
 rw [List.nil_append]
 refine aY (aO (aA (wr rfl (mP (AP he) f ?_))))
 dsimp only
 refine bN (aj (a8 (ao (v:=mV (dI X s) T) rfl (aF ?_))))
 exact k hd1 _ h1 m1
theorem xm {e : Nat} {at_ p : Int} {s : Fin 4} {v : ae} {r : Rd} {X : Fin 16} {Q : ae → List ah → Prop} (iv : IsV v r 3) (he : 7 ≤ e) (f : FB B st sl T) (u : Uni R) (hr : ∀ q ∈ (p,s) :: r,q ∈ R) (h : Hd R hd)
  (k : ∀ hd' J',Hd R hd' → (∀ q,q ∈ hd' ↔ q ∈ hd ∨ q ∈ dW X r ++ dW X [(p,s)] ∧ bW T q.2 = true) → Q (mV (dI X s) T) (E B hd' (J ++ J'))) :
  W (sem e .f_std_uses [.mref st,ndV "std" at_ .none [vaV p s,v] (.str "INC"),mV X T]) (E B hd J) Q:=by
 obtain ⟨d,rfl⟩ : ∃ d,e = d + 1:=⟨e - 1,(EA he)⟩
 generalize hnd : ndV "std" at_ .none [vaV p s,v] (.str "INC") = nd
 have gk : ∀ (M : List ah) (Q : ae → List ah → Prop),W (aK "kids" nd) M Q ↔ Q (.lst [vaV p s,v]) M:=fun M Q=>by subst hnd; exact ee
 have gv : ∀ (M : List ah) (Q : ae → List ah → Prop),W (aK "value" nd) M Q ↔ Q (.str "INC") M:=fun M Q=>by subst hnd; exact eT
 rw [uV]
 refine bK (loc0:=[some (.mref st),some nd,some (mV X T),none,none]) (by simp) rfl ?_
 unfold gh
 refine aB (aO (aU (ba (ao (v:=nd) rfl (ii (gk _ _) (aR (dE (x:=0) 0 rfl rfl (by decide) (aj (aB (cG (bM (aU (ba (ao (v:=nd) rfl (ii (gv _ _) (aR (ip (b9 (ifn (by decide) (cB (aj (aB (aO (aA (wr rfl (gt (AP he) f (aj (aB (ci (rC (a:=vaV p s) (vs:=[v]) (by rw [dN,bU (v:=nd) rfl,gk]; exact ⟨rfl,rfl⟩) (by simp) ?_))))))))))))))))))))))))))))))
 refine ⟨_,rfl,?_⟩
 rw [ko]
 refine aY (aO (aA (wr rfl ?_)))
 refine cI iv (EM he) f u (fun q hq=>hr q (List.mem_cons_of_mem _ hq)) h fun hd1 h1 m1=>?_
 dsimp only
 refine bN (aj (aB (cG (bM (aU (ba (ao (v:=nd) rfl (ii (gv _ _) (aR (wH (b9 (ifp (by decide) (bu (aA (wr rfl ?_)))))))))))))))
 refine Ab (AP he) f u h1 (hr _ List.mem_cons_self) fun _ hd2 h2 m2=>?_
 refine aj (a8 (aA (wr rfl (mP (AP he) f (aF ?_)))))
 exact k hd2 _ h2 fun q=>by rw [m2 q,m1 q,List.mem_append,or_and_right,or_assoc]
end
end Mine
end
section
open PySem PySem.W PySem.Spec PySem.Calls PySem.SeqAt PyProof.Rows
namespace Mine
noncomputable def FS (n : Nat) (v : ae) (F : Den) (r : Rd) : Prop:=∀ {e : Nat} {R : Rd} {B : List ah} {st sl : Nat} {T : Fin 16} {hd : Rd} {J : List ah} {X : Fin 16} {Q : ae → List ah → Prop},n ≤ e → FB B st sl T → Uni R → (∀ q ∈ r,q ∈ R) → Hd R hd →
 (∀ hd' J',Hd R hd' → (∀ q,q ∈ hd' ↔ q ∈ hd ∨ q ∈ (F X).2 ∧ bW T q.2 = true) → Q (mV (F X).1 T) (E B hd' (J ++ J'))) → W (sem e .f_statement_uses [.mref st,v,mV X T]) (E B hd J) Q
noncomputable def y0 (h : Nat) : Prop:=∀ v F r,IsS v F r h → FS (3 * h + 10) v F r
noncomputable def xC (h : Nat) : Prop:=∀ v F r,IsB v F r h → FS (3 * h + 11) v F r
section
variable {B : List ah} {hd R : Rd} {J M : List ah} {d st sl : Nat} {T : Fin 16}
theorem Cf {h : Nat} (ws : y0 h) (he : 3 * h + 10 ≤ d) (f : FB B st sl T) (u : Uni R) (x y : ae) {Q : Fl × Loc → List ah → Prop} : ∀ {as : List ae} {F : Den} {r : Rd},IsL as F r h → ∀ (hd : Rd) (J : List ah) (X : Fin 16) (z : Option ae),(∀ q ∈ r,q ∈ R) → Hd R hd →
  (∀ hd' J' z,Hd R hd' → (∀ q,q ∈ hd' ↔ q ∈ hd ∨ q ∈ (F X).2 ∧ bW T q.2 = true) → Q (.next,[some (.mref st),some x,some (mV (F X).1 T),some y,z]) (E B hd' (J ++ J'))) →
  W (dY 4 (a7 2 (aq (sem d .f_statement_uses) (ab (af 0) (ab (af 4) (ab (af 2) am))))) as [some (.mref st),some x,some (mV X T),some y,z]) (E B hd J) Q:=by
 intro as0 F0 r0 i0
 refine IsL.ind ?_ ?_ i0
 ·intro hd J X z hr hh k
  refine bN ?_
  have:=k hd [] z hh fun q=>⟨.inl,fun a=>a.elim id fun a=>by cases a.1⟩
  rw [List.append_nil] at this
  exact this
 ·intro a _ _ _ _ _ i j ih hd J X z hr hh k
  refine aY (aO (aA (wr rfl ?_)))
  refine ws _ _ _ i he f u (fun q hq=>hr q (List.mem_append_left _ hq)) hh fun hd1 J1 h1 m1=>?_
  refine ih hd1 _ _ (some a) (fun q hq=>hr q (List.mem_append_right _ hq)) h1 fun hd2 J2 z2 h2 m2=>?_
  rw [List.append_assoc]
  refine k hd2 (J1 ++ J2) z2 h2 fun q=>?_
  rw [m2 q,m1 q]
  unfold xS
  dsimp only
  rw [List.mem_append,or_and_right,or_assoc]
theorem wp {h : Nat} (ws : y0 h) : xC h:=by
 intro v F r i
 intro e R B st sl T hd J X Q he f u hr hh k
 cases i with
 | @mk p kids _ _ _ i=>
  obtain ⟨d,rfl⟩ : ∃ d,e = d + 1:=⟨e - 1,(JR he)⟩
  rw [bQ]
  refine bK (loc0:=[some (.mref st),some (ndV "block" p .none kids .none),some (mV X T),none,none]) (by simp) rfl ?_
  unfold bj ndV
  refine zV rfl (a9 (i:=3) (v := "block") rfl (ifp rfl (aB (ci (wr rfl ?_)))))
  refine ⟨_,rfl,Cf ws (GK he) f u _ _ i _ _ X none hr hh fun hd' J' z h' m'=>?_⟩
  refine aj (a8 (ao (v:=mV (F X).1 T) rfl (aX (aF ?_))))
  exact k hd' J' h' m'
theorem we {h : Nat} (wb : xC h) (he : 3 * h + 11 ≤ d) (f : FB B st sl T) (u : Uni R) (nd : ae) (kids : List ae) (hk : kids.length ≤ 10) (gk : ∀ (M : List ah) (Q : ae → List ah → Prop),W (aK "kids" nd) M Q ↔ Q (.lst kids) M) (J : List ah) (X : Fin 16) {Q : Fl × Loc → List ah → Prop} : ∀ {as : List ae} {Fs : List (Rd × Den)} {r : Rd},cD as Fs r h → ∀ (hd : Rd) (es : List ae) (J2 : List ah) (z : Option ae) (pre post : List ae) (n : Nat),kids = pre ++ as ++ post → pre.length = 2 * n → es.length + Fs.length ≤ 100 → (∀ q ∈ r,q ∈ R) → Hd R hd →
  (∀ hd' J' z,Hd R hd' → (∀ q,q ∈ hd' ↔ q ∈ hd ∨ q ∈ Fs.flatMap (iz X) ∧ bW T q.2 = true) → Q (.next,[some (.mref st),some nd,some (mV X T),some (.mref (B.length + 1 + J.length)),z,none]) (E B hd' (J ++ .lst (es ++ Fs.map fun q=>mV (q.2 X).1 T) :: J'))) →
  W (dY 4 (au (a7 2 (aq (sem d .f_value_uses) (ab (af 0) (ab (aE aV (aS (aK "kids") (af 1)) (af 4)) (ab (af 2) am))))) (bw (bG be (af 3) (ab (aq (sem d .f_statement_uses) (ab (af 0) (ab (aE aV (aS (aK "kids") (af 1)) (aE eH (af 4) (ar (.int 1)))) (ab (af 2) am)))) am))))
   ((List.range' n Fs.length).map fun (i : Nat)=>ae.int ((2 * i : Nat) : Int)) [some (.mref st),some nd,some (mV X T),some (.mref (B.length + 1 + J.length)),z,none]) (E B hd (J ++ .lst es :: J2)) Q:=by
 intro as0 F0 r0 i0
 refine cD.ind ?_ ?_ i0
 ·intro hd es J2 z pre post n e1 e2 l hr hh k
  rw [show (List.range' n ([] : List (Rd × Den)).length).map (fun (i : Nat)=>ae.int ((2 * i : Nat) : Int)) = [] from rfl]
  refine bN ?_
  have:=k hd J2 z hh fun q=>⟨.inl,fun a=>a.elim id fun a=>by cases a.1⟩
  rw [List.map_nil,List.append_nil] at this
  exact this
 ·intro t b rt rb _ F as Fs i j ia ih hd es J2 z pre post n e1 e2 l hr hh k
  rw [List.length_cons] at l
  have l1:=congrArg List.length e1
  rw [List.length_append,List.length_append,List.length_cons,List.length_cons] at l1
  have g0 : kids[2 * n]? = some t:=by rw [e1,List.append_assoc,List.getElem?_append_right (Bi e2),e2,Nat.sub_self]; rfl
  have g1 : kids[2 * n + 1]? = some b:=by rw [e1,List.append_assoc,List.getElem?_append_right (by exact BG e2),e2,show 2 * n + 1 - 2 * n = 1 by exact AZ]; rfl
  rw [List.length_cons,List.range'_succ,List.map_cons]
  refine aY (aB (aO (aA (ag (ao (v:=.mref st) rfl (ag (aU (ba (ao (v:=nd) rfl (ii (gk _ _) (ao (v:=.int ((2 * n : Nat) : Int)) rfl (ft g0 (Dm hk e2 l1) (wr rfl ?_)))))))))))))
  refine cI i (EU he) f u (fun q hq=>hr q (List.mem_append_left _ hq)) hh fun hd1 h1 m1=>?_
  refine aj (bu (cq (ao (v:=.mref (B.length + 1 + J.length)) rfl ?_)))
  refine ⟨_,_,rfl,ou,?_⟩
  refine ag (aA (ag (ao (v:=.mref st) rfl (ag (aU (ba (ao (v:=nd) rfl (ii (gk _ _) (aU (ao (v:=.int ((2 * n : Nat) : Int)) rfl (aR (fL ?_))))))))))))
  rw [show (((2 * n : Nat) : Int) + 1) = ((2 * n + 1 : Nat) : Int) by exact Br]
  refine ft g1 (DL hk e2 l1) (ag (ao (v:=mV X T) rfl (av ?_)))
  refine wb _ _ _ j he f u (fun q hq=>hr q (List.mem_append_right _ (List.mem_append_left _ hq))) h1 fun hd2 J3 h2 m2=>?_
  refine av ?_
  rw [List.append_assoc,List.cons_append]
  refine pj (bi (Kj l)) ?_
  dsimp only
  refine ih hd2 (es ++ [mV (F X).1 T]) (J2 ++ J3) (some (.int ((2 * n : Nat) : Int))) (pre ++ [t,b]) post (n + 1) (by rw [e1]; simp) (by rw [List.length_append,e2]; simp; exact Bu) (by rw [List.length_append,List.length_singleton]; exact IB l) (fun q hq=>hr q (List.mem_append_right _ (List.mem_append_right _ hq))) h2 fun hd' J' z' h' m'=>?_
  have:=k hd' J' z' h' fun q=>by
   rw [m' q,m2 q,m1 q,List.flatMap_cons,List.mem_append]
   unfold iz
   rw [List.mem_append,or_and_right,or_and_right,or_assoc,or_assoc,or_assoc]
  rw [List.map_cons] at this
  rw [List.append_assoc]
  exact this
theorem EF {Fs : List (Rd × Den)} (h : Fs.length ≤ 2) {kl : Nat} (e : kl = 2 * Fs.length ∨ kl = 2 * Fs.length + 1) : cV (.rng 0 ((kl : Int) - 1) 2) = some ((List.range' 0 Fs.length).map fun (i : Nat)=>ae.int ((2 * i : Nat) : Int)):=by
 rcases e with e | e
 ·subst e
  match hl : Fs.length,h with
  | 0,_=>kernel_rfl
  | 1,_=>kernel_rfl
  | 2,_=>kernel_rfl
 ·subst e
  match hl : Fs.length,h with
  | 0,_=>kernel_rfl
  | 1,_=>kernel_rfl
  | 2,_=>kernel_rfl
theorem oe (a b c : ae) (z4 : Option ae) {Q : Fl × Loc → List ah → Prop} : ∀ (Ys : List (Fin 16)) (Z : Fin 16) (z : Option ae),(∀ z,Q (.next,[some a,some b,some (mV (dz Z Ys) T),some c,z4,z]) M) →
  W (dY 5 (a7 2 (aE mB (af 2) (af 5))) (Ys.map fun Y=>mV Y T) [some a,some b,some (mV Z T),some c,z4,z]) M Q
 | [],Z,z,k=>by rw [List.map_nil,gc]; exact k z
 | Y :: Ys,Z,z,k=>by
  have e : ∀ Q : ae → List ah → Prop,W (mB (mV Z T) (mV Y T)) M Q ↔ Q (mV (ed Z Y) T) M:=fun Q=>bJ (by
   unfold mB i2i mV
   dsimp only
   rw [if_pos (show rj _ _ = true from rfl),sQ]; rfl)
  rw [List.map_cons]
  refine aY (aO (aU (ao (v:=mV Z T) rfl (ao (v:=mV Y T) rfl ?_))))
  rw [e]
  exact oe a b c z4 Ys (ed Z Y) _ k
theorem ya {h : Nat} (wb : xC h) (he : 3 * h + 11 ≤ d) (f : FB B st sl T) (u : Uni R) (nd : ae) (kids : List ae) (hk : kids.length ≤ 10) (gk : ∀ (M : List ah) (Q : ae → List ah → Prop),W (aK "kids" nd) M Q ↔ Q (.lst kids) M) (X : Fin 16) {Q : Fl × Loc → List ah → Prop} : ∀ {as : List ae} {Fs : List (Rd × Den)} {r : Rd},cD as Fs r h → ∀ (hd : Rd) (J : List ah) (z : Option ae) (pre post : List ae) (n : Nat),kids = pre ++ as ++ post → pre.length = 2 * n → (∀ q ∈ r,q ∈ R) → Hd R hd →
  (∀ hd' J' z,Hd R hd' → (∀ q,q ∈ hd' ↔ q ∈ hd ∨ q ∈ Fs.flatMap (iz X) ∧ bW T q.2 = true) → Q (.next,[some (.mref st),some nd,some (mV X T),z]) (E B hd' (J ++ J'))) →
  W (dY 3 (au (a7 2 (aq (sem d .f_value_uses) (ab (af 0) (ab (aE aV (aS (aK "kids") (af 1)) (af 3)) (ab (af 2) am))))) (bw (aq (sem d .f_statement_uses) (ab (af 0) (ab (aE aV (aS (aK "kids") (af 1)) (aE eH (af 3) (ar (.int 1)))) (ab (af 2) am))))))
   ((List.range' n Fs.length).map fun (i : Nat)=>ae.int ((2 * i : Nat) : Int)) [some (.mref st),some nd,some (mV X T),z]) (E B hd J) Q:=by
 intro as0 F0 r0 i0
 refine cD.ind ?_ ?_ i0
 ·intro hd J z pre post n e1 e2 hr hh k
  rw [show (List.range' n ([] : List (Rd × Den)).length).map (fun (i : Nat)=>ae.int ((2 * i : Nat) : Int)) = [] from rfl]
  refine bN ?_
  have:=k hd [] z hh fun q=>⟨.inl,fun a=>a.elim id fun a=>by cases a.1⟩
  rw [List.append_nil] at this
  exact this
 ·intro t b rt rb _ F as Fs i j ia ih hd J z pre post n e1 e2 hr hh k
  have l1:=congrArg List.length e1
  rw [List.length_append,List.length_append,List.length_cons,List.length_cons] at l1
  have g0 : kids[2 * n]? = some t:=by rw [e1,List.append_assoc,List.getElem?_append_right (Bi e2),e2,Nat.sub_self]; rfl
  have g1 : kids[2 * n + 1]? = some b:=by rw [e1,List.append_assoc,List.getElem?_append_right (by exact BG e2),e2,show 2 * n + 1 - 2 * n = 1 by exact AZ]; rfl
  rw [List.length_cons,List.range'_succ,List.map_cons]
  refine aY (aB (aO (aA (ag (ao (v:=.mref st) rfl (ag (aU (ba (ao (v:=nd) rfl (ii (gk _ _) (ao (v:=.int ((2 * n : Nat) : Int)) rfl (ft g0 (Dm hk e2 l1) (wr rfl ?_)))))))))))))
  refine cI i (EU he) f u (fun q hq=>hr q (List.mem_append_left _ hq)) hh fun hd1 h1 m1=>?_
  refine aj (bu (aA (ag (ao (v:=.mref st) rfl (ag (aU (ba (ao (v:=nd) rfl (ii (gk _ _) (aU (ao (v:=.int ((2 * n : Nat) : Int)) rfl (aR (fL ?_)))))))))))))
  rw [show (((2 * n : Nat) : Int) + 1) = ((2 * n + 1 : Nat) : Int) by exact Br]
  refine ft g1 (DL hk e2 l1) (ag (ao (v:=mV X T) rfl (av ?_)))
  refine wb _ _ _ j he f u (fun q hq=>hr q (List.mem_append_right _ (List.mem_append_left _ hq))) h1 fun hd2 J3 h2 m2=>?_
  dsimp only
  refine ih hd2 (J ++ J3) (some (.int ((2 * n : Nat) : Int))) (pre ++ [t,b]) post (n + 1) (by rw [e1]; simp) (by rw [List.length_append,e2]; simp; exact Bu) (fun q hq=>hr q (List.mem_append_right _ (List.mem_append_right _ hq))) h2 fun hd' J' z' h' m'=>?_
  rw [List.append_assoc]
  exact k hd' (J3 ++ J') z' h' fun q=>by
   rw [m' q,m2 q,m1 q,List.flatMap_cons,List.mem_append]
   unfold iz
   rw [List.mem_append,or_and_right,or_and_right,or_assoc,or_assoc,or_assoc]
theorem Bj {h : Nat} (wb : xC h) (he : 3 * h + 11 ≤ d) (f : FB B st sl T) (u : Uni R) (x : ae) (X : Fin 16) {Q : Fl × Loc → List ah → Prop} : ∀ {bs : List ae} {Fs : List Den} {r : Rd},dM bs Fs r h → ∀ (hd : Rd) (J : List ah) (a : Int) (Z : Fin 16) (z : Option ae),(∀ Y : Fin 16,Builtin.bitAnd a ((ed Y T).val : Int) = ((ed (ed Z Y) T).val : Int)) → (∀ q ∈ r,q ∈ R) → Hd R hd →
  (∀ hd' J' a' z,(Fs = [] → a' = a) → (Fs ≠ [] → a' = ((ed (dz Z (Fs.map fun F=>(F X).1)) T).val : Int)) → Hd R hd' → (∀ q,q ∈ hd' ↔ q ∈ hd ∨ q ∈ (Fs.flatMap fun F=>(F X).2) ∧ bW T q.2 = true) → Q (.next,[some (.mref st),some x,some (mV X T),some (.int a'),z]) (E B hd' (J ++ J'))) →
  W (dY 4 (a7 3 (aE mB (af 3) (aq (sem d .f_statement_uses) (ab (af 0) (ab (af 4) (ab (af 2) am)))))) bs [some (.mref st),some x,some (mV X T),some (.int a),z]) (E B hd J) Q:=by
 intro as0 F0 r0 i0
 refine dM.ind ?_ ?_ i0
 ·intro hd J a Z z ha hr hh k
  refine bN ?_
  have:=k hd [] a z (fun _=>rfl) (fun e=>absurd rfl e) hh fun q=>⟨.inl,fun a=>a.elim id fun a=>by cases a.1⟩
  rw [List.append_nil] at this
  exact this
 ·intro b F _ _ _ Fs j ib ih hd J a Z z ha hr hh k
  have e : ∀ (M : List ah) (Q : ae → List ah → Prop),W (mB (.int a) (mV (F X).1 T)) M Q ↔ Q (.int ((ed (ed Z (F X).1) T).val : Int)) M:=fun M Q=>bJ (by
   unfold mB i2i mV
   dsimp only
   rw [if_pos (show rj _ _ = true from rfl),ha]; rfl)
  refine aY (aO (aU (ao (v:=.int a) rfl (aA (wr rfl ?_)))))
  refine wb _ _ _ j he f u (fun q hq=>hr q (List.mem_append_left _ hq)) hh fun hd2 J2 h2 m2=>?_
  rw [e]
  dsimp only
  refine ih hd2 _ _ (ed Z (F X).1) (some b) (fun Y=>sQ _ _ _) (fun q hq=>hr q (List.mem_append_right _ hq)) h2 fun hd' J' a' z' k1 k2 h' m'=>?_
  rw [List.append_assoc]
  refine k hd' _ a' z' (fun e=>by cases e) (fun _=>?_) h' fun q=>?_
  ·by_cases hf : Fs = []
   ·rw [k1 hf,hf]; rfl
   ·rw [k2 hf]; rfl
  ·rw [m' q,m2 q,List.flatMap_cons,List.mem_append,or_and_right,or_assoc]
end
end Mine
end
section
open PySem PySem.W PySem.Spec PySem.Calls PySem.SeqAt PyProof.Rows
namespace Mine
theorem JJ {Fs : List (Rd × Den)} (h : Fs.length ≤ 2) {kl : Nat} (e : kl = 2 * Fs.length) : cV (.rng 0 (kl : Int) 2) = some ((List.range' 0 Fs.length).map fun (i : Nat)=>ae.int ((2 * i : Nat) : Int)):=Fm h e
theorem K2 (X : Fin 16) (T : Fin 16) (hd : Rd) (r : Rd) (q : Int × Fin 4) : (q ∈ hd ∨ q ∈ dW X r ∧ bW T q.2 = true) ↔ (q ∈ hd ∨ q ∈ dW X r ∧ bW T q.2 = true):=Iff.rfl
theorem rn {h : Nat} (wb0 : ∀ g,h = g + 1 → xC g) : y0 h:=by
 intro v F r i
 intro e R B st sl T hd J X Q he f u hr hh k
 obtain ⟨d,rfl⟩ : ∃ d,e = d + 1:=⟨e - 1,(JZ he)⟩
 cases i with
 | @asg at_ p s v r _ iv=>
  rw [bQ]
  refine bK (loc0:=[some (.mref st),some (ndV "assign" at_ .none [vaV p s,v] .none),some (mV X T),none,none]) (by simp) rfl ?_
  unfold bj
  generalize hnd : ndV "assign" at_ .none [vaV p s,v] .none = nd
  have go : ∀ (M : List ah) (Q : ae → List ah → Prop),W (aK "op" nd) M Q ↔ Q (.str "assign") M:=fun M Q=>by subst hnd; exact gO
  have gk : ∀ (M : List ah) (Q : ae → List ah → Prop),W (aK "kids" nd) M Q ↔ Q (.lst [vaV p s,v]) M:=fun M Q=>by subst hnd; exact ee
  refine aB (aO (ba (ao (v:=nd) rfl (ii (go _ _) (aj (a9 (i:=3) (v := "assign") rfl (ifn (by decide) (a9 (i:=3) (v := "assign") rfl (ifp rfl (aB (aO (aA (ag (ao (v:=.mref st) rfl (ag (aU (ba (ao (v:=nd) rfl (ii (gk _ _) (aR (dE (x:=0) 0 rfl rfl (by decide) (wr rfl (gt (Gv he) f (aj (aB (aO (aA (ag (ao (v:=.mref st) rfl (ag (aU (ba (ao (v:=nd) rfl (ii (gk _ _) (aR (dE (x:=1) 1 rfl rfl (by decide) (wr rfl ?_)))))))))))))))))))))))))))))))))))))
  refine cI iv (Js he) f u (fun q hq=>hr q (List.mem_cons_of_mem _ hq)) hh fun hd1 h1 m1=>?_
  refine aj (a8 (aA (ag (ao (v:=.mref st) rfl (ag (aU (ba (ao (v:=nd) rfl (ii (gk _ _) (aR (dE (x:=0) 0 rfl rfl (by decide) (wr rfl (mP (Gv he) f (aX (aF ?_)))))))))))))))
  have:=k hd1 [] h1 m1
  rw [List.append_nil] at this
  exact this
 | @inc at_ p s v r _ iv=>
  rw [bQ]
  refine bK (loc0:=[some (.mref st),some (ndV "std" at_ .none [vaV p s,v] (.str "INC")),some (mV X T),none,none]) (by simp) rfl ?_
  unfold bj
  refine aB (aO (ba (ao (v:=ndV "std" at_ .none [vaV p s,v] (.str "INC")) rfl ?_)))
  rw [show ndV "std" at_ .none [vaV p s,v] (.str "INC") = .inst 32 (ndF "std" (.int at_) .none (.lst [vaV p s,v]) (.str "INC")) from rfl]
  refine n6 (aj (a9 (i:=3) (v := "std") rfl (ifn (by decide) (a9 (i:=3) (v := "std") rfl (ifn (by decide) (a9 (i:=3) (v := "std") rfl (ifn (by decide) (a9 (i:=3) (v := "std") rfl (ifp rfl (a8 (aA (wr rfl ?_))))))))))))
  refine xm (at_:=at_) iv (EV he) f u hr hh fun hd1 J1 h1 m1=>?_
  refine aX (aF ?_)
  exact k hd1 J1 h1 m1
 | @cal at_ pc p s v r _ iv=>
  rw [bQ]
  refine bK (loc0:=[some (.mref st),some (ndV "call" at_ .none [ndV "proc" pc dH [] fg,vaV p s,v] .none),some (mV X T),none,none]) (by simp) rfl ?_
  unfold bj
  refine aB (aO (ba (ao (v:=ndV "call" at_ .none [ndV "proc" pc dH [] fg,vaV p s,v] .none) rfl ?_)))
  rw [show ndV "call" at_ .none [ndV "proc" pc dH [] fg,vaV p s,v] .none = .inst 32 (ndF "call" (.int at_) .none (.lst [ndV "proc" pc dH [] fg,vaV p s,v]) .none) from rfl]
  refine n6 (aj (a9 (i:=3) (v := "call") rfl (ifn (by decide) (a9 (i:=3) (v := "call") rfl (ifn (by decide) (a9 (i:=3) (v := "call") rfl (ifp rfl (a8 (aA (wr rfl ?_))))))))))
  refine vb (at_:=at_) (pc:=pc) (p:=p) (s:=s) iv (EV he) f u (fun q hq=>hr q (List.mem_cons_of_mem _ hq)) hh fun hd1 J1 h1 m1=>?_
  refine aX (aF ?_)
  exact k hd1 J1 h1 m1
 | @if0 at_ kids Fs r g ia hl=>
  have wb:=wb0 g rfl
  have al:=gK ia
  rw [bQ]
  refine bK (loc0:=[some (.mref st),some (ndV "if" at_ .none kids (.bool false)),some (mV X T),none,none]) (by simp) rfl ?_
  unfold bj
  generalize hnd : ndV "if" at_ .none kids (.bool false) = nd
  have go : ∀ (M : List ah) (Q : ae → List ah → Prop),W (aK "op" nd) M Q ↔ Q (.str "if") M:=fun M Q=>by subst hnd; exact gO
  have gk : ∀ (M : List ah) (Q : ae → List ah → Prop),W (aK "kids" nd) M Q ↔ Q (.lst kids) M:=fun M Q=>by subst hnd; exact ee
  have gv : ∀ (M : List ah) (Q : ae → List ah → Prop),W (aK "value" nd) M Q ↔ Q (.bool false) M:=fun M Q=>by subst hnd; exact eT
  refine aB (aO (ba (ao (v:=nd) rfl (ii (go _ _) (aj (a9 (i:=3) (v := "if") rfl (ifn (by decide) (a9 (i:=3) (v := "if") rfl (ifn (by decide) (a9 (i:=3) (v := "if") rfl (ifn (by decide) (a9 (i:=3) (v := "if") rfl (ifn (by decide) (a9 (i:=3) (v := "if") rfl (ifp rfl (a8 (aA (wr rfl ?_))))))))))))))))))
  obtain ⟨d,rfl⟩ : ∃ d',d = d' + 1:=⟨d - 1,(zl he)⟩
  rw [jt]
  refine bK (loc0:=[some (.mref st),some nd,some (mV X T),none,none,none]) (by simp) rfl ?_
  unfold dw
  refine aB (aO (cU (av ?_)))
  refine ⟨rfl,?_⟩
  rw [rZ,ko]
  refine aj (aB (ci (aA (ag (aR (ag (aU (aA (ag (ba (ao (v:=nd) rfl (ii (gk _ _) (av (gf (BH hl al) (aR (wN (wr rfl (kz ?_))))))))))))))))))
  refine ⟨_,EF (Fs:=Fs) (xD hl al) (.inl al),we wb (xj he) f u nd kids (BS hl al) gk J X ia hd [] [] none [] [] 0 (by simp) rfl (by simp; exact Gy hl al) hr hh fun hd1 J1 z1 h1 m1=>?_⟩
  rw [List.nil_append]
  refine aj (aB (cG (bM (ba (ao (v:=nd) rfl (ii (gv _ _) (b9 (ifn (by decide) (cB (aj (aB (ci (uO rfl ?_)))))))))))))
  rw [show (Fs.map fun q=>mV (q.2 X).1 T) = (Fs.map fun q=>(q.2 X).1).map fun Y=>mV Y T by rw [List.map_map]; rfl]
  refine ⟨_,rfl,oe _ _ _ _ _ X none fun z=>?_⟩
  refine aj (a8 (ao (v:=mV (dz X (Fs.map fun q=>(q.2 X).1)) T) rfl (aF (aX (aF ?_)))))
  exact k hd1 (.gone :: J1) h1 m1
 | @if1 at_ kids Fs ra rb g b F ia hl ib=>
  have wb:=wb0 g rfl
  have al:=gK ia
  have kl : (kids ++ [b]).length ≤ 5:=by rw [List.length_append,List.length_singleton]; exact Fy hl al
  rw [bQ]
  refine bK (loc0:=[some (.mref st),some (ndV "if" at_ .none (kids ++ [b]) (.bool true)),some (mV X T),none,none]) (by simp) rfl ?_
  unfold bj
  generalize hnd : ndV "if" at_ .none (kids ++ [b]) (.bool true) = nd
  have go : ∀ (M : List ah) (Q : ae → List ah → Prop),W (aK "op" nd) M Q ↔ Q (.str "if") M:=fun M Q=>by subst hnd; exact gO
  have gk : ∀ (M : List ah) (Q : ae → List ah → Prop),W (aK "kids" nd) M Q ↔ Q (.lst (kids ++ [b])) M:=fun M Q=>by subst hnd; exact ee
  have gv : ∀ (M : List ah) (Q : ae → List ah → Prop),W (aK "value" nd) M Q ↔ Q (.bool true) M:=fun M Q=>by subst hnd; exact eT
  refine aB (aO (ba (ao (v:=nd) rfl (ii (go _ _) (aj (a9 (i:=3) (v := "if") rfl (ifn (by decide) (a9 (i:=3) (v := "if") rfl (ifn (by decide) (a9 (i:=3) (v := "if") rfl (ifn (by decide) (a9 (i:=3) (v := "if") rfl (ifn (by decide) (a9 (i:=3) (v := "if") rfl (ifp rfl (a8 (aA (wr rfl ?_))))))))))))))))))
  obtain ⟨d,rfl⟩ : ∃ d',d = d' + 1:=⟨d - 1,(zl he)⟩
  rw [jt]
  refine bK (loc0:=[some (.mref st),some nd,some (mV X T),none,none,none]) (by simp) rfl ?_
  unfold dw
  refine aB (aO (cU (av ?_)))
  refine ⟨rfl,?_⟩
  rw [rZ,ko]
  refine aj (aB (ci (aA (ag (aR (ag (aU (aA (ag (ba (ao (v:=nd) rfl (ii (gk _ _) (av (gf (FX kl) (aR (wN (wr rfl (kz ?_))))))))))))))))))
  refine ⟨_,EF (Fs:=Fs) (xD hl al) (.inr (by rw [List.length_append,List.length_singleton,al])),we wb (xj he) f u nd (kids ++ [b]) (Fc kl) gk J X ia hd [] [] none [] [b] 0 (by simp) rfl (by simp; exact Gy hl al) (fun q hq=>hr q (List.mem_append_left _ hq)) hh fun hd1 J1 z1 h1 m1=>?_⟩
  rw [List.nil_append]
  refine aj (aB (cG (bM (ba (ao (v:=nd) rfl (ii (gv _ _) (b9 (ifp rfl (aO (aA (ag (ao (v:=.mref st) rfl (ag (aU (ba (ao (v:=nd) rfl (ii (gk _ _) (ba (aR (gm (a:=.int (-1)) rfl (nO (wr rfl ?_))))))))))))))))))))))
  refine wb _ _ _ ib (xj he) f u (fun q hq=>hr q (List.mem_append_right _ hq)) h1 fun hd2 J2 h2 m2=>?_
  refine aj (aB (ci ?_))
  rw [List.append_assoc,List.cons_append]
  refine uO rfl ?_
  rw [show (Fs.map fun q=>mV (q.2 X).1 T) = (Fs.map fun q=>(q.2 X).1).map fun Y=>mV Y T by rw [List.map_map]; rfl]
  refine ⟨_,rfl,oe _ _ _ _ _ (F X).1 none fun z=>?_⟩
  refine aj (a8 (ao (v:=mV (dz (F X).1 (Fs.map fun q=>(q.2 X).1)) T) rfl (aF (aX (aF ?_)))))
  exact k hd2 (.gone :: (J1 ++ J2)) h2 fun q=>by rw [m2 q,m1 q,List.mem_append,or_and_right,or_assoc]
 | @whl at_ kids Fs r g ia hl=>
  have wb:=wb0 g rfl
  have al:=gK ia
  rw [bQ]
  refine bK (loc0:=[some (.mref st),some (ndV "while" at_ .none kids .none),some (mV X T),none,none]) (by simp) rfl ?_
  unfold bj
  generalize hnd : ndV "while" at_ .none kids .none = nd
  have go : ∀ (M : List ah) (Q : ae → List ah → Prop),W (aK "op" nd) M Q ↔ Q (.str "while") M:=fun M Q=>by subst hnd; exact gO
  have gk : ∀ (M : List ah) (Q : ae → List ah → Prop),W (aK "kids" nd) M Q ↔ Q (.lst kids) M:=fun M Q=>by subst hnd; exact ee
  refine aB (aO (ba (ao (v:=nd) rfl (ii (go _ _) (aj (a9 (i:=3) (v := "while") rfl (ifn (by decide) (a9 (i:=3) (v := "while") rfl (ifn (by decide) (a9 (i:=3) (v := "while") rfl (ifn (by decide) (a9 (i:=3) (v := "while") rfl (ifn (by decide) (a9 (i:=3) (v := "while") rfl (ifn (by decide) (a9 (i:=3) (v := "while") rfl (ifp rfl (a8 (aA (wr rfl ?_))))))))))))))))))))
  obtain ⟨d,rfl⟩ : ∃ d',d = d' + 1:=⟨d - 1,(zl he)⟩
  rw [pW]
  refine bK (loc0:=[some (.mref st),some nd,some (mV X T),none]) (by simp) rfl ?_
  unfold eS
  refine aB (ci (aA (ag (aR (ag (aA (ag (ba (ao (v:=nd) rfl (ii (gk _ _) (av (gf (BH hl al) (wr rfl (kz ?_))))))))))))))
  refine ⟨_,JJ (Fs:=Fs) (xD hl al) al,ya wb (xj he) f u nd kids (BS hl al) gk X ia hd J none [] [] 0 (by simp) rfl hr hh fun hd1 J1 z1 h1 m1=>?_⟩
  refine aj (a8 (ao (v:=mV X T) rfl (aF (aX (aF ?_)))))
  exact k hd1 J1 h1 m1
 | @rep at_ b t F rb rt g ib iv=>
  have wb:=wb0 g rfl
  rw [bQ]
  refine bK (loc0:=[some (.mref st),some (ndV "repeat" at_ .none [b,t] .none),some (mV X T),none,none]) (by simp) rfl ?_
  unfold bj
  generalize hnd : ndV "repeat" at_ .none [b,t] .none = nd
  have go : ∀ (M : List ah) (Q : ae → List ah → Prop),W (aK "op" nd) M Q ↔ Q (.str "repeat") M:=fun M Q=>by subst hnd; exact gO
  have gk : ∀ (M : List ah) (Q : ae → List ah → Prop),W (aK "kids" nd) M Q ↔ Q (.lst [b,t]) M:=fun M Q=>by subst hnd; exact ee
  refine aB (aO (ba (ao (v:=nd) rfl (ii (go _ _) (aj (a9 (i:=3) (v := "repeat") rfl (ifn (by decide) (a9 (i:=3) (v := "repeat") rfl (ifn (by decide) (a9 (i:=3) (v := "repeat") rfl (ifn (by decide) (a9 (i:=3) (v := "repeat") rfl (ifn (by decide) (a9 (i:=3) (v := "repeat") rfl (ifn (by decide) (a9 (i:=3) (v := "repeat") rfl (ifn (by decide) (a9 (i:=3) (v := "repeat") rfl (ifp rfl (a8 (aA (ag (ao (v:=.mref st) rfl (ag (aU (ba (ao (v:=nd) rfl (ii (gk _ _) (aR (dE (x:=1) 1 rfl rfl (by decide) (ag (aA (ag (ao (v:=.mref st) rfl (ag (aU (ba (ao (v:=nd) rfl (ii (gk _ _) (aR (dE (x:=0) 0 rfl rfl (by decide) (wr rfl ?_))))))))))))))))))))))))))))))))))))))))))
  refine wb _ _ _ ib (HG he) f u (fun q hq=>hr q (List.mem_append_left _ hq)) hh fun hd1 J1 h1 m1=>?_
  refine av ?_
  refine cI iv (Ij he) f u (fun q hq=>hr q (List.mem_append_right _ hq)) h1 fun hd2 h2 m2=>?_
  refine aX (aF ?_)
  exact k hd2 J1 h2 fun q=>by rw [m2 q,m1 q,List.mem_append,or_and_right,or_assoc]
 | @for_ at_ p s v1 v2 b r1 r2 rb F g i1 i2 ib=>
  have wb:=wb0 g rfl
  rw [bQ]
  refine bK (loc0:=[some (.mref st),some (ndV "for" at_ .none [vaV p s,v1,v2,b] (.int 1)),some (mV X T),none,none]) (by simp) rfl ?_
  unfold bj
  generalize hnd : ndV "for" at_ .none [vaV p s,v1,v2,b] (.int 1) = nd
  have go : ∀ (M : List ah) (Q : ae → List ah → Prop),W (aK "op" nd) M Q ↔ Q (.str "for") M:=fun M Q=>by subst hnd; exact gO
  refine aB (aO (ba (ao (v:=nd) rfl (ii (go _ _) (aj (a9 (i:=3) (v := "for") rfl (ifn (by decide) (a9 (i:=3) (v := "for") rfl (ifn (by decide) (a9 (i:=3) (v := "for") rfl (ifn (by decide) (a9 (i:=3) (v := "for") rfl (ifn (by decide) (a9 (i:=3) (v := "for") rfl (ifn (by decide) (a9 (i:=3) (v := "for") rfl (ifn (by decide) (a9 (i:=3) (v := "for") rfl (ifn (by decide) (a9 (i:=3) (v := "for") rfl (ifp rfl (a8 (aA (wr rfl ?_))))))))))))))))))))))))
  obtain ⟨d,rfl⟩ : ∃ d',d = d' + 1:=⟨d - 1,(zl he)⟩
  rw [ul]
  refine bK (loc0:=[some (.mref st),some nd,some (mV X T),none,none,none,none]) (by simp) rfl ?_
  unfold f9
  have up : W (mH [3,4,5,6] (aS (aK "kids") (af 1)) [some (.mref st),some nd,some (mV X T),none,none,none,none]) (E B hd J) (fun r M1=>r = (.next,[some (.mref st),some nd,some (mV X T),some (vaV p s),some v1,some v2,some b]) ∧ M1 = E B hd J):=by
   subst hnd
   unfold mH
   refine wJ (ba (ao (v:=ndV "for" at_ .none [vaV p s,v1,v2,b] (.int 1)) rfl ?_))
   unfold ndV
   refine hU ?_
   exact ⟨_,_,rfl,rfl,rfl⟩
  obtain ⟨_,_,up,rfl,rfl⟩:=up
  refine aB (gm up (aj (aB (aO (aA (ag (ao (v:=.mref st) rfl (ag (ao (v:=v1) rfl (ag (aA (wr rfl (gt (FG he) f (av ?_))))))))))))))
  refine cI i1 (Dg he) f u (fun q hq=>hr q (List.mem_cons_of_mem _ (List.mem_append_left _ hq))) hh fun hd1 h1 m1=>?_
  refine aj (aB (aO (aA (ag (ao (v:=.mref st) rfl (ag (ao (v:=v2) rfl (ag (aA (wr rfl (mP (FG he) f (av ?_))))))))))))
  refine cI i2 (Dg he) f u (fun q hq=>hr q (List.mem_cons_of_mem _ (List.mem_append_right _ (List.mem_append_left _ hq)))) h1 fun hd2 h2 m2=>?_
  refine aj (aB (bu (aA (wr rfl ?_))))
  refine wb _ _ _ ib (xj he) f u (fun q hq=>hr q (List.mem_cons_of_mem _ (List.mem_append_right _ (List.mem_append_right _ hq)))) h2 fun hd3 J3 h3 m3=>?_
  refine aj (a8 (ao (v:=mV (dI X s) T) rfl (aF (aX (aF ?_)))))
  exact k hd3 J3 h3 fun q=>by rw [m3 q,m2 q,m1 q,List.mem_append,List.mem_append,or_and_right,or_and_right,or_assoc,or_assoc]
 | @cas at_ v val bs rv r Fs g iv ib hl hne=>
  have wb:=wb0 g rfl
  rw [bQ]
  refine bK (loc0:=[some (.mref st),some (ndV "case" at_ .none (v :: bs) val),some (mV X T),none,none]) (by simp) rfl ?_
  unfold bj
  generalize hnd : ndV "case" at_ .none (v :: bs) val = nd
  have go : ∀ (M : List ah) (Q : ae → List ah → Prop),W (aK "op" nd) M Q ↔ Q (.str "case") M:=fun M Q=>by subst hnd; exact gO
  have gk : ∀ (M : List ah) (Q : ae → List ah → Prop),W (aK "kids" nd) M Q ↔ Q (.lst (v :: bs)) M:=fun M Q=>by subst hnd; exact ee
  refine aB (aO (ba (ao (v:=nd) rfl (ii (go _ _) (aj (a9 (i:=3) (v := "case") rfl (ifn (by decide) (a9 (i:=3) (v := "case") rfl (ifn (by decide) (a9 (i:=3) (v := "case") rfl (ifn (by decide) (a9 (i:=3) (v := "case") rfl (ifn (by decide) (a9 (i:=3) (v := "case") rfl (ifn (by decide) (a9 (i:=3) (v := "case") rfl (ifn (by decide) (a9 (i:=3) (v := "case") rfl (ifn (by decide) (a9 (i:=3) (v := "case") rfl (ifn (by decide) (a8 (aA (wr rfl ?_))))))))))))))))))))))))
  obtain ⟨d,rfl⟩ : ∃ d',d = d' + 1:=⟨d - 1,(zl he)⟩
  rw [rx]
  refine bK (loc0:=[some (.mref st),some nd,some (mV X T),none,none]) (by simp) rfl ?_
  unfold fE
  refine aB (aO (aA (ag (ao (v:=.mref st) rfl (ag (aU (ba (ao (v:=nd) rfl (ii (gk _ _) (aR (dE (x:=0) 0 rfl rfl (by decide) (wr rfl ?_))))))))))))
  refine cI iv (Dg he) f u (fun q hq=>hr q (List.mem_append_left _ hq)) hh fun hd1 h1 m1=>?_
  refine aj (aB (aO (ba (aR (gm (a:=.int (-1)) rfl (aj (aB (ci (rC (a:=v) (vs:=bs) (by rw [dN,bU (v:=nd) rfl,gk]; exact ⟨rfl,rfl⟩) (Gc hl) ?_)))))))))
  rw [ko]
  refine ⟨_,rfl,Bj wb (xj he) f u nd X ib hd1 _ (-1) 15 none (fun Y=>Av Y T) (fun q hq=>hr q (List.mem_append_right _ hq)) h1 fun hd2 J2 a' z k1 k2 h2 m2=>?_⟩
  refine aj (a8 (ao (v:=.int a') rfl (aF (aF ?_))))
  rw [k2 hne,List.append_assoc]
  exact k hd2 _ h2 fun q=>by rw [m2 q,m1 q,List.mem_append,or_and_right,or_assoc]
theorem Gn : ∀ h : Nat,xC h
 | 0=>wp (rn fun g e=>nomatch e)
 | h + 1=>wp (rn fun g e=>by obtain rfl : g = h:=BA e; exact Gn g)
end Mine
end
section
open PySem PySem.W PySem.Spec PySem.Calls PySem.SeqAt PyProof.Rows
namespace Mine
theorem xM {vs : List ae} {v : ae} {X : List ah} {Q : ae → List ah → Prop} (hs : bV vs.length = true) : W (be [.mref 0,v]) (.lst vs :: X) Q ↔ Q .none (.lst (vs ++ [v]) :: X):=pr (M:=[]) hs
theorem xc {vs : List ae} {v : ae} {X : List ah} {Q : ae → List ah → Prop} (hs : bV vs.length = true) (xx : Q .none (.lst (vs ++ [v]) :: X)) : W (be [.mref 0,v]) (.lst vs :: X) Q:=(xM (vs:=vs) (v:=v) (X:=X) (Q:=Q) (hs:=hs)).mpr xx
theorem Ay {M : List ah} {x : Int} {Q : ae → List ah → Prop} : W (rP (.int x) (.int 997)) M Q ↔ Q (.int (x.fmod 997)) M:=CW (by decide)
theorem z3 {M : List ah} {x : Int} {Q : ae → List ah → Prop} (xx : Q (.int (x.fmod 997)) M) : W (rP (.int x) (.int 997)) M Q:=(Ay (M:=M) (x:=x) (Q:=Q)).mpr xx
theorem Ai {M : List ah} {x : Int} {Q : ae → List ah → Prop} : W (qM (.int x) (.int 997)) M Q ↔ Q (.int (x.fdiv 997)) M:=by
 unfold qM i2i
 dsimp only
 rw [if_pos (show (decide ((997 : Int) ≠ 0) && fit 997) = true from rfl)]
 exact cb
theorem AS {M : List ah} {x : Int} {Q : ae → List ah → Prop} (xx : Q (.int (x.fdiv 997)) M) : W (qM (.int x) (.int 997)) M Q:=(Ai (M:=M) (x:=x) (Q:=Q)).mpr xx
theorem DD {M : List ah} {x : Int} {Q : ae → List ah → Prop} : W (lh (.int 3) (.int x)) M Q ↔ Q (.int (3 * x)) M:=by
 unfold lh i2i
 dsimp only
 rw [if_pos (show fit 3 = true from rfl)]
 exact cb
theorem DW {M : List ah} {x : Int} {Q : ae → List ah → Prop} (xx : Q (.int (3 * x)) M) : W (lh (.int 3) (.int x)) M Q:=(DD (M:=M) (x:=x) (Q:=Q)).mpr xx
noncomputable def zq : Loc → Mo (Fl × Loc):=au (bw (bG be (af 1) (ab (aE rP (af 3) (ar (.int 997))) am))) (au (a7 3 (aE qM (af 3) (ar (.int 997)))) (sIf (a6 (aE oEq (af 3) (ar (.int 0)))) yO bE))
theorem oZ (S : ae) {Q : Fl × Loc → List ah → Prop} : ∀ (ls : List ae) (fs : List Int) (x : Int) (c z : Option ae),fs.length + ls.length ≤ 100000 →
  (∀ (fs' : List Int) x' z',fs'.length ≤ fs.length + ls.length → Q (.next,[some S,some (.mref 0),c,some (.int x'),z']) [.lst (fs'.map .int),.gone]) →
  W (dY 4 zq ls [some S,some (.mref 0),c,some (.int x),z]) [.lst (fs.map .int),.gone] Q
 | [],fs,x,c,z,hl,k=>by rw [gc]; exact k fs x z (Nat.le_add_right _ _)
 | l :: ls,fs,x,c,z,hl,k=>by
  rw [List.length_cons] at hl
  unfold zq
  refine aY (aB (bu (cq (ao (v:=.mref 0) rfl ?_))))
  refine ⟨0,_,rfl,rfl,?_⟩
  refine ag (aU (ao (v:=.int x) rfl (aR (z3 (av (xc (bi (by rw [List.length_map]; exact KD hl)) (aj (aB (aO (aU (ao (v:=.int x) rfl (aR (AS (aj (cG (wr rfl ?_))))))))))))))))
  rw [show fs.map ae.int ++ [ae.int (x.fmod 997)] = (fs ++ [x.fmod 997]).map .int by rw [List.map_append]; rfl]
  by_cases h0 : x.fdiv 997 = 0
  ·refine ifp (decide_eq_true h0) (Ee ?_)
   exact k _ _ _ (by simp only [List.length_append,List.length_cons,List.length_nil]; exact Ic)
  ·refine ifn (by rw [decide_eq_true_eq]; exact h0) (cB ?_)
   refine oZ S ls (fs ++ [x.fmod 997]) _ c _ (by rw [List.length_append,List.length_singleton]; exact GV hl) fun fs' x' z' h'=>?_
   exact k fs' x' z' (by rw [List.length_append,List.length_singleton] at h'; rw [List.length_cons]; exact GU h')
theorem nZ (S : ae) {Q : Fl × Loc → List ah → Prop} : ∀ (ns : List Int) (fs : List Int) (c y z : Option ae),fs.length + 40 * ns.length ≤ 100000 →
  (∀ (fs' : List Int) c y z,fs'.length ≤ fs.length + 40 * ns.length → Q (.next,[some S,some (.mref 0),c,y,z]) [.lst (fs'.map .int),.gone]) →
  W (dY 2 (au (a7 3 (eIf (a6 (aE oGe (af 2) (ar (.int 0)))) (af 2) (aE k0 (ar (.int 5)) (aE lh (ar (.int 3)) (af 2))))) (dX 4 (aq cX (ab (ar (.int 40)) am)) zq)) (ns.map .int) [some S,some (.mref 0),c,y,z]) [.lst (fs.map .int),.gone] Q
 | [],fs,c,y,z,hl,k=>by rw [List.map_nil,gc]; exact k fs c y z (Nat.le_add_right _ _)
 | n :: ns,fs,c,y,z,hl,k=>by
  rw [List.length_cons] at hl
  have cont : ∀ x : Int,W (dX 4 (aq cX (ab (ar (.int 40)) am)) zq [some S,some (.mref 0),some (.int n),some (.int x),z]) [.lst (fs.map .int),.gone] fun r M1=>match r.1 with
    | .next=>W (dY 2 (au (a7 3 (eIf (a6 (aE oGe (af 2) (ar (.int 0)))) (af 2) (aE k0 (ar (.int 5)) (aE lh (ar (.int 3)) (af 2))))) (dX 4 (aq cX (ab (ar (.int 40)) am)) zq)) (ns.map .int) r.2) M1 Q
    | .brk=>Q (.next,r.2) M1
    | .ret v=>Q (.ret v,r.2) M1:=by
   intro x
   refine ci (wr rfl ?_)
   refine ⟨kZ 0 40 1,rfl,?_⟩
   have e40 : (kZ 0 40 1).length = 40:=by kernel_rfl
   refine oZ S _ fs x _ _ (by rw [e40]; exact Hb hl) fun fs' x' z' h'=>?_
   rw [e40] at h'
   dsimp only
   refine nZ S ns fs' _ _ _ (GP hl h') fun fs2 c2 y2 z2 h2=>?_
   exact k fs2 c2 y2 z2 (by rw [List.length_cons]; exact I7 h' h2)
  rw [List.map_cons]
  refine aY (aB (aO (tl (wr rfl ?_))))
  by_cases h0 : n ≥ 0
  ·refine ifp (decide_eq_true h0) (ao (v:=.int n) rfl (aj ?_))
   exact cont n
  ·refine ifn (by rw [decide_eq_true_eq]; exact h0) (aU (aR (aU (aR (ao (v:=.int n) rfl (DW (wN (aj ?_))))))))
   exact cont (5 - 3 * n)
theorem z9 {e : Nat} {ns : List Int} {Q : ae → List ah → Prop} (he : 1 ≤ e) (hl : ns.length ≤ 1000000) (k : ∀ (A : List ae) (pool : List Int),pool.length ≤ 240 → Q (.mref 2) [.lst A,.gone,.lst (pool.map .int)]) : W (sem e .f_law_pool [.lst (ns.map .int)]) [] Q:=by
 obtain ⟨d,rfl⟩ : ∃ d,e = d + 1:=⟨e - 1,(oJ he)⟩
 rw [uc]
 refine bK (loc0:=[some (.lst (ns.map .int)),none,none,none,none]) (by simp) rfl ?_
 unfold f8
 refine aB (aO (cU (av ?_)))
 refine ⟨rfl,?_⟩
 have e1 : W (aD (nz 60 (af 0)) [some (.lst (ns.map .int)),some (.mref 0),none,none,none]) [.lst []] (fun a M1=>a = .lst ((ns.take 60).map .int) ∧ M1 = [.lst [],.gone]):=by
  refine lW ?_
  unfold nz
  refine wJ (ao (v:=.lst (ns.map .int)) rfl ?_)
  refine ⟨.mref 1,[.lst [],.lst ((ns.map .int).take 60)],?_,1,_,_,rfl,rfl,rfl,?_,rfl⟩
  ·unfold cA
   dsimp only
   rw [bi (by rw [List.length_map]; exact hl),if_pos rfl]
   rfl
  ·rw [List.map_take]
 obtain ⟨_,_,e1,rfl,rfl⟩:=e1
 refine aj (aB (ci ?_))
 refine vd e1 ⟨_,rfl,?_⟩
 have l60 : (ns.take 60).length ≤ 60:=List.length_take_le ..
 refine nZ _ (ns.take 60) [] none none none (by simp; exact HZ hl) fun fs c y z h=>?_
 rw [List.length_nil] at h
 have e2 : W (nz 240 (af 1) [some (.lst (ns.map .int)),some (.mref 0),c,y,z]) [.lst (fs.map .int),.gone] (fun a M1=>a = .mref 2 ∧ M1 = [.lst (fs.map .int),.gone,.lst ((fs.take 240).map .int)]):=by
  unfold nz
  refine wJ (ao (v:=.mref 0) rfl ?_)
  refine ⟨.mref 2,[.lst (fs.map .int),.gone,.lst ((fs.map .int).take 240)],?_,rfl,by rw [List.map_take]⟩
  unfold cA
  dsimp only [List.getElem?_cons_zero]
  rw [bi (by rw [List.length_map]; exact Ka l60 h),if_pos rfl]
  rfl
 obtain ⟨_,_,e2,rfl,rfl⟩:=e2
 refine aj (aB (aO (gm e2 (aj (aB (bu (cq (ao (v:=.mref 2) rfl ?_))))))))
 refine ⟨2,_,rfl,rfl,?_⟩
 refine av ?_
 have l240 : (fs.take 240).length ≤ 240:=List.length_take_le ..
 have e3 : iB [.mref 2] [.lst (fs.map .int),.gone,.lst ((fs.take 240).map .int)] = some (.none,[.lst (fs.map .int),.gone,.lst ((fs.take 240).reverse.map .int)]):=by
  unfold iB
  dsimp only [List.getElem?_cons_zero,List.getElem?_cons_succ]
  rw [bi (by rw [List.length_map]; exact Fe l240),if_pos rfl,List.map_reverse]
  rfl
 refine gm e3 (aj (a8 (ao (v:=.mref 2) rfl (aF ?_))))
 exact k _ _ (by rw [List.length_reverse]; exact l240)
end Mine
end
section
open PySem PySem.W PySem.Spec PySem.Calls PySem.SeqAt PyProof.Rows
namespace Mine
theorem DQ (A : List ae) (pool : List Int) (S : ae) : (au (mO (sem 199)) (au (mS (sem 199)) (au (mI (sem 199)) (au (mW (sem 199)) (au (m5 (sem 199)) (au (mU (sem 199)) (au (mF (sem 199)) (au (mN (sem 199)) (au (mG (sem 199)) (au (jW (sem 199)) (au (jM (sem 199)) (au (kJ (sem 199)) (kj (sem 199))))))))))))))
  [some S,some (.mref 2),none,none,none,none,none,none,none,none,none,none,none,none,none,none] [.lst A,.gone,.lst (pool.map .int)] =
 some ((.next,[some S,some (.mref 2),some (.mref 3),some (.mref 34),some (.int 3),some dH,some (.mref 43),some (.mref 46),some (.mref 48),none,none,none,none,none,some (.mref 38),none]),H A pool 0 14 (gl (.lst []) .none .none) []):=by kernel_rfl
noncomputable def qd (p : Int) : ae:=ndV "const" p dJ [] (.int 1)
noncomputable def oR : ae:=ndV "assign" 0 .none [vaV 1 3,qd 0] .none
noncomputable def fG : ae:=ndV "block" 0 .none [oR] .none
section
variable {M X : List ah} {d : Nat}
theorem hF {x y : ah} : (M ++ x :: y :: X)[M.length + 1]? = some y:=by
 rw [List.getElem?_append_right (o97)]; simp
theorem vW {x y z : ah} : (M ++ x :: y :: X).set (M.length + 1) z = M ++ x :: z :: X:=by
 rw [List.set_append_right _ _ (o97)]; simp
theorem AW {x : ah} : (M ++ [x]).length = M.length + 1:=by simp
theorem w6 {x : ah} {vs : List ae} {v : ae} {Q : ae → List ah → Prop} (hs : bV vs.length = true) : W (be [.mref (M.length + 1),v]) (M ++ x :: .lst vs :: X) Q ↔ Q .none (M ++ x :: .lst (vs ++ [v]) :: X):=by
 refine bJ ?_
 unfold be
 dsimp only
 rw [hF]
 dsimp only
 rw [hs,if_pos rfl,vW]
theorem pF {x : ah} {vs : List ae} {v : ae} {Q : ae → List ah → Prop} (hs : bV vs.length = true) (xx : Q .none (M ++ x :: .lst (vs ++ [v]) :: X)) : W (be [.mref (M.length + 1),v]) (M ++ x :: .lst vs :: X) Q:=(w6 (x:=x) (vs:=vs) (v:=v) (Q:=Q) (hs:=hs)).mpr xx
theorem yw {x : ah} {vs : List ae} {v : ae} {Q : ae → List ah → Prop} (hs : vs.length ≤ 1000) : W (lq [.mref (M.length + 1)]) (M ++ x :: .lst (vs ++ [v]) :: X) Q ↔ Q v (M ++ x :: .lst vs :: X):=by
 refine bJ ?_
 unfold lq
 dsimp only
 rw [hF]
 dsimp only
 rw [bi (by rw [List.length_append,List.length_singleton]; exact DV hs),if_pos rfl,List.getLast?_append]
 simp only [List.getLast?_singleton,Option.some_or,List.dropLast_concat]
 rw [vW]
theorem DO {x : ah} {vs : List ae} {v : ae} {Q : ae → List ah → Prop} (hs : vs.length ≤ 1000) (xx : Q v (M ++ x :: .lst vs :: X)) : W (lq [.mref (M.length + 1)]) (M ++ x :: .lst (vs ++ [v]) :: X) Q:=(yw (x:=x) (vs:=vs) (v:=v) (Q:=Q) (hs:=hs)).mpr xx
theorem D0 {x : ah} {vs : List ae} {Q : ae → List ah → Prop} (hs : vs.length ≤ 1000) : W (ff [.mref (M.length + 1)]) (M ++ x :: .lst vs :: X) Q ↔ Q (.int (vs.length : Int)) (M ++ x :: .lst vs :: X):=by
 refine bJ ?_
 unfold ff cA
 dsimp only
 rw [hF]
 dsimp only
 rw [bi (Ct hs),if_pos rfl]
theorem nH {x : ah} {vs : List ae} {Q : ae → List ah → Prop} (hs : vs.length ≤ 1000) (xx : Q (.int (vs.length : Int)) (M ++ x :: .lst vs :: X)) : W (ff [.mref (M.length + 1)]) (M ++ x :: .lst vs :: X) Q:=(D0 (x:=x) (vs:=vs) (Q:=Q) (hs:=hs)).mpr xx
theorem xF {i : Nat} {l : Loc → Mo ae} {m : Loc → Mo (Fl × Loc)} {loc : Loc} {vs : List ae} {Q : Fl × Loc → List ah → Prop} (h : W (l loc) M fun a M1=>a = .lst vs ∧ M1 = M) : W (jg i l m loc) M Q ↔ W (dY i m vs.reverse loc) M Q:=by
 obtain ⟨a,M1,e,rfl,rfl⟩:=h
 unfold jg
 rw [ca,bJ e]
theorem xQ {i : Nat} {l : Loc → Mo ae} {m : Loc → Mo (Fl × Loc)} {loc : Loc} {vs : List ae} {Q : Fl × Loc → List ah → Prop} (h : W (l loc) M fun a M1=>a = .lst vs ∧ M1 = M) (xx : W (dY i m vs.reverse loc) M Q) : W (jg i l m loc) M Q:=(xF (i:=i) (l:=l) (m:=m) (loc:=loc) (vs:=vs) (Q:=Q) (h:=h)).mpr xx
theorem pK (a : ae) (one : ae) (fs : List ae) {Q : Fl × Loc → List ah → Prop} : ∀ (ks ws : List ae) (z : Option ae),(∀ x ∈ ks,eA x = false) → ws.length + ks.length ≤ 1000 →
  (∀ z,Q (.next,[some a,some (.mref M.length),some (.mref (M.length + 1)),some one,z]) (M ++ .lst fs :: .lst (ws ++ ks) :: X)) →
  W (dY 4 (sIf (a6 (aE iL (af 4) (ar .none))) (bw (bG be (af 2) (ab (af 4) am))) bE) ks [some a,some (.mref M.length),some (.mref (M.length + 1)),some one,z]) (M ++ .lst fs :: .lst ws :: X) Q
 | [],ws,z,hn,hl,k=>by rw [gc]; have:=k z; rw [List.append_nil] at this; exact this
 | x :: ks,ws,z,hn,hl,k=>by
  rw [List.length_cons] at hl
  refine aY (cG (bM (aU (ao (v:=x) rfl (aR (gm (a:=.bool (!eA x)) rfl (b9 ?_)))))))
  rw [hn x List.mem_cons_self,Bool.not_false]
  refine ifp rfl (bu (cq (ao (v:=.mref (M.length + 1)) rfl ?_)))
  refine ⟨_,_,rfl,hF,?_⟩
  refine wr rfl (pF (bi (EJ hl)) ?_)
  refine pK a one fs ks (ws ++ [x]) _ (fun y hy=>hn y (List.mem_cons_of_mem _ hy)) (by rw [List.length_append,List.length_singleton]; exact Fp hl) fun z=>?_
  have:=k z
  rw [List.append_assoc]
  exact this
noncomputable def Bq : Loc → Mo (Fl × Loc):=au (a7 3 (bG lq (af 2) am)) (au (bw (bG be (af 1) (ab (af 3) am))) (jg 4 (aS (aK "kids") (af 3)) (sIf (a6 (aE iL (af 4) (ar .none))) (bw (bG be (af 2) (ab (af 4) am))) bE)))
noncomputable def yT : Loc → Mo Bool:=a6 (aE oGt (aq ff (ab (af 2) am)) (ar (.int 0)))
theorem je {n : Nat} (a : ae) {op : Str} {p : Int} {ty val : ae} {ks fs ws : List ae} {z y : Option ae} (hn : ∀ x ∈ ks,eA x = false) (hl : fs.length + ws.length + ks.length ≤ 900) {Q : Fl × Loc → List ah → Prop}
  (k : ∀ z y,W (dC yT Bq n [some a,some (.mref M.length),some (.mref (M.length + 1)),z,y]) (M ++ .lst (fs ++ [ndV op p ty ks val]) :: .lst (ws ++ ks.reverse) :: X) Q) :
  W (dC yT Bq (n + 1) [some a,some (.mref M.length),some (.mref (M.length + 1)),z,y]) (M ++ .lst fs :: .lst (ws ++ [ndV op p ty ks val]) :: X) Q:=by
 generalize hnd : ndV op p ty ks val = nd at k ⊢
 have gk : ∀ (M : List ah) (Q : ae → List ah → Prop),W (aK "kids" nd) M Q ↔ Q (.lst ks) M:=fun M Q=>by subst hnd; exact ee
 refine hH ?_
 unfold yT
 refine bM (aU (aA (ag (ao (v:=.mref (M.length + 1)) rfl (av (nH (by rw [List.length_append,List.length_singleton]; exact JD hl) (aR (w9 (b9 (ifp (by rw [decide_eq_true_eq,List.length_append,List.length_singleton]; exact Je) ?_))))))))))
 unfold Bq
 refine aB (aO (cq (ao (v:=.mref (M.length + 1)) rfl ?_)))
 refine ⟨_,_,rfl,hF,?_⟩
 refine av (DO (Ir hl) (aj (aB (bu (cq (ao (v:=.mref M.length) rfl ?_))))))
 refine ⟨_,_,rfl,eD,?_⟩
 refine wr rfl (lp (bi (Jg hl)) (aj (xQ (vs:=ks) (by rw [dN,bU (v:=nd) rfl,gk]; exact ⟨rfl,rfl⟩) ?_)))
 refine pK a nd _ ks.reverse ws y (fun x hx=>hn x (List.mem_reverse.mp hx)) (by rw [List.length_reverse]; exact HO hl) fun z=>?_
 exact k _ _
theorem ph {n : Nat} (a : ae) {fs : List ae} {z y : Option ae} {Q : Fl × Loc → List ah → Prop}
  (k : Q (.next,[some a,some (.mref M.length),some (.mref (M.length + 1)),z,y]) (M ++ .lst fs :: .lst [] :: X)) :
  W (dC yT Bq (n + 1) [some a,some (.mref M.length),some (.mref (M.length + 1)),z,y]) (M ++ .lst fs :: .lst [] :: X) Q:=by
 refine hH ?_
 unfold yT
 refine bM (aU (aA (ag (ao (v:=.mref (M.length + 1)) rfl (av (nH (by simp) (aR (w9 (b9 (ifn (by simp) ?_))))))))))
 exact k
theorem Bg {x y : ah} : M ++ [x] ++ [y] = M ++ x :: y :: []:=by simp
theorem uh {e : Nat} (he : 1 ≤ e) {Q : ae → List ah → Prop} (k : Q (.mref M.length) (M ++ .lst [] :: .lst [] :: [])) : W (sem e .f_nodes_of [.none]) M Q:=by
 obtain ⟨d,rfl⟩ : ∃ d,e = d + 1:=⟨e - 1,(oJ he)⟩
 rw [nG]
 refine bK (loc0:=[some .none,none,none,none,none]) (by simp) rfl ?_
 unfold fh
 refine aB (aO (cU (av ?_)))
 refine ⟨rfl,?_⟩
 refine aj (aB (aO (cU (av ?_))))
 refine ⟨rfl,?_⟩
 rw [AW,Bg]
 refine aj (aB (cG (bM (aU (ao (v:=.none) rfl (aR (gm (a:=.bool false) rfl (b9 (ifn (by decide) (cB (aj (aB ?_))))))))))))
 refine ph .none ?_
 refine aj (a8 (ao (v:=.mref M.length) rfl (aF ?_)))
 exact k
theorem uH {e : Nat} (he : 1 ≤ e) {Q : ae → List ah → Prop} (k : Q (.mref M.length) (M ++ .lst [fG,oR,vaV 1 3,qd 0] :: .lst [] :: [])) : W (sem e .f_nodes_of [fG]) M Q:=by
 obtain ⟨d,rfl⟩ : ∃ d,e = d + 1:=⟨e - 1,(oJ he)⟩
 rw [nG]
 refine bK (loc0:=[some fG,none,none,none,none]) (by simp) rfl ?_
 unfold fh
 refine aB (aO (cU (av ?_)))
 refine ⟨rfl,?_⟩
 refine aj (aB (aO (cU (av ?_))))
 refine ⟨rfl,?_⟩
 rw [AW,Bg]
 refine aj (aB (cG (bM (aU (ao (v:=fG) rfl (aR (gm (a:=.bool true) rfl (b9 (ifp rfl (bu (cq (ao (v:=.mref (M.length + 1)) rfl ?_))))))))))))
 refine ⟨_,_,rfl,hF,?_⟩
 refine wr rfl (pF rfl (aj (aB ?_)))
 refine je fG (fs:=[]) (ws:=[]) (ks:=[oR]) (by simp [eA,oR,ndV]) (by simp) fun z y=>?_
 refine je fG (fs:=[fG]) (ws:=[]) (ks:=[vaV 1 3,qd 0]) (by simp [eA,vaV,qd,ndV]) (by simp) fun z y=>?_
 refine je fG (fs:=[fG,oR]) (ws:=[qd 0]) (ks:=[]) (by simp) (by simp) fun z y=>?_
 refine je fG (fs:=[fG,oR,vaV 1 3]) (ws:=[]) (ks:=[]) (by simp) (by simp) fun z y=>?_
 refine ph fG ?_
 refine aj (a8 (ao (v:=.mref M.length) rfl (aF ?_)))
 exact k
end
end Mine
end
section
open PySem PySem.W PySem.Spec PySem.Calls PySem.SeqAt PyProof.Rows
namespace Mine
noncomputable def Fh (o : Nat) : ah:=.inst 60 [("obj",.mref o),("params",.lst []),("locals",.lst []),("procs",.lst []),("body",fG),("result",.none),("level",.int 2)]
noncomputable def qV (inn : Bool) : List ae:=if inn then [fG,oR,vaV 1 3,qd 0] else []
noncomputable def awI (inn : Bool) : List (Int × ae):=if inn then [(3,.bool true)] else []
noncomputable def tI (inn : Bool) : Fin 16:=if inn then 7 else 15
noncomputable def slD (T : Fin 16) : List (Int × ae):=(([0,1,2,3] : List (Fin 4)).filter (bW T)).map fun s=>((s.val : Int),c9 s)
structure dm (M : List ah) (inn : Bool) (body result : ae) : Prop where
 tree : ∃ procs,M[48]? = some (gl procs body result) ∧ ((inn = false ∧ procs = .lst []) ∨ (inn = true ∧ ∃ k o,procs = .lst [.mref k] ∧ M[k]? = some (Fh o)))
theorem dm.pre {M X : List ah} {inn : Bool} {bd rs : ae} (t : dm M inn bd rs) : dm (M ++ X) inn bd rs:=by
 obtain ⟨procs,h1,h2⟩:=t.tree
 refine ⟨procs,eg h1,h2.imp id fun ⟨e,k,o,e1,e2⟩=>⟨e,k,o,e1,eg e2⟩⟩
section
variable {M X : List ah} {d : Nat} {inn : Bool} {bd rs : ae}
theorem dm.level (t : dm M inn bd rs) {Q : ae → List ah → Prop} : W (aK "level" (.mref 48)) M Q ↔ Q (.int 1) M:=by
 obtain ⟨procs,h1,h2⟩:=t.tree
 exact jx h1 rfl rfl
theorem dm.body (t : dm M inn bd rs) {Q : ae → List ah → Prop} : W (aK "body" (.mref 48)) M Q ↔ Q bd M:=by
 obtain ⟨procs,h1,h2⟩:=t.tree
 exact jx h1 rfl rfl
theorem dm.result (t : dm M inn bd rs) {Q : ae → List ah → Prop} : W (aK "result" (.mref 48)) M Q ↔ Q rs M:=by
 obtain ⟨procs,h1,h2⟩:=t.tree
 exact jx h1 rfl rfl
theorem dm.locals (t : dm M inn bd rs) {Q : ae → List ah → Prop} : W (aK "locals" (.mref 48)) M Q ↔ Q (.lst v0) M:=by
 obtain ⟨procs,h1,h2⟩:=t.tree
 exact jx h1 rfl rfl
theorem Ef {vs us : List ae} {Q : ae → List ah → Prop} (hs : vs.length + us.length ≤ 1000) : W (eY [.mref M.length,.lst us]) (M ++ .lst vs :: X) Q ↔ Q .none (M ++ .lst (vs ++ us) :: X):=by
 refine bJ ?_
 unfold eY
 dsimp only
 rw [eD]
 dsimp only
 rw [bi (FF hs),if_pos rfl,jm]
theorem AK {vs us : List ae} {Q : ae → List ah → Prop} (hs : vs.length + us.length ≤ 1000) (xx : Q .none (M ++ .lst (vs ++ us) :: X)) : W (eY [.mref M.length,.lst us]) (M ++ .lst vs :: X) Q:=(Ef (vs:=vs) (us:=us) (Q:=Q) (hs:=hs)).mpr xx
theorem El {x : ah} {vs us : List ae} {Q : ae → List ah → Prop} (hs : vs.length + us.length ≤ 1000) : W (eY [.mref (M.length + 1),.lst us]) (M ++ x :: .lst vs :: X) Q ↔ Q .none (M ++ x :: .lst (vs ++ us) :: X):=by
 refine bJ ?_
 unfold eY
 dsimp only
 rw [hF]
 dsimp only
 rw [bi (FF hs),if_pos rfl,vW]
theorem DZ {x : ah} {vs us : List ae} {Q : ae → List ah → Prop} (hs : vs.length + us.length ≤ 1000) (xx : Q .none (M ++ x :: .lst (vs ++ us) :: X)) : W (eY [.mref (M.length + 1),.lst us]) (M ++ x :: .lst vs :: X) Q:=(El (x:=x) (vs:=vs) (us:=us) (Q:=Q) (hs:=hs)).mpr xx
theorem AE {x : ah} {v : ae} {Q : ae → List ah → Prop} : W (lq [.mref (M.length + 1)]) (M ++ x :: .lst [v] :: X) Q ↔ Q v (M ++ x :: .lst [] :: X):=yw (vs:=[]) (by simp)
theorem zQ {x : ah} {v : ae} {Q : ae → List ah → Prop} (xx : Q v (M ++ x :: .lst [] :: X)) : W (lq [.mref (M.length + 1)]) (M ++ x :: .lst [v] :: X) Q:=(AE (x:=x) (v:=v) (Q:=Q)).mpr xx
theorem zY {vs : List ae} (h : vs.length ≤ 1000) {Q : ae → List ah → Prop} : W (ni [.lst vs]) M Q ↔ Q (.mref M.length) (M ++ [.lst vs]):=by
 refine bJ ?_
 unfold ni cA
 dsimp only
 rw [bi (Ct h),if_pos rfl]; rfl
theorem tf {vs : List ae} (h : vs.length ≤ 1000) {Q : ae → List ah → Prop} (xx : Q (.mref M.length) (M ++ [.lst vs])) : W (ni [.lst vs]) M Q:=(zY (vs:=vs) (h:=h) (Q:=Q)).mpr xx
theorem r7 {e : Nat} (he : 2 ≤ e) (t : dm M inn bd rs) {Q : ae → List ah → Prop} (k : ∀ X,Q (.mref M.length) (M ++ .lst (qV inn) :: X)) : W (sem e .f_inner_nodes [.mref 48]) M Q:=by
 obtain ⟨d,rfl⟩ : ∃ d,e = d + 1:=⟨e - 1,(BU he)⟩
 obtain ⟨procs,h1,h2⟩:=t.tree
 rw [oA]
 refine bK (loc0:=[some (.mref 48),none,none,none]) (by simp) rfl ?_
 unfold d7
 refine aB (aO (cU (av ?_)))
 refine ⟨rfl,?_⟩
 refine aj (aB (aO (aA (ag (ba (ao (v:=.mref 48) rfl (iC (eg h1) rfl (v:=procs) rfl (av ?_))))))))
 rcases h2 with ⟨rfl,rfl⟩ | ⟨rfl,k',o,rfl,hk⟩
 ·refine tf (by simp) ?_
  rw [AW,Bg]
  refine aj (aB (hH (bM (aU (aA (ag (ao (v:=.mref (M.length + 1)) rfl (av (nH (by simp) (aR (w9 (b9 (ifn (by simp) (aj (a8 (ao (v:=.mref M.length) rfl (aF ?_)))))))))))))))))
  exact k _
 ·refine tf (by simp) ?_
  rw [AW,Bg]
  refine aj (aB (hH (bM (aU (aA (ag (ao (v:=.mref (M.length + 1)) rfl (av (nH (by simp) (aR (w9 (b9 (ifp (by simp) (aB (aO (cq (ao (v:=.mref (M.length + 1)) rfl ?_)))))))))))))))))
  refine ⟨_,_,rfl,hF,?_⟩
  refine av (zQ (aj (aB (bu (cq (ao (v:=.mref M.length) rfl ?_))))))
  refine ⟨_,_,rfl,eD,?_⟩
  refine ag (lW (aA (ag (ba (ao (v:=.mref k') rfl (iC (eg hk) rfl (v:=fG) rfl (av ?_)))))))
  refine uH (zT he) ⟨_,_,_,rfl,eD,rfl,?_⟩
  rw [jm]
  refine av ?_
  rw [List.append_assoc,List.cons_append,List.cons_append,List.nil_append]
  refine AK (by simp) (aj (aB (bu (cq (ao (v:=.mref M.length) rfl ?_)))))
  refine ⟨_,_,rfl,eD,?_⟩
  refine ag (lW (aA (ag (ba (ao (v:=.mref k') rfl (iC (eg hk) rfl (v:=.none) rfl (av ?_)))))))
  refine uh (zT he) ⟨_,_,_,rfl,eD,rfl,?_⟩
  rw [jm]
  refine av ?_
  rw [List.append_assoc,List.cons_append,List.cons_append]
  refine AK (by simp) (aj (bu (cq (ao (v:=.mref (M.length + 1)) rfl ?_))))
  refine ⟨_,_,rfl,hF,?_⟩
  refine ag (ba (ao (v:=.mref k') rfl (iC (eg hk) rfl (v:=.lst []) rfl (av (DZ (by simp) ?_)))))
  dsimp only
  refine hH (bM (aU (aA (ag (ao (v:=.mref (M.length + 1)) rfl (av (nH (by simp) (aR (w9 (b9 (ifn (by simp) (aj (a8 (ao (v:=.mref M.length) rfl (aF ?_)))))))))))))))
  exact k _
theorem DS {kvs : List (Int × ae)} {x : Int} {v : ae} {Q : Unit → List ah → Prop} (h : kvs.length ≤ 1000) : W (fK (.mref M.length) (.int x) v) (M ++ .idict kvs :: X) Q ↔ Q () (M ++ .idict (jE kvs x v) :: X):=by
 refine bJ ?_
 unfold fK
 dsimp only
 rw [eD]
 dsimp only
 rw [bi (Ct h),if_pos rfl,jm]
theorem zj {kvs : List (Int × ae)} {x : Int} {v : ae} {Q : Unit → List ah → Prop} (h : kvs.length ≤ 1000) (xx : Q () (M ++ .idict (jE kvs x v) :: X)) : W (fK (.mref M.length) (.int x) v) (M ++ .idict kvs :: X) Q:=(DS (kvs:=kvs) (x:=x) (v:=v) (Q:=Q) (h:=h)).mpr xx
theorem yQ {e : Nat} (he : 1 ≤ e) {Q : ae → List ah → Prop} : W (sem e .f_is_scalar [dJ]) M Q ↔ Q (.bool true) M:=by
 obtain ⟨d,rfl⟩ : ∃ d,e = d + 1:=⟨e - 1,(oJ he)⟩
 exact bJ (by kernel_rfl)
theorem zH {e : Nat} (he : 1 ≤ e) {Q : ae → List ah → Prop} (xx : Q (.bool true) M) : W (sem e .f_is_scalar [dJ]) M Q:=(yQ (e:=e) (he:=he) (Q:=Q)).mpr xx
theorem zK {s : Fin 4} {Q : ae → List ah → Prop} : W (aK "type" (c9 s)) M Q ↔ Q dJ M:=bJ (by kernel_rfl)
theorem F3 {s : Fin 4} {Q : ae → List ah → Prop} (xx : Q dJ M) : W (aK "type" (c9 s)) M Q:=(zK (s:=s) (Q:=Q)).mpr xx
noncomputable def CS (c : Fn → List ae → Mo ae) : Loc → Mo (Fl × Loc):=sIf (kM (a6 (aq (c .f_is_scalar) (ab (aS (aK "type") (af 4)) am))) (a6 (aE dA (aS (aK "slot") (af 4)) (af 1)))) (gP fK (af 3) (aS (aK "slot") (af 4)) (af 4)) bE
theorem jZ {P : List ah} {aw : List (Int × ae)} {kvs : List (Int × ae)} {a : ae} {ai : Nat} {y : Option ae} {s : Fin 4} (hd : 1 ≤ d) (haw : P[ai]? = some (.idict aw)) (hk : kvs.length ≤ 1000) {Q : Fl × Loc → List ah → Prop}
  (k : Q (.next,[some a,some (.mref ai),y,some (.mref P.length),some (c9 s)]) (P ++ [.idict (if (aw.lookup (s.val : Int)).isSome then kvs else jE kvs (s.val : Int) (c9 s))])) :
  W (CS (sem d) [some a,some (.mref ai),y,some (.mref P.length),some (c9 s)]) (P ++ [.idict kvs]) Q:=by
 unfold CS
 have e1 : dA (.int (s.val : Int)) (.mref ai) (P ++ [.idict kvs]) = some (.bool (!(aw.lookup (s.val : Int)).isSome),P ++ [.idict kvs]):=by
  unfold dA iS
  dsimp only
  rw [eg haw]; rfl
 refine cG (h8 (bM (aA (wr rfl (zH hd (b9 (ifp rfl (bM (aU (wr rfl (ao (v:=.mref ai) rfl (gm e1 (b9 ?_)))))))))))))
 cases hc : (aw.lookup (s.val : Int)).isSome with
 | true=>
  rw [hc,if_pos rfl] at k
  rw [Bool.not_true]
  refine ifn (by decide) (cB ?_)
  exact k
 | false=>
  rw [hc,if_neg (by decide)] at k
  rw [Bool.not_false]
  refine ifp rfl (mX (ao (v:=c9 s) rfl (ao (v:=.mref P.length) rfl (wr rfl (zj hk ?_)))))
  exact k
theorem xf {s : Fin 4} {Q : ae → List ah → Prop} : W (aK "level" (c9 s)) M Q ↔ Q (.int 1) M:=oq
theorem Eu {s : Fin 4} {Q : ae → List ah → Prop} (xx : Q (.int 1) M) : W (aK "level" (c9 s)) M Q:=(xf (s:=s) (Q:=Q)).mpr xx
theorem Az {e : Nat} (he : 3 ≤ e) (t : dm M inn bd rs) {Q : ae → List ah → Prop} (k : ∀ X sl,M.length ≤ sl → (M ++ X)[sl]? = some (.idict (slD (tI inn))) → Q (.mref sl) (M ++ X)) : W (sem e .f_followed [.mref 48]) M Q:=by
 obtain ⟨d,rfl⟩ : ∃ d,e = d + 1:=⟨e - 1,(Ha he)⟩
 rw [t7]
 refine bK (loc0:=[some (.mref 48),none,none,none,none]) (by simp) rfl ?_
 unfold gd
 refine aB (aO (gm (a:=.mref M.length) (M':=M ++ [.idict []]) rfl (aj (aB (ci (lW (aA (wr rfl ?_))))))))
 refine r7 (Km he) (t.pre (X:=[.idict []])) fun X=>⟨_,_,_,rfl,eD,rfl,_,rfl,?_⟩
 rw [jm,List.append_assoc,List.cons_append,List.nil_append]
 have aw : W (dY 2 (sIf (kM (a6 (aE oEq (aS (aK "op") (af 2)) (ar (.str "var")))) (a6 (aE oEq (aS (aK "level") (aS (aK "value") (af 2))) (aS (aK "level") (af 0))))) (gP fK (af 1) (aS (aK "slot") (aS (aK "value") (af 2))) (ar (.bool true))) bE) (qV inn) ([some (.mref 48),none,none,none,none].set 1 (some (.mref M.length)))) (M ++ .idict [] :: .gone :: X) (fun r M1=>∃ z,r = (.next,[some (.mref 48),some (.mref M.length),z,none,none]) ∧ M1 = M ++ .idict (awI inn) :: .gone :: X):=by
  cases inn with
  | false=>
   unfold qV awI
   simp only [Bool.false_eq_true,if_false]
   refine bN ?_
   exact ⟨_,rfl,rfl⟩
  | true=>
   unfold qV awI
   simp only [if_true]
   refine aY (cG (h8 (bM (aU (ba (ao (v:=fG) rfl ?_))))))
   rw [show fG = .inst 32 (ndF "block" (.int 0) .none (.lst [oR]) .none) from rfl]
   refine n6 (aR (ip (b9 (ifn (by decide) (ifn (by decide) (cB ?_))))))
   dsimp only
   refine aY (cG (h8 (bM (aU (ba (ao (v:=oR) rfl ?_))))))
   rw [show oR = .inst 32 (ndF "assign" (.int 0) .none (.lst [vaV 1 3,qd 0]) .none) from rfl]
   refine n6 (aR (ip (b9 (ifn (by decide) (ifn (by decide) (cB ?_))))))
   dsimp only
   refine aY (cG (h8 (bM (aU (ba (ao (v:=vaV 1 3) rfl ?_))))))
   rw [show vaV 1 3 = .inst 32 (ndF "var" (.int 1) dJ (.lst []) (c9 3)) from rfl]
   refine n6 (aR (ip (b9 (ifp (by decide) (bM (aU (wr rfl (ba (ao (v:=.mref 48) rfl ?_)))))))))
   rw [t.pre.level]
   refine eW (b9 (ifp (by decide) (mX (aR (ao (v:=.mref M.length) rfl (wr rfl (zj (by simp) ?_)))))))
   dsimp only
   refine aY (cG (h8 (bM (aU (ba (ao (v:=qd 0) rfl ?_))))))
   rw [show qd 0 = .inst 32 (ndF "const" (.int 0) dJ (.lst []) (.int 1)) from rfl]
   refine n6 (aR (ip (b9 (ifn (by decide) (ifn (by decide) (cB ?_))))))
   dsimp only
   refine bN ?_
   exact ⟨_,rfl,rfl⟩
 refine b8 aw ?_
 rintro _ _ ⟨z,rfl,rfl⟩
 refine aj (aB (aO (gm (a:=.mref (M ++ .idict (awI inn) :: .gone :: X).length) (M':=(M ++ .idict (awI inn) :: .gone :: X) ++ [.idict []]) rfl (aj (aB (ci (ba (ao (v:=.mref 48) rfl ?_))))))))
 rw [(t.pre.pre (X:=[.idict []])).locals]
 refine ⟨_,rfl,?_⟩
 generalize hP : M ++ .idict (awI inn) :: .gone :: X = P
 have haw : P[M.length]? = some (.idict (awI inn)):=by rw [← hP]; exact eD
 have h1 : 1 ≤ d:=Kr he
 unfold v0
 refine aY ?_
 refine jZ (d:=d) h1 haw (by simp) ?_
 dsimp only
 refine aY ?_
 refine jZ (d:=d) h1 haw (by cases inn <;> simp [awI,jE]) ?_
 dsimp only
 refine aY ?_
 refine jZ (d:=d) h1 haw (by cases inn <;> simp [awI,jE]) ?_
 dsimp only
 refine aY ?_
 refine jZ (d:=d) h1 haw (by cases inn <;> simp [awI,jE]) ?_
 dsimp only
 refine bN (aj (a8 (ao (v:=.mref P.length) rfl (aF ?_))))
 rw [← hP,List.append_assoc]
 refine k _ _ ?_ ?_
 ·rw [List.length_append]; exact o58
 ·rw [← List.append_assoc,bH]
  cases inn <;> kernel_rfl
end
end Mine
end
section
open PySem PySem.W PySem.Spec PySem.Calls PySem.SeqAt PyProof.Rows
namespace Mine
noncomputable def kP (p : Int) (s : Fin 4) : ae:=.tup [.int p,.str (nmS s.val)]
theorem BN : ∀ (T : Fin 16) (s : Fin 4),((slD T).lookup (s.val : Int)).isSome = bW T s:=by decide
theorem EW (inn : Bool) (s : Fin 4) (h : bW (tI inn) s = true) : (slD (tI inn)).lookup (s.val : Int) = some (c9 s):=by
 cases inn with
 | true=>
  match s,h with
  | 0,_=>kernel_rfl
  | 1,_=>kernel_rfl
  | 2,_=>kernel_rfl
  | 3,h=>exact absurd h (by decide)
 | false=>
  match s,h with
  | 0,_=>kernel_rfl
  | 1,_=>kernel_rfl
  | 2,_=>kernel_rfl
  | 3,_=>kernel_rfl
theorem lg (f : Fin 4 → ae) (σ : Int → Fin 4) {p : Int} : ∀ (hd : Rd),(∀ q ∈ hd,σ q.1 = q.2) → p ∈ hd.map (·.1) → (hd.map fun q=>(q.1,f q.2)).lookup p = some (f (σ p))
 | [],_,h=>by cases h
 | q :: hd,hσ,h=>by
  rw [List.map_cons,List.lookup_cons]
  by_cases e : p = q.1
  ·subst e
   rw [beq_self_eq_true]
   dsimp only
   rw [hσ q List.mem_cons_self]
  ·rw [beq_eq_false_iff_ne.mpr e]
   refine lg f σ hd (fun q hq=>hσ q (List.mem_cons_of_mem _ hq)) ?_
   rw [List.map_cons,List.mem_cons] at h
   exact h.elim (fun h=>absurd h e) id
section
variable {M X : List ah} {d : Nat} {inn : Bool} {bd rs : ae}
theorem DR {C : Addr} {F : List ae → Mo ae} {as : List ae} {Q : ae → List ah → Prop} (h : W (F (.mref M.length :: as)) (M ++ [.inst C []]) fun v M'=>v = .none ∧ Q (.mref M.length) M') : W (gF C F as) M Q:=by
 obtain ⟨v,M',e,rfl,q⟩:=h
 refine ⟨.mref M.length,M',?_,q⟩
 unfold gF
 rw [e]
theorem BQ {C : Addr} {fs : List (Str × ae)} {x : Str} {v : ae} {Q : Unit → List ah → Prop} (hC : cM.contains C = true) (hl : decide (fs.length ≤ 900) = true) : W (bS x (.mref M.length) v) (M ++ .inst C fs :: X) Q ↔ Q () (M ++ .inst C (jv x v fs) :: X):=by
 refine bJ ?_
 unfold bS
 dsimp only
 rw [eD]
 dsimp only
 rw [hC,Bool.true_and,if_pos hl,jm]
theorem ql {C : Addr} {fs : List (Str × ae)} {x : Str} {v : ae} {Q : Unit → List ah → Prop} (hC : cM.contains C = true) (hl : decide (fs.length ≤ 900) = true) (xx : Q () (M ++ .inst C (jv x v fs) :: X)) : W (bS x (.mref M.length) v) (M ++ .inst C fs :: X) Q:=(BQ (C:=C) (fs:=fs) (x:=x) (v:=v) (Q:=Q) (hC:=hC) (hl:=hl)).mpr xx
theorem yY {e : Nat} (he : 4 ≤ e) (t : dm M inn bd rs) {Q : ae → List ah → Prop} (k : ∀ X sl,FB (M ++ X) M.length sl (tI inn) → (M ++ X)[sl]? = some (.idict (slD (tI inn))) → Q (.mref M.length) (E (M ++ X) [] [])) : W (sem e .Follower [.mref 48]) M Q:=by
 obtain ⟨d,rfl⟩ : ∃ d,e = d + 1:=⟨e - 1,(IX he)⟩
 rw [ui]
 refine DR ?_
 refine bK (loc0:=[some (.mref M.length),some (.mref 48)]) (by simp) rfl ?_
 unfold du
 refine aB (kr (ba (ao (v:=.mref 48) rfl ?_)))
 rw [t.pre.level]
 refine ao (v:=.mref M.length) rfl (ql rfl (by kernel_rfl) (aj (aB (kr (aA (wr rfl ?_))))))
 refine Az (JC he) t.pre fun Y sl hsl hY=>?_
 rw [List.length_append,List.length_singleton] at hsl
 rw [List.append_assoc,List.singleton_append] at hY ⊢
 have swap : ∀ fs : List (Str × ae),(M ++ .inst 116 fs :: Y)[sl]? = some (.idict (slD (tI inn))):=by
  intro fs
  rw [List.getElem?_append_right (Nat.le_of_succ_le hsl)] at hY ⊢
  obtain ⟨m,hm⟩ : ∃ m,sl - M.length = m + 1:=⟨sl - M.length - 1,(IF hsl)⟩
  rw [hm,List.getElem?_cons_succ] at hY ⊢
  exact hY
 refine ao (v:=.mref M.length) rfl (ql rfl (by kernel_rfl) (aj (kr ?_)))
 refine vd (a:=.mref (M ++ .inst 116 (jv "slots" (.mref sl) (jv "level" (.int 1) [])) :: Y).length) (M':=(M ++ .inst 116 (jv "slots" (.mref sl) (jv "level" (.int 1) [])) :: Y) ++ [.idict []]) rfl ?_
 refine ao (v:=.mref M.length) rfl ?_
 rw [List.append_assoc,List.cons_append]
 refine ql rfl (by kernel_rfl) (eE ?_)
 refine ⟨rfl,?_⟩
 generalize hn : (M ++ .inst 116 (jv "slots" (.mref sl) (jv "level" (.int 1) [])) :: Y).length = n
 have hn' : (M ++ Ak M.length sl n :: Y).length = n:=by
  rw [← hn,List.length_append,List.length_append,List.length_cons,List.length_cons]
 have f : FB (M ++ Ak M.length sl n :: Y) M.length sl (tI inn):=by
  refine ⟨?_,slD (tI inn),swap _,BN _⟩
  rw [hn']
  exact eD
 have:=k (Ak M.length sl n :: Y) sl f (swap _)
 unfold E at this
 rw [List.append_assoc] at this
 exact this
theorem m0 : ∀ T : Fin 16,mV 0 T = .int 0:=by
 intro T
 have : ∀ T : Fin 16,((ed 0 T).val : Int) = 0:=by decide
 unfold mV
 rw [this T]
theorem B0 {s : Fin 4} {Q : ae → List ah → Prop} : W (aK "name" (c9 s)) M Q ↔ Q (.str (nmS s.val)) M:=bJ (by kernel_rfl)
theorem wW {s : Fin 4} {Q : ae → List ah → Prop} (xx : Q (.str (nmS s.val)) M) : W (aK "name" (c9 s)) M Q:=(B0 (s:=s) (Q:=Q)).mpr xx
theorem BL {i : Nat} {kvs : List (Int × ae)} {p : Int} {v : ae} {Q : ae → List ah → Prop} (h : M[i]? = some (.idict kvs)) (hl : kvs.lookup p = some v) : W (aV (.mref i) (.int p)) M Q ↔ Q v M:=by
 refine bJ ?_
 unfold aV
 dsimp only
 rw [h]
 dsimp only
 rw [hl]
theorem m6 {i : Nat} {kvs : List (Int × ae)} {p : Int} {v : ae} {Q : ae → List ah → Prop} (h : M[i]? = some (.idict kvs)) (hl : kvs.lookup p = some v) (xx : Q v M) : W (aV (.mref i) (.int p)) M Q:=(BL (i:=i) (kvs:=kvs) (p:=p) (v:=v) (Q:=Q) (h:=h) (hl:=hl)).mpr xx
noncomputable def qJ : Loc → Mo ae:=jA (ab (af 0) (ab (aS (aK "name") (aE aV (aS (aK "slots") (af 1)) (aE aV (aS (aK "found") (af 1)) (af 0)))) am))
theorem n9 {B J : List ah} {hd : Rd} {st sl : Nat} {σ : Int → Fin 4} (f : FB B st sl (tI inn)) (hs : B[sl]? = some (.idict (slD (tI inn)))) (hσ : ∀ q ∈ hd,σ q.1 = q.2 ∧ bW (tI inn) q.2 = true) {Q : List ae → List ah → Prop} : ∀ (ps : List Int) (acc : List ae),(∀ p ∈ ps,p ∈ hd.map (·.1)) →
  Q (acc ++ ps.map fun p=>kP p (σ p)) (E B hd J) → W (eF vC qJ [some (.mref st)] (ps.map .int) acc) (E B hd J) Q
 | [],acc,hp,k=>by
  rw [List.map_nil]
  refine lm ?_
  rw [List.map_nil,List.append_nil] at k
  exact k
 | p :: ps,acc,hp,k=>by
  have h1 : (gD hd).lookup p = some (.int ((σ p).val : Int)):=lg (fun s=>.int (s.val : Int)) σ hd (fun q hq=>(hσ q hq).1) (hp p List.mem_cons_self)
  have h2 : bW (tI inn) (σ p) = true:=by
   obtain ⟨q,hq,rfl⟩:=List.mem_map.mp (hp p List.mem_cons_self)
   rw [(hσ q hq).1]
   exact (hσ q hq).2
  unfold qJ
  rw [List.map_cons]
  refine ie (qt (ifp rfl (so (ag (ao (v:=.int p) rfl (ag (ba (aU (ba (ao (v:=.mref st) rfl (iC f.getSt rfl (v:=.mref sl) rfl (aU (ba (ao (v:=.mref st) rfl (iC f.getSt rfl (v:=.mref B.length) rfl (ao (v:=.int p) rfl (m6 yU h1 (m6 (show (E B hd J)[sl]? = some (.idict (slD (tI inn))) from eg hs) (EW inn _ h2) (wW (av ?_))))))))))))))))))))
  refine ⟨rfl,?_⟩
  refine n9 f hs hσ ps (acc ++ [kP p (σ p)]) (fun q hq=>hp q (List.mem_cons_of_mem _ hq)) ?_
  rw [List.append_assoc]
  exact k
theorem A8 (hd : Rd) : (gD hd).map (·.1) = hd.map (·.1):=by unfold gD; rw [List.map_map]; rfl
theorem BK (hd : Rd) : (fD hd).map (·.1) = hd.map (·.1):=by unfold fD; rw [List.map_map]; rfl
theorem EO {e : Nat} (he : 30 ≤ e) (t : dm M inn bd rs) {F : Den} {r rr R : Rd} (ib : IsB bd F r 3) (hrs : (eA rs = true ∧ rr = []) ∨ (eA rs = false ∧ IsV rs rr 3)) (u : Uni R) (hr : ∀ q ∈ r,q ∈ R) (hrr : ∀ q ∈ rr,q ∈ R) {σ : Int → Fin 4} (hσ : ∀ q ∈ R,σ q.1 = q.2) {Q : ae → List ah → Prop}
  (k : ∀ hd X,Hd R hd → (∀ q,q ∈ hd ↔ (q ∈ (F 0).2 ∨ q ∈ dW (F 0).1 rr) ∧ bW (tI inn) q.2 = true) → Q (.mref (M ++ X).length) (M ++ X ++ [.lst ((gs (hd.map (·.1))).map fun p=>kP p (σ p))])) :
  W (sem e .f_unset_uses [.mref 48]) M Q:=by
 obtain ⟨d,rfl⟩ : ∃ d,e = d + 1:=⟨e - 1,(Jb he)⟩
 rw [qU]
 refine bK (loc0:=[some (.mref 48),none,none]) (by simp) rfl ?_
 unfold eI
 refine aB (aO (aA (wr rfl ?_)))
 refine yY (JT he) t fun X sl f hsl=>?_
 have tE : ∀ hd J,dm (E (M ++ X) hd J) inn bd rs:=fun hd J=>by unfold E; exact t.pre.pre
 refine aj (aB (aO (aA (ag (ao (v:=.mref M.length) rfl (ag (ba (ao (v:=.mref 48) rfl ?_))))))))
 rw [(tE _ _).body]
 refine wr rfl ?_
 rw [← m0 (tI inn)]
 refine Gn 3 _ _ _ ib (IS he) f u hr ⟨fun q hq=>(by cases hq),List.nodup_nil⟩ fun hd1 J1 h1 m1=>?_
 have fin : ∀ hd2 J2,Hd R hd2 → (∀ q,q ∈ hd2 ↔ (q ∈ (F 0).2 ∨ q ∈ dW (F 0).1 rr) ∧ bW (tI inn) q.2 = true) → 
   W (bL (iO [(1, "st")] (aD (aq dQ (ab (aS (aK "found") (af 1)) am))) vC qJ) [some (.mref 48),some (.mref M.length),some (mV (F 0).1 (tI inn))]) (E (M ++ X) hd2 J2) (iN Q):=by
  intro hd2 J2 h2 m2
  have l2:=h2.len u
  have e1 : dQ [.mref (M ++ X).length] (E (M ++ X) hd2 J2) = some (.mref (E (M ++ X) hd2 J2).length,E (M ++ X) hd2 J2 ++ [.lst ((gs (hd2.map (·.1))).map .int)]):=by
   unfold dQ nk
   dsimp only
   rw [yU]
   dsimp only
   rw [A8,bi (by rw [List.length_map]; exact l2),if_pos rfl]
   rfl
  refine a8 (rd (lW (aA (ag (ba (ao (v:=.mref M.length) rfl (iC f.getSt rfl (v:=.mref (M ++ X).length) rfl (av (gm e1 ?_)))))))))
  refine ⟨_,_,_,rfl,bH,rfl,_,rfl,bi (by rw [List.length_map,(ew _).length_eq,List.length_map]; exact l2),?_⟩
  rw [cC,ko,show ([(1,("st" : Str))].map fun q=>(([some (.mref 48),some (.mref M.length),some (mV (F 0).1 (tI inn))] : Loc)[q.1]?).join) = [some (.mref M.length)] from rfl]
  refine n9 f hsl (σ:=σ) (fun q hq=>⟨hσ q (h2.1 q hq),((m2 q).mp hq).2⟩) (gs (hd2.map (·.1))) [] (fun p hp=>(ew _).mem_iff.mp hp) ?_
  rw [List.nil_append]
  refine aF ?_
  have:=k hd2 (X ++ .idict (gD hd2) :: (J2 ++ [.gone])) h2 m2
  unfold E
  rw [← List.append_assoc] at this
  exact this
 refine aj (aB (cG (bM (aU (ba (ao (v:=.mref 48) rfl ?_))))))
 rw [(tE _ _).result]
 refine aR (gm (a:=.bool (!eA rs)) rfl (b9 ?_))
 rcases hrs with ⟨hn,rfl⟩ | ⟨hn,iv⟩
 ·rw [hn,Bool.not_true]
  refine ifn (by decide) (cB (aj ?_))
  refine fin hd1 _ h1 fun q=>?_
  rw [m1 q]
  constructor
  ·rintro (a | a)
   ·cases a
   ·exact ⟨.inl a.1,a.2⟩
  ·rintro ⟨a | a,b⟩
   ·exact .inr ⟨a,b⟩
   ·cases a
 ·rw [hn,Bool.not_false]
  refine ifp rfl (bu (aA (ag (ao (v:=.mref M.length) rfl (ag (ba (ao (v:=.mref 48) rfl ?_)))))))
  rw [(tE _ _).result]
  refine wr rfl ?_
  refine cI iv (IA he) f u hrr h1 fun hd2 h2 m2=>?_
  refine aj ?_
  refine fin hd2 _ h2 fun q=>?_
  rw [m2 q,m1 q]
  constructor
  ·rintro ((a | a) | a)
   ·cases a
   ·exact ⟨.inl a.1,a.2⟩
   ·exact ⟨.inr a.1,a.2⟩
  ·rintro ⟨a | a,b⟩
   ·exact .inl (.inr ⟨a,b⟩)
   ·exact .inr ⟨a,b⟩
end
end Mine
end
section
open PySem PySem.W PySem.Spec PySem.Calls PySem.SeqAt PyProof.Rows
namespace Mine
theorem wL {R hd : Rd} (u : Uni R) (h : Hd R hd) : (hd.map (·.1)).Nodup:=by
 have h1:=h.1
 have h2:=h.2
 clear h
 induction hd with
 | nil=>exact List.nodup_nil
 | cons q hd ih=>
  rw [List.nodup_cons] at h2
  rw [List.map_cons,List.nodup_cons]
  refine ⟨fun hm=>?_,ih (fun x hx=>h1 x (List.mem_cons_of_mem _ hx)) h2.2⟩
  obtain ⟨x,hx,e⟩:=List.mem_map.mp hm
  have:=u.inj (h1 x (List.mem_cons_of_mem _ hx)) (h1 q List.mem_cons_self) e
  rw [← this] at h2
  exact h2.1 hx
theorem A5 {R hd hd' : Rd} {T : Fin 16} {σ : Int → Fin 4} (u : Uni R) (hσ : ∀ q ∈ R,σ q.1 = q.2) (h : Hd R hd) (h' : Hd R hd') (hm : ∀ q,q ∈ hd' ↔ q ∈ hd ∧ bW T q.2 = true) :
  gs (hd'.map (·.1)) = (gs (hd.map (·.1))).filter fun p=>bW T (σ p):=by
 refine sr ?_ ((pg _).filter _)
 rw [List.perm_ext_iff_of_nodup (wL u h') ((((ew _).nodup_iff).mpr (wL u h)).filter _)]
 intro p
 rw [List.mem_filter,(ew _).mem_iff]
 constructor
 ·intro hp
  obtain ⟨q,hq,rfl⟩:=List.mem_map.mp hp
  have:=(hm q).mp hq
  exact ⟨List.mem_map.mpr ⟨q,this.1,rfl⟩,by rw [hσ q (h.1 q this.1)]; exact this.2⟩
 ·rintro ⟨hp,e⟩
  obtain ⟨q,hq,rfl⟩:=List.mem_map.mp hp
  rw [hσ q (h.1 q hq)] at e
  exact List.mem_map.mpr ⟨q,(hm q).mpr ⟨hq,e⟩,rfl⟩
noncomputable def f0 (R : Rd) (p : Int) : Fin 4:=match R.find? fun q=>decide (q.1 = p) with
 | some q=>q.2
 | none=>0
theorem xP {R : Rd} (u : Uni R) : ∀ q ∈ R,f0 R q.1 = q.2:=by
 intro q hq
 unfold f0
 cases hf : R.find? fun x=>decide (x.1 = q.1) with
 | none=>
  have:=List.find?_eq_none.mp hf q hq
  simp at this
 | some x=>
  have h1:=List.find?_some hf
  have h2:=List.mem_of_find?_eq_some hf
  rw [u.inj h2 hq (of_decide_eq_true h1)]
noncomputable def mx (σ : Int → Fin 4) (p : Int) : PyData:=.tuple [.int p,.str (nmS (σ p).val)]
theorem jI (σ : Int → Fin 4) : ∀ ps : List Int,eG (ps.map fun p=>kP p (σ p)) = some (ps.map (mx σ))
 | []=>rfl
 | p :: ps=>by
  rw [List.map_cons,List.map_cons]
  unfold eG
  rw [jI σ ps]
  rfl
theorem rT (σ : Int → Fin 4) : ∀ ps : List Int,PyData.eqvAll (ps.map (mx σ)) (ps.map (mx σ)) = true
 | []=>rfl
 | p :: ps=>by
  rw [List.map_cons,PyData.eqvAll,rT σ ps,Bool.and_true]
  unfold mx
  rw [PyData.eqv,PyData.eqvAll,PyData.eqvAll,PyData.eqvAll,PyData.eqv,PyData.eqv]
  simp
theorem ri (σ : Int → Fin 4) : ∀ ps : List Int,PyData.canLayAll0 (ps.map (mx σ)) = true
 | []=>rfl
 | p :: ps=>by
  rw [List.map_cons]
  unfold PyData.canLayAll0
  rw [ri σ ps,Bool.and_true]
  unfold mx
  generalize σ p = s
  match s with
  | 0=>kernel_rfl
  | 1=>kernel_rfl
  | 2=>kernel_rfl
  | 3=>kernel_rfl
theorem or (σ : Int → Fin 4) : ∀ ps : List Int,PyData.depthAll (ps.map (mx σ)) ≤ 1
 | []=>by rw [List.map_nil]; exact Nat.zero_le _
 | p :: ps=>by
  rw [List.map_cons]
  unfold PyData.depthAll
  have:=or σ ps
  have h1 : (mx σ p).depth ≤ 1:=by
   unfold mx PyData.depth PyData.depthAll PyData.depthAll PyData.depthAll PyData.depth
   decide
  exact Nat.max_le.mpr ⟨h1,this⟩
theorem tQ (σ : Int → Fin 4) (ps : List Int) : shaped (.list (ps.map (mx σ))) = true:=by
 unfold shaped PyData.canLay0 PyData.depth
 rw [ri]
 have:=or σ ps
 simp only [Bool.true_and,decide_eq_true_eq]
 exact Nat.le_trans (Nat.succ_le_succ this) (by decide)
section
variable {M X : List ah} {d : Nat} {inn : Bool}
theorem Jt : ∀ (inn : Bool) (s : Fin 4),(!inn || !decide ((s.val : Int) = 3)) = bW (tI inn) s:=by decide
theorem wV {B J : List ah} {hd : Rd} {σ : Int → Fin 4} {l0 l1 l2 l3 l4 l5 l6 l7 l8 l11 l14 l15 : Option ae} (hl : hd.length ≤ 1000000) (hσ : ∀ q ∈ hd,σ q.1 = q.2) {Q : Fl × Loc → List ah → Prop} : ∀ (ps : List Int) (acc : List Int) (z : Option ae),acc.length + ps.length ≤ 1000000 → (∀ p ∈ ps,p ∈ hd.map (·.1)) →
  (∀ z,Q (.next,[l0,l1,l2,l3,l4,l5,l6,l7,l8,some (.bool inn),some (.mref B.length),l11,some (.mref (D B hd J).length),z,l14,l15]) (D B hd J ++ .lst ((acc ++ ps.filter fun p=>bW (tI inn) (σ p)).map fun p=>kP p (σ p)) :: X)) →
  W (dY 13 (sIf (tOr (sJ (a6 (af 9))) (a6 (aE oNe (aS (aK "slot") (aE aV (af 10) (af 13))) (ar (.int 3))))) (bw (bG be (af 12) (ab (jA (ab (af 13) (ab (aS (aK "name") (aE aV (af 10) (af 13))) am))) am))) bE) (ps.map .int)
   [l0,l1,l2,l3,l4,l5,l6,l7,l8,some (.bool inn),some (.mref B.length),l11,some (.mref (D B hd J).length),z,l14,l15]) (D B hd J ++ .lst (acc.map fun p=>kP p (σ p)) :: X) Q
 | [],acc,z,hn,hp,k=>by
  rw [List.map_nil]
  refine bN ?_
  have:=k z
  rw [List.filter_nil,List.append_nil] at this
  exact this
 | p :: ps,acc,z,hn,hp,k=>by
  rw [List.length_cons] at hn
  have h1 : (fD hd).lookup p = some (c9 (σ p)):=lg c9 σ hd hσ (hp p List.mem_cons_self)
  have h2 : (D B hd J ++ .lst (acc.map fun p=>kP p (σ p)) :: X)[B.length]? = some (.idict (fD hd)):=eg z5
  have cont : W (dY 13 (sIf (tOr (sJ (a6 (af 9))) (a6 (aE oNe (aS (aK "slot") (aE aV (af 10) (af 13))) (ar (.int 3))))) (bw (bG be (af 12) (ab (jA (ab (af 13) (ab (aS (aK "name") (aE aV (af 10) (af 13))) am))) am))) bE) (ps.map .int)
    [l0,l1,l2,l3,l4,l5,l6,l7,l8,some (.bool inn),some (.mref B.length),l11,some (.mref (D B hd J).length),some (.int p),l14,l15]) (D B hd J ++ .lst ((acc ++ [p].filter fun p=>bW (tI inn) (σ p)).map fun p=>kP p (σ p)) :: X) Q:=by
   refine wV hl hσ ps _ _ ?_ (fun x hx=>hp x (List.mem_cons_of_mem _ hx)) fun z=>?_
   ·have:=List.length_filter_le (fun p=>bW (tI inn) (σ p)) [p]
    rw [List.length_singleton] at this
    rw [List.length_append]; exact Nat.le_trans (Nat.le_trans (Nat.add_le_add_right (Nat.add_le_add_left this _) _) (Nat.le_of_eq (Nat.succ_add _ _))) hn
   ·have:=k z
    rw [show p :: ps = [p] ++ ps from rfl,List.filter_append,← List.append_assoc] at this
    exact this
  have test : W (tOr (sJ (a6 (af 9))) (a6 (aE oNe (aS (aK "slot") (aE aV (af 10) (af 13))) (ar (.int 3)))) [l0,l1,l2,l3,l4,l5,l6,l7,l8,some (.bool inn),some (.mref B.length),l11,some (.mref (D B hd J).length),some (.int p),l14,l15]) (D B hd J ++ .lst (acc.map fun p=>kP p (σ p)) :: X) (fun b M1=>b = bW (tI inn) (σ p) ∧ M1 = D B hd J ++ .lst (acc.map fun p=>kP p (σ p)) :: X):=by
   rw [← Jt]
   refine Cy (DM (wr rfl ?_))
   cases inn with
   | false=>exact ⟨rfl,rfl⟩
   | true=>
    rw [Bool.not_true]
    refine ifn (by decide) (bM (aU (ba (aU (ao (v:=.mref B.length) rfl (ao (v:=.int p) rfl (m6 h2 h1 (Ba (aR (BY (b9 ?_)))))))))))
    exact ⟨rfl,rfl⟩
  obtain ⟨b,M1,e1,hb,rfl⟩:=test
  rw [List.map_cons]
  refine aY (cG ?_)
  refine vd e1 ?_
  rw [hb]
  cases hc : bW (tI inn) (σ p) with
  | false=>
   refine ifn (by decide) (cB ?_)
   have c':=cont
   rw [List.filter_cons_of_neg (p:=fun p=>bW (tI inn) (σ p)) (a:=p) (by rw [hc]; decide),List.filter_nil,List.append_nil] at c'
   exact c'
  | true=>
   refine ifp rfl (bu (cq (ao (v:=.mref (D B hd J).length) rfl ?_)))
   refine ⟨_,_,rfl,eD,?_⟩
   refine ag (so (ag (ao (v:=.int p) rfl (ag (ba (aU (ao (v:=.mref B.length) rfl (ao (v:=.int p) rfl (m6 h2 h1 (wW (av ?_)))))))))))
   refine ⟨rfl,?_⟩
   refine av (lp (bi (by rw [List.length_map]; exact J6 hn)) ?_)
   have c':=cont
   rw [List.filter_cons_of_pos (p:=fun p=>bW (tI inn) (σ p)) (a:=p) hc,List.filter_nil,List.map_append] at c'
   exact c'
theorem t4 (a b c : Loc → Mo (Fl × Loc)) : au (au a b) c = au a (au b c):=by
 funext loc M
 unfold au bnd
 dsimp only
 cases a loc M with
 | none=>rfl
 | some r=>
  obtain ⟨⟨f,l⟩,M1⟩:=r
  cases f <;> rfl
noncomputable def J2 (A : List ae) (pool : List Int) (S : ae) : List ah:=match jN (sem 199) [some S,some (.mref 2),some (.mref 3),some (.mref 34),some (.int 3),some dH,some (.mref 43),some (.mref 46),some (.mref 48),some (.bool true),none,none,none,none,some (.mref 38),none] (H A pool 0 14 (gl (.lst []) .none .none) [.lst []]) with
 | some (_,M)=>M.drop 53
 | none=>[]
theorem Ec (A : List ae) (pool : List Int) (S : ae) : jN (sem 199) [some S,some (.mref 2),some (.mref 3),some (.mref 34),some (.int 3),some dH,some (.mref 43),some (.mref 46),some (.mref 48),some (.bool true),none,none,none,none,some (.mref 38),none] (H A pool 0 14 (gl (.lst []) .none .none) [.lst []]) =
  some ((.next,[some S,some (.mref 2),some (.mref 3),some (.mref 34),some (.int 3),some dH,some (.mref 43),some (.mref 46),some (.mref 48),some (.bool true),none,none,none,none,some (.mref 38),some (.mref 55)]),H A pool 1 14 (gl (.lst [.mref 55]) .none .none) (J2 A pool S)):=by kernel_rfl
theorem zt (A : List ae) (pool pool' : List Int) (n k : Int) (S : ae) (t : ah) (J : List ah) : (H A pool' n k t (J2 A pool S ++ J))[55]? = some (Fh 54):=by kernel_rfl
end
end Mine
end
section
open PySem PySem.W PySem.Spec PySem.Calls PySem.SeqAt PyProof.Rows
namespace Mine
section
variable {A : List ae} {pool : List Int} {n k : Int} {J : List ah} {inn : Bool}
noncomputable def nW (inn : Bool) : ae:=if inn then .lst [.mref 55] else .lst []
theorem zD {procs v : ae} {Q : Unit → List ah → Prop} : W (bS "body" (.mref 48) v) (H A pool n k (gl procs .none .none) J) Q ↔ Q () (H A pool n k (gl procs v .none) J):=bJ (by kernel_rfl)
theorem uF {procs b v : ae} {Q : Unit → List ah → Prop} : W (bS "result" (.mref 48) v) (H A pool n k (gl procs b .none) J) Q ↔ Q () (H A pool n k (gl procs b v) J):=bJ (by kernel_rfl)
theorem dB3 : (dB 3 : Int) = 2758:=by decide
theorem I6 : ae.lst [ae.lst []] = .lst (([0] : List (Fin 16)).map stV):=by
 have : cm 0 = []:=by decide
 unfold List.map stV
 rw [this]; rfl
theorem tn {S : ae} {l15 : Option ae} {bd rs : ae} {F : Den} {r rr : Rd} {n0 : Int} (t : dm (H A pool n k (gl (nW inn) bd rs) J) inn bd rs) (ib : IsB bd F r 3) (hrs : (eA rs = true ∧ rr = []) ∨ (eA rs = false ∧ IsV rs rr 3)) (pl : Pl n0 n (r ++ rr) 100000) :
  W (au (j4 (sem 199)) (au (jR (sem 199)) (au (kD (sem 199)) (au (i5 (sem 199)) (au (iD (sem 199)) (iR (sem 199)))))) 
   [some S,some (.mref 2),some (.mref 3),some (.mref 34),some (.int 3),some dH,some (.mref 43),some (.mref 46),some (.mref 48),some (.bool inn),none,none,none,none,some (.mref 38),l15]) (H A pool n k (gl (nW inn) bd rs) J) (iN fun v _=>v = .bool true):=by
 have u : Uni (r ++ rr):=⟨pl.2.2.1,Int.ofNat_le.mp (Int.le_trans pl.len (Int.le_trans (Int.sub_left_le_of_le_add pl.2.2.2) (by decide)))⟩
 have hr : ∀ q ∈ r,q ∈ r ++ rr:=fun q hq=>List.mem_append_left _ hq
 have hrr : ∀ q ∈ rr,q ∈ r ++ rr:=fun q hq=>List.mem_append_right _ hq
 have hσ:=xP u
 generalize hB : H A pool n k (gl (nW inn) bd rs) J = B at t ⊢
 have tD : ∀ hd J,dm (D B hd J) inn bd rs:=fun hd J=>by unfold D; exact t.pre
 unfold j4
 refine aB (aO (gm (a:=.mref B.length) (M':=D B [] []) (by unfold D; rfl) (aj ?_)))
 unfold jR
 refine aB (aO (aA (ag (ba (ao (v:=.mref 48) rfl ?_)))))
 rw [(tD _ _).body]
 refine ag (kT (ag (ki (av ?_))))
 refine ⟨rfl,?_⟩
 rw [di,di]
 refine wr rfl ?_
 rw [List.map_nil,I6]
 refine CG 3 _ _ _ ib (by decide) u hr ⟨fun q hq=>(by cases hq),List.nodup_nil⟩ (by decide) (by decide) fun S' hd1 J1 ne1 nd1 e1 h1 m1=>?_
 rw [show br [0] = 0 by decide] at e1 m1
 have fin : ∀ hd2 J2,Hd (r ++ rr) hd2 → (∀ q,q ∈ hd2 ↔ q ∈ (F 0).2 ∨ q ∈ dW (F 0).1 rr) → 
   W (au (i5 (sem 199)) (au (iD (sem 199)) (iR (sem 199)))
    [some S,some (.mref 2),some (.mref 3),some (.mref 34),some (.int 3),some dH,some (.mref 43),some (.mref 46),some (.mref 48),some (.bool inn),some (.mref B.length),some (.lst (S'.map stV)),none,none,some (.mref 38),l15]) (D B hd2 J2) (iN fun v _=>v = .bool true):=by
  intro hd2 J2 h2 m2
  have l2:=h2.len u
  have hσ2 : ∀ q ∈ hd2,f0 (r ++ rr) q.1 = q.2:=fun q hq=>hσ q (h2.1 q hq)
  unfold i5
  refine aB (aO (cU (av ?_)))
  refine ⟨rfl,?_⟩
  have e2 : dQ [.mref B.length] (D B hd2 J2 ++ [ah.lst []]) = some (.mref (D B hd2 J2 ++ [ah.lst []]).length,D B hd2 J2 ++ [ah.lst []] ++ [ah.lst ((gs (hd2.map (·.1))).map .int)]):=by
   unfold dQ nk
   dsimp only
   rw [eg (z5 (J:=J2))]
   dsimp only
   rw [BK,bi (by rw [List.length_map]; exact l2),if_pos rfl]
   rfl
  unfold iD
  refine aj (aB (ci (lW (aA (wr rfl (gm e2 ?_))))))
  refine ⟨_,_,_,rfl,bH,rfl,_,rfl,?_⟩
  rw [cC,List.append_assoc,List.singleton_append]
  refine wV (σ:=f0 (r ++ rr)) l2 hσ2 (gs (hd2.map (·.1))) [] none (by rw [(ew _).length_eq,List.length_map]; simp; exact l2) (fun p hp=>(ew _).mem_iff.mp hp) fun z=>?_
  unfold iR
  rw [List.nil_append]
  refine aj (a8 (aU (aA (wr rfl ?_))))
  refine EO (by decide) (tD _ _).pre ib hrs u hr hrr hσ fun hd3 X3 h3 m3=>?_
  refine ao (v:=.mref (D B hd2 J2).length) rfl ?_
  have ke:=A5 (T:=tI inn) u hσ h2 h3 fun q=>by rw [m3 q,m2 q]
  rw [ke]
  generalize ((gs (hd2.map (·.1))).filter fun p=>bW (tI inn) (f0 (r ++ rr) p)) = ps
  generalize hM : D B hd2 J2 ++ ah.lst (ps.map fun p=>kP p (f0 (r ++ rr) p)) :: [ah.gone] ++ X3 = M
  have d1 : cK (.mref M.length) (M ++ [.lst (ps.map fun p=>kP p (f0 (r ++ rr) p))]) = some (.list (ps.map (mx (f0 (r ++ rr))))):=by
   unfold cK
   dsimp only
   rw [bH]
   dsimp only
   rw [jI]; rfl
  have d2 : cK (.mref (D B hd2 J2).length) (M ++ [.lst (ps.map fun p=>kP p (f0 (r ++ rr) p))]) = some (.list (ps.map (mx (f0 (r ++ rr))))):=by
   unfold cK
   dsimp only
   rw [← hM,List.append_assoc,List.append_assoc,List.cons_append,eD]
   dsimp only
   rw [jI]; rfl
  refine vd (a:=.bool true) (M':=M ++ [ah.lst (ps.map fun p=>kP p (f0 (r ++ rr) p))]) ?_ (by exact rfl)
  unfold oEq
  dsimp only
  rw [d1,d2]
  dsimp only
  rw [tQ,PyData.eqv,rT]; rfl
 unfold kD
 refine aj (aB (cG (bM (aU (ba (ao (v:=.mref 48) rfl ?_))))))
 rw [(tD _ _).result]
 refine aR (gm (a:=.bool (!eA rs)) rfl (b9 ?_))
 rcases hrs with ⟨hn,rfl⟩ | ⟨hn,iv⟩
 ·rw [hn,Bool.not_true]
  refine ifn (by decide) (cB (aj ?_))
  refine fin hd1 _ h1 fun q=>?_
  rw [m1 q]
  constructor
  ·rintro (a | a)
   ·cases a
   ·exact .inl a
  ·rintro (a | a)
   ·exact .inr a
   ·cases a
 ·rw [hn,Bool.not_false]
  refine ifp rfl (bu (aA (ag (ba (ao (v:=.mref 48) rfl ?_)))))
  rw [(tD _ _).result]
  refine wr rfl ?_
  refine d4 iv (by decide) u hrr h1 fun hd2 h2 m2=>?_
  refine aj ?_
  refine fin hd2 _ h2 fun q=>?_
  rw [m2 q,m1 q,e1]
  constructor
  ·rintro ((a | a) | a)
   ·cases a
   ·exact .inl a
   ·exact .inr a
  ·rintro (a | a)
   ·exact .inl (.inr a)
   ·exact .inr a
theorem wO {S : ae} {l15 : Option ae} {J0 : List ah} (hp : pool.length ≤ 1000) (ht : ∀ (p : List Int) (n k : Int) (b r : ae) (J : List ah),dm (H A p n k (gl (nW inn) b r) (J0 ++ J)) inn b r) :
  W (au (nS (sem 199)) (au (nv (sem 199)) (au (j4 (sem 199)) (au (jR (sem 199)) (au (kD (sem 199)) (au (i5 (sem 199)) (au (iD (sem 199)) (iR (sem 199)))))))) 
   [some S,some (.mref 2),some (.mref 3),some (.mref 34),some (.int 3),some dH,some (.mref 43),some (.mref 46),some (.mref 48),some (.bool inn),none,none,none,none,some (.mref 38),l15]) (H A pool n k (gl (nW inn) .none .none) J0) (iN fun v _=>v = .bool true):=by
 unfold nS
 refine aB (kr (aA (wr rfl ?_)))
 rw [show (0 : Int) = 3 - ((3 : Nat) : Int) by decide]
 refine rL 3 _ _ _ _ _ _ _ _ (by decide) (by decide) (Ct hp) fun b F r p1 n1 k1 J1 ib lb e1=>?_
 rw [dB3] at lb
 refine ao (v:=.mref 48) rfl ?_
 rw [zD]
 refine aj ?_
 unfold nv
 have dl:=iw p1
 refine aB (cG (bM (aU (aA (wr rfl (dG (by decide) (HE hp e1) (by decide) (aR (eW (b9 ?_)))))))))
 by_cases h1 : drV p1 2 = 1
 ·refine ifp (decide_eq_true h1) (kr (aA (wr rfl ?_)))
  refine eM (by decide) (Id hp e1 dl) fun v rr p2 n2 J2 iv lv e2=>?_
  refine ao (v:=.mref 48) rfl ?_
  rw [uF]
  refine aj ?_
  have nn : eA v = false:=by cases iv <;> rfl
  rw [List.append_assoc,List.append_assoc]
  exact tn (ht _ _ _ _ _ _) ib (.inr ⟨nn,iv.up (by decide)⟩) ((lb.append lv).up (by decide))
 ·refine ifn (by rw [decide_eq_true_eq]; exact h1) (cB (aj ?_))
  rw [List.append_assoc]
  exact tn (rr:=[]) (ht _ _ _ _ _ _) ib (.inl ⟨rfl,rfl⟩) (by rw [List.append_nil]; exact lb.up (by decide))
end
noncomputable def C5 : Loc → Mo (Fl × Loc):=(au (mO (sem 199)) (au (mS (sem 199)) (au (mI (sem 199)) (au (mW (sem 199)) (au (m5 (sem 199)) (au (mU (sem 199)) (au (mF (sem 199)) (au (mN (sem 199)) (au (mG (sem 199)) (au (jW (sem 199)) (au (jM (sem 199)) (au (kJ (sem 199)) (kj (sem 199))))))))))))))
theorem plain (ns : List Int) (hn : ns.length ≤ 63) : ∃ M',sem 200 .f_law [.lst (ns.map .int)] [] = some (.bool true,M'):=by
 have h : W (sem 200 .f_law [.lst (ns.map .int)]) [] fun v _=>v = .bool true:=by
  rw [show (200 : Nat) = 199 + 1 from rfl,F7]
  refine bK (loc0:=some (.lst (ns.map .int)) :: List.replicate 15 none) (by simp) rfl ?_
  unfold sn
  generalize hS : ae.lst (ns.map .int) = S
  have s0 : ∀ rest : Loc → Mo (Fl × Loc),(∀ (A : List ae) (pool : List Int),pool.length ≤ 240 → W (rest [some S,some (.mref 2),none,none,none,none,none,none,none,none,none,none,none,none,none,none]) [.lst A,.gone,.lst (pool.map .int)] (iN fun v _=>v = .bool true)) → W (au (qv (sem 199)) rest (some S :: List.replicate 15 none)) [] (iN fun v _=>v = .bool true):=by
   intro rest hr
   unfold qv
   refine aB (aO (aA (wr rfl ?_)))
   rw [← hS]
   refine z9 (by decide) (GF hn) fun A pool hp=>?_
   refine aj ?_
   rw [hS]
   exact hr A pool hp
  refine s0 _ fun A pool hp=>?_
  have asc : ∀ rest : Loc → Mo (Fl × Loc),W (rest [some S,some (.mref 2),some (.mref 3),some (.mref 34),some (.int 3),some dH,some (.mref 43),some (.mref 46),some (.mref 48),none,none,none,none,none,some (.mref 38),none]) (H A pool 0 14 (gl (.lst []) .none .none) []) (iN fun v _=>v = .bool true) →
    W (au (mO (sem 199)) (au (mS (sem 199)) (au (mI (sem 199)) (au (mW (sem 199)) (au (m5 (sem 199)) (au (mU (sem 199)) (au (mF (sem 199)) (au (mN (sem 199)) (au (mG (sem 199)) (au (jW (sem 199)) (au (jM (sem 199)) (au (kJ (sem 199)) (au (kj (sem 199)) rest))))))))))))
     [some S,some (.mref 2),none,none,none,none,none,none,none,none,none,none,none,none,none,none]) [.lst A,.gone,.lst (pool.map .int)] (iN fun v _=>v = .bool true):=by
   intro rest hr
   have : W (au C5 rest [some S,some (.mref 2),none,none,none,none,none,none,none,none,none,none,none,none,none,none]) [.lst A,.gone,.lst (pool.map .int)] (iN fun v _=>v = .bool true):=by
    refine aB ?_
    exact vd (DQ A pool S) hr
   unfold C5 at this
   simp only [t4] at this
   exact this
  refine asc _ ?_
  have dl:=iw pool
  unfold r9
  refine aB (aO (aU (aA (wr rfl (dG (by decide) (Fe hp) (by decide) (aR (eW (aj (aB ?_)))))))))
  by_cases h2 : drV pool 3 = 2
  ·rw [decide_eq_true h2]
   refine vd (Ec A pool.dropLast S) ?_
   refine aj ?_
   refine wO (inn:=true) (Fo hp dl) fun p n k b r J=>⟨_,rfl,.inr ⟨rfl,55,54,rfl,zt _ _ _ _ _ _ _ _⟩⟩
  ·rw [decide_eq_false h2]
   unfold jN
   refine cG (wr rfl (ifn (by decide) (cB (aj ?_))))
   exact wO (inn:=false) (Fo hp dl) fun p n k b r J=>⟨_,rfl,.inl ⟨rfl,rfl⟩⟩
 obtain ⟨a,M',e,rfl⟩:=h
 exact ⟨M',e⟩
end Mine
end
theorem PySem.Challenge.cw_pb0345_01_holds : PySem.Challenge.rw_pb0345_01.Holds :=
  Mine.claim_of Mine.left1 Mine.plain
