import PyProof.Rows.All
import Wide.All
import OpenK.AllK
import Wide.FinOn
import Lean
import PySem.Challenge.RW_pb0345_01
open PySem PySem.W PySem.Spec PySem.Calls PyProof.Rows
set_option Elab.async false
set_option tactic.hygienic false
set_option maxRecDepth 100000
set_option linter.all false
set_option compiler.extract_closed false
section
namespace Mine
noncomputable def st (i : Nat) : Stmt:=PySem.Challenge.pw_pb0345_01.main.body.getD i (.Pass default)
noncomputable def DC : Stmt → List Stmt
 | .ClassDef _ _ _ b _ _ _ _ _ _ _=>b
 | _=>[]
noncomputable def mt (i j : Nat) : Stmt:=(DC (st i)).getD j (.Pass default)
noncomputable def bG : Stmt → Arguments
 | .FunctionDef _ a _ _ _ _ _ _ _ _=>a
 | _=>default
noncomputable def aU : Stmt → List Stmt
 | .FunctionDef _ _ b _ _ _ _ _ _ _=>b
 | _=>[]
noncomputable def aM : Stmt → Scope
 | .FunctionDef _ _ _ _ _ _ s _ _ _=>s
 | _=>default
noncomputable def en (P : Params) (x : Str) (t : Nat) (v : Value) : DictEntry:=⟨PyData.keyHash P x,.str x t,v⟩
noncomputable def GC (P : Params) : Obj:={ cls:=.type "dict",data:=.dict #[en P "__name__" 165 (.str "law_pb0345_01" 629),en P "__doc__" 166 .none,en P "__package__" 167 .none,en P "__loader__" 168 (.builtin "__main__.__loader__#opaque"),en P "__spec__" 169 .none,en P "__annotations__" 170 (.ref 6),en P "__builtins__" 171 (.ref 4),en P "__file__" 173 (.str "/claim/cut.py" 172),en P "__cached__" 174 .none,en P "Node" 226 (.ref 32),en P "const" 235 (.ref 43),en P "ProcTree" 270 (.ref 60),en P "nodes_of" 281 (.ref 71),en P "is_scalar" 290 (.ref 78),en P "inner_nodes" 302 (.ref 85),en P "followed" 313 (.ref 92),en P "Follower" 352 (.ref 116),en P "used" 362 (.ref 127),en P "with_store" 372 (.ref 134),en P "place_uses" 382 (.ref 141),en P "value_uses" 392 (.ref 148),en P "call_uses" 406 (.ref 155),en P "std_uses" 417 (.ref 162),en P "branch_uses" 429 (.ref 169),en P "while_uses" 439 (.ref 176),en P "for_uses" 452 (.ref 183),en P "case_uses" 463 (.ref 190),en P "statement_uses" 474 (.ref 197),en P "unset_uses" 480 (.ref 202),en P "Type" 524 (.ref 219),en P "Obj" 569 (.ref 240),en P "Types" 628 (.ref 276),en P "_law_pool" 641 (.ref 287),en P "_law_draw" 649 (.ref 294),en P "_law_place" 656 (.ref 301),en P "_law_var" 664 (.ref 308),en P "_law_value" 674 (.ref 315),en P "_law_test" 686 (.ref 322),en P "_law_block" 692 (.ref 327),en P "_law_arms" 704 (.ref 334),en P "_law_deed" 723 (.ref 341),en P "_law_uses" 734 (.ref 348),en P "_law_stored" 740 (.ref 353),en P "_law_joined" 746 (.ref 358),en P "_law_ways" 760 (.ref 365),en P "_law_turns" 773 (.ref 372),en P "law" 795 (.ref 379)] 47 }
noncomputable def yB (P : Params) : Obj:={ cls:=.type "tuple",data:=.seq #[.none] }
noncomputable def F4 (P : Params) : Obj:={ cls:=.type "code",data:=.fields #[.str "__init__" 201,.str "Node.__init__" 202,.str "/claim/cut.py" 203,.int 4 0,.int 6 0,.int 0 0,.int 0 0,.int 3 0,.ref 23,.bool true,.int 181 0,.ref 24,.none,.ref 25,.ref 26,.ref 27,.int 210 0,.int 4 0,.str "/claim/cut.py" 211] }
noncomputable def BN (P : Params) : Obj:=⟨.type "function",none,.func (fnOf "__init__" "Node.__init__" (bG (mt 1 0)) (aU (mt 1 0)) (aM (mt 1 0)) (.ref 22) .none .none (.str "moduleyard.trees" 187) none (.ref 28) .none),#[]⟩
noncomputable def E8 (P : Params) : Obj:={ cls:=.type "dict",data:=.dict #[en P "__module__" 196 (.str "moduleyard.trees" 187),en P "__firstlineno__" 200 (.int 2 199),en P "__init__" 212 (.ref 29),en P "__static_attributes__" 219 (.ref 30),en P "__dict__" 221 (.ref 33),en P "__weakref__" 223 (.ref 34),en P "__doc__" 224 .none] 4 }
noncomputable def Fz (P : Params) : Obj:={ cls:=.type "type",data:=.cls { name := "Node",bases:=[.type "object"],mro:=[.ref 32,.type "object"],ns:=31,qualname := "Node" },slots:=#[none,none,some (.str "Node" 189),some (.str "Node" 197),some (.builtin "object.__new__"),some (.bool true)] }
noncomputable def Ew (P : Params) : Obj:={ cls:=.type "code",data:=.fields #[.str "const" 227,.str "const" 228,.str "/claim/cut.py" 229,.int 11 0,.int 3 0,.int 0 0,.int 0 0,.int 3 0,.ref 37,.bool true,.int 181 0,.ref 38,.none,.ref 39,.ref 40,.ref 41,.int 233 0,.int 11 0,.str "/claim/cut.py" 234] }
noncomputable def BU (P : Params) : Obj:=⟨.type "function",none,.func (fnOf "const" "const" (bG (st 2)) (aU (st 2)) (aM (st 2)) .none .none .none (.str "moduleyard.trees" 187) none (.ref 42) .none),#[]⟩
noncomputable def FF (P : Params) : Obj:={ cls:=.type "code",data:=.fields #[.str "__init__" 248,.str "ProcTree.__init__" 249,.str "/claim/cut.py" 250,.int 15 0,.int 2 0,.int 0 0,.int 0 0,.int 3 0,.ref 51,.bool true,.int 181 0,.ref 52,.none,.ref 53,.ref 54,.ref 55,.int 253 0,.int 15 0,.str "/claim/cut.py" 254] }
noncomputable def BV (P : Params) : Obj:=⟨.type "function",none,.func (fnOf "__init__" "ProcTree.__init__" (bG (mt 3 0)) (aU (mt 3 0)) (aM (mt 3 0)) .none .none .none (.str "moduleyard.trees" 187) none (.ref 56) .none),#[]⟩
noncomputable def EF (P : Params) : Obj:={ cls:=.type "dict",data:=.dict #[en P "__module__" 243 (.str "moduleyard.trees" 187),en P "__firstlineno__" 247 (.int 13 246),en P "__init__" 255 (.ref 57),en P "__static_attributes__" 263 (.ref 58),en P "__dict__" 265 (.ref 61),en P "__weakref__" 267 (.ref 62),en P "__doc__" 268 .none] 4 }
noncomputable def F5 (P : Params) : Obj:={ cls:=.type "type",data:=.cls { name := "ProcTree",bases:=[.type "object"],mro:=[.ref 60,.type "object"],ns:=59,qualname := "ProcTree" },slots:=#[none,none,some (.str "ProcTree" 236),some (.str "ProcTree" 244),some (.builtin "object.__new__"),some (.bool true)] }
noncomputable def FJ (P : Params) : Obj:={ cls:=.type "code",data:=.fields #[.str "nodes_of" 271,.str "nodes_of" 272,.str "/claim/cut.py" 273,.int 23 0,.int 1 0,.int 0 0,.int 0 0,.int 3 0,.ref 65,.bool true,.int 181 0,.ref 66,.none,.ref 67,.ref 68,.ref 69,.int 279 0,.int 23 0,.str "/claim/cut.py" 280] }
noncomputable def B2 (P : Params) : Obj:=⟨.type "function",none,.func (fnOf "nodes_of" "nodes_of" (bG (st 4)) (aU (st 4)) (aM (st 4)) .none .none .none (.str "moduleyard.trees" 187) none (.ref 70) .none),#[]⟩
noncomputable def ES (P : Params) : Obj:={ cls:=.type "code",data:=.fields #[.str "is_scalar" 284,.str "is_scalar" 285,.str "/claim/cut.py" 286,.int 36 0,.int 1 0,.int 0 0,.int 0 0,.int 3 0,.ref 72,.bool true,.int 181 0,.ref 73,.none,.ref 74,.ref 75,.ref 76,.int 288 0,.int 36 0,.str "/claim/cut.py" 289] }
noncomputable def B5 (P : Params) : Obj:=⟨.type "function",none,.func (fnOf "is_scalar" "is_scalar" (bG (st 6)) (aU (st 6)) (aM (st 6)) .none .none .none (.str "moduleyard.typerel" 282) none (.ref 77) .none),#[]⟩
noncomputable def FN (P : Params) : Obj:={ cls:=.type "code",data:=.fields #[.str "inner_nodes" 293,.str "inner_nodes" 294,.str "/claim/cut.py" 295,.int 39 0,.int 1 0,.int 0 0,.int 0 0,.int 3 0,.ref 79,.bool true,.int 181 0,.ref 80,.none,.ref 81,.ref 82,.ref 83,.int 300 0,.int 39 0,.str "/claim/cut.py" 301] }
noncomputable def BH (P : Params) : Obj:=⟨.type "function",none,.func (fnOf "inner_nodes" "inner_nodes" (bG (st 8)) (aU (st 8)) (aM (st 8)) .none .none .none (.str "moduleyard.definite" 291) none (.ref 84) .none),#[]⟩
noncomputable def E9 (P : Params) : Obj:={ cls:=.type "code",data:=.fields #[.str "followed" 303,.str "followed" 304,.str "/claim/cut.py" 305,.int 48 0,.int 1 0,.int 0 0,.int 0 0,.int 3 0,.ref 86,.bool true,.int 181 0,.ref 87,.none,.ref 88,.ref 89,.ref 90,.int 311 0,.int 48 0,.str "/claim/cut.py" 312] }
noncomputable def BI (P : Params) : Obj:=⟨.type "function",none,.func (fnOf "followed" "followed" (bG (st 9)) (aU (st 9)) (aM (st 9)) .none .none .none (.str "moduleyard.definite" 291) none (.ref 91) .none),#[]⟩
noncomputable def Dq (P : Params) : Obj:={ cls:=.type "code",data:=.fields #[.str "__init__" 326,.str "Follower.__init__" 327,.str "/claim/cut.py" 328,.int 60 0,.int 2 0,.int 0 0,.int 0 0,.int 3 0,.ref 100,.bool true,.int 181 0,.ref 101,.none,.ref 102,.ref 103,.ref 104,.int 331 0,.int 60 0,.str "/claim/cut.py" 332] }
noncomputable def zC (P : Params) : Obj:=⟨.type "function",none,.func (fnOf "__init__" "Follower.__init__" (bG (mt 10 0)) (aU (mt 10 0)) (aM (mt 10 0)) .none .none .none (.str "moduleyard.definite" 291) none (.ref 105) .none),#[]⟩
noncomputable def B9 (P : Params) : Obj:={ cls:=.type "code",data:=.fields #[.str "slot_of" 334,.str "Follower.slot_of" 335,.str "/claim/cut.py" 336,.int 65 0,.int 2 0,.int 0 0,.int 0 0,.int 3 0,.ref 107,.bool true,.int 181 0,.ref 108,.none,.ref 109,.ref 110,.ref 111,.int 339 0,.int 65 0,.str "/claim/cut.py" 340] }
noncomputable def xS (P : Params) : Obj:=⟨.type "function",none,.func (fnOf "slot_of" "Follower.slot_of" (bG (mt 10 1)) (aU (mt 10 1)) (aM (mt 10 1)) .none .none .none (.str "moduleyard.definite" 291) none (.ref 112) .none),#[]⟩
noncomputable def CS (P : Params) : Obj:={ cls:=.type "dict",data:=.dict #[en P "__module__" 321 (.str "moduleyard.definite" 291),en P "__firstlineno__" 325 (.int 58 324),en P "__init__" 333 (.ref 106),en P "slot_of" 341 (.ref 113),en P "__static_attributes__" 345 (.ref 114),en P "__dict__" 347 (.ref 117),en P "__weakref__" 349 (.ref 118),en P "__doc__" 350 .none] 4 }
noncomputable def CF (P : Params) : Obj:={ cls:=.type "type",data:=.cls { name := "Follower",bases:=[.type "object"],mro:=[.ref 116,.type "object"],ns:=115,qualname := "Follower" },slots:=#[none,none,some (.str "Follower" 314),some (.str "Follower" 322),some (.builtin "object.__new__"),some (.bool true)] }
noncomputable def DU (P : Params) : Obj:={ cls:=.type "code",data:=.fields #[.str "used" 353,.str "used" 354,.str "/claim/cut.py" 355,.int 69 0,.int 3 0,.int 0 0,.int 0 0,.int 3 0,.ref 121,.bool true,.int 181 0,.ref 122,.none,.ref 123,.ref 124,.ref 125,.int 360 0,.int 69 0,.str "/claim/cut.py" 361] }
noncomputable def ya (P : Params) : Obj:=⟨.type "function",none,.func (fnOf "used" "used" (bG (st 11)) (aU (st 11)) (aM (st 11)) .none .none .none (.str "moduleyard.definite" 291) none (.ref 126) .none),#[]⟩
noncomputable def DN (P : Params) : Obj:={ cls:=.type "code",data:=.fields #[.str "with_store" 363,.str "with_store" 364,.str "/claim/cut.py" 365,.int 73 0,.int 3 0,.int 0 0,.int 0 0,.int 3 0,.ref 128,.bool true,.int 181 0,.ref 129,.none,.ref 130,.ref 131,.ref 132,.int 370 0,.int 73 0,.str "/claim/cut.py" 371] }
noncomputable def zO (P : Params) : Obj:=⟨.type "function",none,.func (fnOf "with_store" "with_store" (bG (st 12)) (aU (st 12)) (aM (st 12)) .none .none .none (.str "moduleyard.definite" 291) none (.ref 133) .none),#[]⟩
noncomputable def CJ (P : Params) : Obj:={ cls:=.type "code",data:=.fields #[.str "place_uses" 373,.str "place_uses" 374,.str "/claim/cut.py" 375,.int 80 0,.int 3 0,.int 0 0,.int 0 0,.int 3 0,.ref 135,.bool true,.int 181 0,.ref 136,.none,.ref 137,.ref 138,.ref 139,.int 380 0,.int 80 0,.str "/claim/cut.py" 381] }
noncomputable def x0 (P : Params) : Obj:=⟨.type "function",none,.func (fnOf "place_uses" "place_uses" (bG (st 13)) (aU (st 13)) (aM (st 13)) .none .none .none (.str "moduleyard.definite" 291) none (.ref 140) .none),#[]⟩
noncomputable def B6 (P : Params) : Obj:={ cls:=.type "code",data:=.fields #[.str "value_uses" 383,.str "value_uses" 384,.str "/claim/cut.py" 385,.int 91 0,.int 3 0,.int 0 0,.int 0 0,.int 3 0,.ref 142,.bool true,.int 181 0,.ref 143,.none,.ref 144,.ref 145,.ref 146,.int 390 0,.int 91 0,.str "/claim/cut.py" 391] }
noncomputable def yX (P : Params) : Obj:=⟨.type "function",none,.func (fnOf "value_uses" "value_uses" (bG (st 14)) (aU (st 14)) (aM (st 14)) .none .none .none (.str "moduleyard.definite" 291) none (.ref 147) .none),#[]⟩
noncomputable def B8 (P : Params) : Obj:={ cls:=.type "code",data:=.fields #[.str "call_uses" 393,.str "call_uses" 394,.str "/claim/cut.py" 395,.int 104 0,.int 3 0,.int 0 0,.int 0 0,.int 3 0,.ref 149,.bool true,.int 181 0,.ref 150,.none,.ref 151,.ref 152,.ref 153,.int 404 0,.int 104 0,.str "/claim/cut.py" 405] }
noncomputable def yU (P : Params) : Obj:=⟨.type "function",none,.func (fnOf "call_uses" "call_uses" (bG (st 15)) (aU (st 15)) (aM (st 15)) .none .none .none (.str "moduleyard.definite" 291) none (.ref 154) .none),#[]⟩
noncomputable def CH (P : Params) : Obj:={ cls:=.type "code",data:=.fields #[.str "std_uses" 407,.str "std_uses" 408,.str "/claim/cut.py" 409,.int 119 0,.int 3 0,.int 0 0,.int 0 0,.int 3 0,.ref 156,.bool true,.int 181 0,.ref 157,.none,.ref 158,.ref 159,.ref 160,.int 415 0,.int 119 0,.str "/claim/cut.py" 416] }
noncomputable def y4 (P : Params) : Obj:=⟨.type "function",none,.func (fnOf "std_uses" "std_uses" (bG (st 16)) (aU (st 16)) (aM (st 16)) .none .none .none (.str "moduleyard.definite" 291) none (.ref 161) .none),#[]⟩
noncomputable def Cy (P : Params) : Obj:={ cls:=.type "code",data:=.fields #[.str "branch_uses" 418,.str "branch_uses" 419,.str "/claim/cut.py" 420,.int 129 0,.int 3 0,.int 0 0,.int 0 0,.int 3 0,.ref 163,.bool true,.int 181 0,.ref 164,.none,.ref 165,.ref 166,.ref 167,.int 427 0,.int 129 0,.str "/claim/cut.py" 428] }
noncomputable def yC (P : Params) : Obj:=⟨.type "function",none,.func (fnOf "branch_uses" "branch_uses" (bG (st 17)) (aU (st 17)) (aM (st 17)) .none .none .none (.str "moduleyard.definite" 291) none (.ref 168) .none),#[]⟩
noncomputable def DY (P : Params) : Obj:={ cls:=.type "code",data:=.fields #[.str "while_uses" 430,.str "while_uses" 431,.str "/claim/cut.py" 432,.int 139 0,.int 3 0,.int 0 0,.int 0 0,.int 3 0,.ref 170,.bool true,.int 181 0,.ref 171,.none,.ref 172,.ref 173,.ref 174,.int 437 0,.int 139 0,.str "/claim/cut.py" 438] }
noncomputable def y0 (P : Params) : Obj:=⟨.type "function",none,.func (fnOf "while_uses" "while_uses" (bG (st 18)) (aU (st 18)) (aM (st 18)) .none .none .none (.str "moduleyard.definite" 291) none (.ref 175) .none),#[]⟩
noncomputable def DJ (P : Params) : Obj:={ cls:=.type "code",data:=.fields #[.str "for_uses" 440,.str "for_uses" 441,.str "/claim/cut.py" 442,.int 144 0,.int 3 0,.int 0 0,.int 0 0,.int 3 0,.ref 177,.bool true,.int 181 0,.ref 178,.none,.ref 179,.ref 180,.ref 181,.int 450 0,.int 144 0,.str "/claim/cut.py" 451] }
noncomputable def zH (P : Params) : Obj:=⟨.type "function",none,.func (fnOf "for_uses" "for_uses" (bG (st 19)) (aU (st 19)) (aM (st 19)) .none .none .none (.str "moduleyard.definite" 291) none (.ref 182) .none),#[]⟩
noncomputable def DD (P : Params) : Obj:={ cls:=.type "code",data:=.fields #[.str "case_uses" 453,.str "case_uses" 454,.str "/claim/cut.py" 455,.int 150 0,.int 3 0,.int 0 0,.int 0 0,.int 3 0,.ref 184,.bool true,.int 181 0,.ref 185,.none,.ref 186,.ref 187,.ref 188,.int 461 0,.int 150 0,.str "/claim/cut.py" 462] }
noncomputable def y7 (P : Params) : Obj:=⟨.type "function",none,.func (fnOf "case_uses" "case_uses" (bG (st 20)) (aU (st 20)) (aM (st 20)) .none .none .none (.str "moduleyard.definite" 291) none (.ref 189) .none),#[]⟩
noncomputable def Cr (P : Params) : Obj:={ cls:=.type "code",data:=.fields #[.str "statement_uses" 464,.str "statement_uses" 465,.str "/claim/cut.py" 466,.int 156 0,.int 3 0,.int 0 0,.int 0 0,.int 3 0,.ref 191,.bool true,.int 181 0,.ref 192,.none,.ref 193,.ref 194,.ref 195,.int 472 0,.int 156 0,.str "/claim/cut.py" 473] }
noncomputable def xY (P : Params) : Obj:=⟨.type "function",none,.func (fnOf "statement_uses" "statement_uses" (bG (st 21)) (aU (st 21)) (aM (st 21)) .none .none .none (.str "moduleyard.definite" 291) none (.ref 196) .none),#[]⟩
noncomputable def DI (P : Params) : Obj:={ cls:=.type "code",data:=.fields #[.str "unset_uses" 475,.str "unset_uses" 476,.str "/claim/cut.py" 477,.int 179 0,.int 1 0,.int 0 0,.int 0 0,.int 3 0,.ref 198,.bool true,.int 181 0,.ref 199,.none,.none,.none,.ref 200,.int 478 0,.int 179 0,.str "/claim/cut.py" 479] }
noncomputable def zk (P : Params) : Obj:=⟨.type "function",none,.func (fnOf "unset_uses" "unset_uses" (bG (st 22)) (aU (st 22)) (aM (st 22)) .none .none .none (.str "moduleyard.definite" 291) none (.ref 201) .none),#[]⟩
noncomputable def CA (P : Params) : Obj:={ cls:=.type "code",data:=.fields #[.str "__init__" 495,.str "Type.__init__" 496,.str "/claim/cut.py" 497,.int 188 0,.int 4 0,.int 0 0,.int 0 0,.int 3 0,.ref 210,.bool true,.int 181 0,.ref 211,.none,.ref 212,.ref 213,.ref 214,.int 502 0,.int 188 0,.str "/claim/cut.py" 503] }
noncomputable def x8 (P : Params) : Obj:=⟨.type "function",none,.func (fnOf "__init__" "Type.__init__" (bG (mt 24 0)) (aU (mt 24 0)) (aM (mt 24 0)) .none .none .none (.str "moduleyard.types" 481) none (.ref 215) .none),#[]⟩
noncomputable def CP (P : Params) : Obj:={ cls:=.type "dict",data:=.dict #[en P "__module__" 490 (.str "moduleyard.types" 481),en P "__firstlineno__" 494 (.int 186 493),en P "__init__" 504 (.ref 216),en P "__static_attributes__" 517 (.ref 217),en P "__dict__" 519 (.ref 220),en P "__weakref__" 521 (.ref 221),en P "__doc__" 522 .none] 4 }
noncomputable def Cu (P : Params) : Obj:={ cls:=.type "type",data:=.cls { name := "Type",bases:=[.type "object"],mro:=[.ref 219,.type "object"],ns:=218,qualname := "Type" },slots:=#[none,none,some (.str "Type" 483),some (.str "Type" 491),some (.builtin "object.__new__"),some (.bool true)] }
noncomputable def D1 (P : Params) : Obj:={ cls:=.type "code",data:=.fields #[.str "__init__" 537,.str "Obj.__init__" 538,.str "/claim/cut.py" 539,.int 203 0,.int 5 0,.int 0 0,.int 0 0,.int 3 0,.ref 231,.bool true,.int 181 0,.ref 232,.none,.ref 233,.ref 234,.ref 235,.int 545 0,.int 203 0,.str "/claim/cut.py" 546] }
noncomputable def xj (P : Params) : Obj:=⟨.type "function",none,.func (fnOf "__init__" "Obj.__init__" (bG (mt 25 0)) (aU (mt 25 0)) (aM (mt 25 0)) .none .none .none (.str "moduleyard.types" 481) none (.ref 236) .none),#[]⟩
noncomputable def CG (P : Params) : Obj:={ cls:=.type "dict",data:=.dict #[en P "__module__" 532 (.str "moduleyard.types" 481),en P "__firstlineno__" 536 (.int 201 535),en P "__init__" 547 (.ref 237),en P "__static_attributes__" 562 (.ref 238),en P "__dict__" 564 (.ref 241),en P "__weakref__" 566 (.ref 242),en P "__doc__" 567 .none] 4 }
noncomputable def Di (P : Params) : Obj:={ cls:=.type "type",data:=.cls { name := "Obj",bases:=[.type "object"],mro:=[.ref 240,.type "object"],ns:=239,qualname := "Obj" },slots:=#[none,none,some (.str "Obj" 525),some (.str "Obj" 533),some (.builtin "object.__new__"),some (.bool true)] }
noncomputable def CI (P : Params) : Obj:={ cls:=.type "code",data:=.fields #[.str "__init__" 582,.str "Types.__init__" 583,.str "/claim/cut.py" 584,.int 220 0,.int 1 0,.int 0 0,.int 0 0,.int 3 0,.ref 252,.bool true,.int 181 0,.ref 253,.none,.ref 254,.ref 255,.ref 256,.int 586 0,.int 220 0,.str "/claim/cut.py" 587] }
noncomputable def xv (P : Params) : Obj:=⟨.type "function",none,.func (fnOf "__init__" "Types.__init__" (bG (mt 26 0)) (aU (mt 26 0)) (aM (mt 26 0)) .none .none .none (.str "moduleyard.types" 481) none (.ref 257) .none),#[]⟩
noncomputable def q8 (P : Params) : Obj:={ cls:=.type "tuple",data:=.seq #[.str "" 589,.str "" 590] }
noncomputable def C0 (P : Params) : Obj:={ cls:=.type "code",data:=.fields #[.str "new" 591,.str "Types.new" 592,.str "/claim/cut.py" 593,.int 231 0,.int 5 0,.int 0 0,.int 0 0,.int 3 0,.ref 260,.bool true,.int 181 0,.ref 261,.none,.ref 262,.ref 263,.ref 264,.int 600 0,.int 231 0,.str "/claim/cut.py" 601] }
noncomputable def x9 (P : Params) : Obj:=⟨.type "function",none,.func (fnOf "new" "Types.new" (bG (mt 26 1)) (aU (mt 26 1)) (aM (mt 26 1)) (.ref 259) .none .none (.str "moduleyard.types" 481) none (.ref 265) .none),#[]⟩
noncomputable def DT (P : Params) : Obj:={ cls:=.type "dict",data:=.dict #[en P "__module__" 577 (.str "moduleyard.types" 481),en P "__firstlineno__" 581 (.int 218 580),en P "__init__" 588 (.ref 258),en P "new" 602 (.ref 266),en P "string" 611 (.ref 273),en P "__static_attributes__" 621 (.ref 274),en P "__dict__" 623 (.ref 277),en P "__weakref__" 625 (.ref 278),en P "__doc__" 626 .none] 4 }
noncomputable def Do (P : Params) : Obj:={ cls:=.type "type",data:=.cls { name := "Types",bases:=[.type "object"],mro:=[.ref 276,.type "object"],ns:=275,qualname := "Types" },slots:=#[none,none,some (.str "Types" 570),some (.str "Types" 578),some (.builtin "object.__new__"),some (.bool true)] }
noncomputable def D0 (P : Params) : Obj:={ cls:=.type "code",data:=.fields #[.str "_law_pool" 631,.str "_law_pool" 632,.str "/claim/cut.py" 633,.int 246 0,.int 1 0,.int 0 0,.int 0 0,.int 3 0,.ref 281,.bool true,.int 181 0,.ref 282,.none,.ref 283,.ref 284,.ref 285,.int 639 0,.int 246 0,.str "/claim/cut.py" 640] }
noncomputable def zj (P : Params) : Obj:=⟨.type "function",none,.func (fnOf "_law_pool" "_law_pool" (bG (st 28)) (aU (st 28)) (aM (st 28)) .none .none .none (.str "law_pb0345_01" 629) none (.ref 286) .none),#[]⟩
noncomputable def D2 (P : Params) : Obj:={ cls:=.type "code",data:=.fields #[.str "_law_draw" 642,.str "_law_draw" 643,.str "/claim/cut.py" 644,.int 258 0,.int 2 0,.int 0 0,.int 0 0,.int 3 0,.ref 288,.bool true,.int 181 0,.ref 289,.none,.ref 290,.ref 291,.ref 292,.int 647 0,.int 258 0,.str "/claim/cut.py" 648] }
noncomputable def za (P : Params) : Obj:=⟨.type "function",none,.func (fnOf "_law_draw" "_law_draw" (bG (st 29)) (aU (st 29)) (aM (st 29)) .none .none .none (.str "law_pb0345_01" 629) none (.ref 293) .none),#[]⟩
noncomputable def Cz (P : Params) : Obj:={ cls:=.type "code",data:=.fields #[.str "_law_place" 650,.str "_law_place" 651,.str "/claim/cut.py" 652,.int 260 0,.int 1 0,.int 0 0,.int 0 0,.int 3 0,.ref 295,.bool true,.int 181 0,.ref 296,.none,.ref 297,.ref 298,.ref 299,.int 654 0,.int 260 0,.str "/claim/cut.py" 655] }
noncomputable def yW (P : Params) : Obj:=⟨.type "function",none,.func (fnOf "_law_place" "_law_place" (bG (st 30)) (aU (st 30)) (aM (st 30)) .none .none .none (.str "law_pb0345_01" 629) none (.ref 300) .none),#[]⟩
noncomputable def Cc (P : Params) : Obj:={ cls:=.type "code",data:=.fields #[.str "_law_var" 657,.str "_law_var" 658,.str "/claim/cut.py" 659,.int 263 0,.int 2 0,.int 0 0,.int 0 0,.int 3 0,.ref 302,.bool true,.int 181 0,.ref 303,.none,.ref 304,.ref 305,.ref 306,.int 662 0,.int 263 0,.str "/claim/cut.py" 663] }
noncomputable def xf (P : Params) : Obj:=⟨.type "function",none,.func (fnOf "_law_var" "_law_var" (bG (st 31)) (aU (st 31)) (aM (st 31)) .none .none .none (.str "law_pb0345_01" 629) none (.ref 307) .none),#[]⟩
noncomputable def CZ (P : Params) : Obj:={ cls:=.type "code",data:=.fields #[.str "_law_value" 665,.str "_law_value" 666,.str "/claim/cut.py" 667,.int 265 0,.int 2 0,.int 0 0,.int 0 0,.int 3 0,.ref 309,.bool true,.int 181 0,.ref 310,.none,.ref 311,.ref 312,.ref 313,.int 672 0,.int 265 0,.str "/claim/cut.py" 673] }
noncomputable def xK (P : Params) : Obj:=⟨.type "function",none,.func (fnOf "_law_value" "_law_value" (bG (st 32)) (aU (st 32)) (aM (st 32)) .none .none .none (.str "law_pb0345_01" 629) none (.ref 314) .none),#[]⟩
noncomputable def Dk (P : Params) : Obj:={ cls:=.type "code",data:=.fields #[.str "_law_test" 675,.str "_law_test" 676,.str "/claim/cut.py" 677,.int 273 0,.int 2 0,.int 0 0,.int 0 0,.int 3 0,.ref 316,.bool true,.int 181 0,.ref 317,.none,.ref 318,.ref 319,.ref 320,.int 684 0,.int 273 0,.str "/claim/cut.py" 685] }
noncomputable def zc (P : Params) : Obj:=⟨.type "function",none,.func (fnOf "_law_test" "_law_test" (bG (st 33)) (aU (st 33)) (aM (st 33)) .none .none .none (.str "law_pb0345_01" 629) none (.ref 321) .none),#[]⟩
noncomputable def DQ (P : Params) : Obj:={ cls:=.type "code",data:=.fields #[.str "_law_block" 687,.str "_law_block" 688,.str "/claim/cut.py" 689,.int 281 0,.int 3 0,.int 0 0,.int 0 0,.int 3 0,.ref 323,.bool true,.int 181 0,.ref 324,.none,.none,.none,.ref 325,.int 690 0,.int 281 0,.str "/claim/cut.py" 691] }
noncomputable def yz (P : Params) : Obj:=⟨.type "function",none,.func (fnOf "_law_block" "_law_block" (bG (st 34)) (aU (st 34)) (aM (st 34)) .none .none .none (.str "law_pb0345_01" 629) none (.ref 326) .none),#[]⟩
noncomputable def Dw (P : Params) : Obj:={ cls:=.type "code",data:=.fields #[.str "_law_arms" 693,.str "_law_arms" 694,.str "/claim/cut.py" 695,.int 284 0,.int 4 0,.int 0 0,.int 0 0,.int 3 0,.ref 328,.bool true,.int 181 0,.ref 329,.none,.ref 330,.ref 331,.ref 332,.int 702 0,.int 284 0,.str "/claim/cut.py" 703] }
noncomputable def yg (P : Params) : Obj:=⟨.type "function",none,.func (fnOf "_law_arms" "_law_arms" (bG (st 35)) (aU (st 35)) (aM (st 35)) .none .none .none (.str "law_pb0345_01" 629) none (.ref 333) .none),#[]⟩
noncomputable def CM (P : Params) : Obj:={ cls:=.type "code",data:=.fields #[.str "_law_deed" 705,.str "_law_deed" 706,.str "/claim/cut.py" 707,.int 290 0,.int 3 0,.int 0 0,.int 0 0,.int 3 0,.ref 335,.bool true,.int 181 0,.ref 336,.none,.ref 337,.ref 338,.ref 339,.int 721 0,.int 290 0,.str "/claim/cut.py" 722] }
noncomputable def zG (P : Params) : Obj:=⟨.type "function",none,.func (fnOf "_law_deed" "_law_deed" (bG (st 36)) (aU (st 36)) (aM (st 36)) .none .none .none (.str "law_pb0345_01" 629) none (.ref 340) .none),#[]⟩
noncomputable def Ck (P : Params) : Obj:={ cls:=.type "code",data:=.fields #[.str "_law_uses" 724,.str "_law_uses" 725,.str "/claim/cut.py" 726,.int 327 0,.int 3 0,.int 0 0,.int 0 0,.int 3 0,.ref 342,.bool true,.int 181 0,.ref 343,.none,.ref 344,.ref 345,.ref 346,.int 732 0,.int 327 0,.str "/claim/cut.py" 733] }
noncomputable def xi (P : Params) : Obj:=⟨.type "function",none,.func (fnOf "_law_uses" "_law_uses" (bG (st 37)) (aU (st 37)) (aM (st 37)) .none .none .none (.str "law_pb0345_01" 629) none (.ref 347) .none),#[]⟩
noncomputable def C8 (P : Params) : Obj:={ cls:=.type "code",data:=.fields #[.str "_law_stored" 735,.str "_law_stored" 736,.str "/claim/cut.py" 737,.int 335 0,.int 2 0,.int 0 0,.int 0 0,.int 3 0,.ref 349,.bool true,.int 181 0,.ref 350,.none,.none,.none,.ref 351,.int 738 0,.int 335 0,.str "/claim/cut.py" 739] }
noncomputable def yZ (P : Params) : Obj:=⟨.type "function",none,.func (fnOf "_law_stored" "_law_stored" (bG (st 38)) (aU (st 38)) (aM (st 38)) .none .none .none (.str "law_pb0345_01" 629) none (.ref 352) .none),#[]⟩
noncomputable def Ci (P : Params) : Obj:={ cls:=.type "code",data:=.fields #[.str "_law_joined" 741,.str "_law_joined" 742,.str "/claim/cut.py" 743,.int 342 0,.int 2 0,.int 0 0,.int 0 0,.int 3 0,.ref 354,.bool true,.int 181 0,.ref 355,.none,.none,.none,.ref 356,.int 744 0,.int 342 0,.str "/claim/cut.py" 745] }
noncomputable def yA (P : Params) : Obj:=⟨.type "function",none,.func (fnOf "_law_joined" "_law_joined" (bG (st 39)) (aU (st 39)) (aM (st 39)) .none .none .none (.str "law_pb0345_01" 629) none (.ref 357) .none),#[]⟩
noncomputable def DA (P : Params) : Obj:={ cls:=.type "code",data:=.fields #[.str "_law_ways" 747,.str "_law_ways" 748,.str "/claim/cut.py" 749,.int 344 0,.int 3 0,.int 0 0,.int 0 0,.int 3 0,.ref 359,.bool true,.int 181 0,.ref 360,.none,.ref 361,.ref 362,.ref 363,.int 758 0,.int 344 0,.str "/claim/cut.py" 759] }
noncomputable def xw (P : Params) : Obj:=⟨.type "function",none,.func (fnOf "_law_ways" "_law_ways" (bG (st 40)) (aU (st 40)) (aM (st 40)) .none .none .none (.str "law_pb0345_01" 629) none (.ref 364) .none),#[]⟩
noncomputable def DR (P : Params) : Obj:={ cls:=.type "code",data:=.fields #[.str "_law_turns" 761,.str "_law_turns" 762,.str "/claim/cut.py" 763,.int 376 0,.int 3 0,.int 0 0,.int 0 0,.int 3 0,.ref 366,.bool true,.int 181 0,.ref 367,.none,.ref 368,.ref 369,.ref 370,.int 771 0,.int 376 0,.str "/claim/cut.py" 772] }
noncomputable def yv (P : Params) : Obj:=⟨.type "function",none,.func (fnOf "_law_turns" "_law_turns" (bG (st 41)) (aU (st 41)) (aM (st 41)) .none .none .none (.str "law_pb0345_01" 629) none (.ref 371) .none),#[]⟩
noncomputable def Du (P : Params) : Obj:={ cls:=.type "code",data:=.fields #[.str "law" 774,.str "law" 775,.str "/claim/cut.py" 776,.int 404 0,.int 1 0,.int 0 0,.int 0 0,.int 3 0,.ref 373,.bool true,.int 181 0,.ref 374,.none,.ref 375,.ref 376,.ref 377,.int 793 0,.int 404 0,.str "/claim/cut.py" 794] }
noncomputable def xr (P : Params) : Obj:=⟨.type "function",none,.func (fnOf "law" "law" (bG (st 42)) (aU (st 42)) (aM (st 42)) .none .none .none (.str "law_pb0345_01" 629) none (.ref 378) .none),#[]⟩
noncomputable def kF (P : Params) : Frag:=[(3,GC P),(22,yB P),(28,F4 P),(29,BN P),(31,E8 P),(32,Fz P),(42,Ew P),(43,BU P),(56,FF P),(57,BV P),(59,EF P),(60,F5 P),(70,FJ P),(71,B2 P),(77,ES P),(78,B5 P),(84,FN P),(85,BH P),(91,E9 P),(92,BI P),(105,Dq P),(106,zC P),(112,B9 P),(113,xS P),(115,CS P),(116,CF P),(126,DU P),(127,ya P),(133,DN P),(134,zO P),(140,CJ P),(141,x0 P),(147,B6 P),(148,yX P),(154,B8 P),(155,yU P),(161,CH P),(162,y4 P),(168,Cy P),(169,yC P),(175,DY P),(176,y0 P),(182,DJ P),(183,zH P),(189,DD P),(190,y7 P),(196,Cr P),(197,xY P),(201,DI P),(202,zk P),(215,CA P),(216,x8 P),(218,CP P),(219,Cu P),(236,D1 P),(237,xj P),(239,CG P),(240,Di P),(257,CI P),(258,xv P),(259,q8 P),(265,C0 P),(266,x9 P),(275,DT P),(276,Do P),(286,D0 P),(287,zj P),(293,D2 P),(294,za P),(300,Cz P),(301,yW P),(307,Cc P),(308,xf P),(314,CZ P),(315,xK P),(321,Dk P),(322,zc P),(326,DQ P),(327,yz P),(333,Dw P),(334,yg P),(340,CM P),(341,zG P),(347,Ck P),(348,xi P),(352,C8 P),(353,yZ P),(357,Ci P),(358,yA P),(364,DA P),(365,xw P),(371,DR P),(372,yv P),(378,Du P),(379,xr P)]
noncomputable def BM : List Addr:=[3,22,28,29,31,32,42,43,56,57,59,60,70,71,77,78,84,85,91,92,105,106,112,113,115,116,126,127,133,134,140,141,147,148,154,155,161,162,168,169,175,176,182,183,189,190,196,197,201,202,215,216,218,219,236,237,239,240,257,258,259,265,266,275,276,286,287,293,294,300,301,307,308,314,315,321,322,326,327,333,334,340,341,347,348,352,353,357,358,364,365,371,372,378,379]
theorem yy (P : Params) : BM = (kF P).map (·.1):=by kernel_rfl
end Mine
end
section
namespace Mine
noncomputable def mw : Program:={ PySem.Challenge.pw_pb0345_01 with main:={ PySem.Challenge.pw_pb0345_01.main with body:=PySem.Challenge.pw_pb0345_01.main.body.filter fun s=>match s with | .Assign ..=>false | _=>true } }
noncomputable abbrev hk : Hook:=kHook kF BM yy
theorem D9 : OpenRow.wellSaid (OpenLaw.row PySem.Challenge.rw_pb0345_01) = true:=by kernel_rfl
theorem FD : OpenLaw.wellSaid PySem.Challenge.rw_pb0345_01 = true:=by
 delta OpenLaw.wellSaid
 rw [D9]
 kernel_rfl
end Mine
end
section
namespace Mine
noncomputable def D7 : List Obj → Nat → BT → BT
 | [],_,t=>t
 | o :: l,i,t=>D7 l (i + 1) (t.ins i o)
noncomputable def n7 (s : Shared) : SharedT:=⟨D7 s.heap.objs.toList 0 .nil,s.heap.objs.size,s.heap.life,s.gens,s.drawn,s.toks,s.os⟩
noncomputable def qw (p : Program) (N : Nat) (s : Shared) (w : World) : Option (Flow × SharedT × Code × Pos):=segRunT treeTable p w s.heap.objs.size (s.heap.nsMap mainGlobals "__annotations__") 0 N (n7 s) (topStub p)
noncomputable def mZ (p : Program) (s s₁ : Shared) : Bool:=staticsOk (importedModules p.main.body) s.heap s₁.heap && namesBound p s₁.heap && gensDone s₁ && laidKept s.heap s₁.heap
theorem pX {tb : String → Option Builtin} {p : Program} {w : World} {n₀ : Nat} {ann : Option Value} : ∀ {n : Nat} {s s' : Shared} {t : Thread} {f : Flow} {c : Code} {q : Pos},segRun tb p w n₀ ann 0 n s t = some (f,s',c,q) → topRun tb p w n₀ ann n s t = some s':=by
 intro n
 induction n with
 | zero=>intro s s' t f c q h; cases h
 | succ n ih=>
  intro s s' t f c q h
  have e : through t = (endAt 0 t).isSome:=by
   obtain ⟨cur,code,pos,stack⟩:=t
   cases stack with
   | nil=>
    cases cur with
    | pure a=>cases a <;> rfl
    | _=>rfl
   | cons a l=>rfl
  unfold segRun at h
  unfold topRun
  rw [e]
  cases he : endAt 0 t with
  | some x=>rw [he] at h; cases h; rfl
  | none=>
   rw [he] at h
   cases hk : stepOk n₀ ann t with
   | false=>rw [hk] at h; cases h
   | true=>
    rw [hk] at h
    cases hs : step (denote tb) p w s t with
    | halt o s₂=>rw [hs] at h; cases h
    | go s₂ t₂=>rw [hs] at h; exact ih h
theorem zx {p q : Program} {loose : List Str} {Xt : Shared → Bool} {α : Type} {Yf : Shared → α} {Ya : World → α} {N : Nat} {s0 : World → Shared} (o : ∀ w,fencedOpening treeTable p w N = some (s0 w))
  (o0 : ∀ w,((s0 w).heap.isNs mainGlobals && (s0 w).gens.size == 0) = true) (oT : ∀ w,(n7 (s0 w)).abs = s0 w)
  (k1 : ∀ w,(qw p N (s0 w) w).map (fun r=>openSeen q loose (importedModules p.main.body) Xt true r.2.1.abs) = some (openGood q loose))
  (k2 : ∀ w,(qw p N (s0 w) w).map (fun r=>(mZ p (s0 w) r.2.1.abs,Yf r.2.1.abs)) = some (true,Ya w)) : LeftO p q loose Xt Yf Ya N:=by
 intro w
 obtain ⟨⟨f,S,c,q'⟩,e1,e2⟩:=Option.map_eq_some_iff.mp (k1 w)
 have e3:=k2 w
 rw [e1] at e3
 have e4:=Option.some.inj e3
 have l1 : mZ p (s0 w) S.abs = true:=congrArg Prod.fst e4
 have l2 : Yf S.abs = Ya w:=congrArg Prod.snd e4
 have r:=pX (segRun_of e1)
 rw [oT] at r
 have t : topFrom treeTable p w N (s0 w) = some S.abs:=by
  unfold topFrom
  rw [o0,r]
  show (match mZ p (s0 w) S.abs with | true=>_ | false=>_) = _
  rw [l1]
 have e : openEnds treeTable p w N = some S.abs:=by unfold openEnds; rw [o]; exact t
 rw [e]
 exact congrArg some (Prod.ext e2 l2)
noncomputable def rB (w : World) : Shared:=(fencedOpening treeTable PySem.Challenge.pw_pb0345_01 w 5270).getD (start PySem.Challenge.pw_pb0345_01).1
noncomputable abbrev H9 (s : Shared) : Bool:=xlAt mw [] s && recOk (RowW.records (OpenRow.toRowW (OpenLaw.row PySem.Challenge.rw_pb0345_01))) s
theorem zX (w : World) : (fencedOpening treeTable PySem.Challenge.pw_pb0345_01 w 5270).isSome = true:=by kernel_rfl
theorem zt (w : World) : ((rB w).heap.isNs mainGlobals && (rB w).gens.size == 0) = true:=by kernel_rfl
theorem zw (w : World) : (n7 (rB w)).abs = rB w:=by kernel_rfl
theorem yx {α : Type} {o : Option α} {a : α} (h : o.isSome = true) : o = some (o.getD a):=by cases o with | none=>cases h | some x=>rfl
theorem yI (w : World) : (qw PySem.Challenge.pw_pb0345_01 5270 (rB w) w).map (fun r=>openSeen mw [] (importedModules PySem.Challenge.pw_pb0345_01.main.body) H9 true r.2.1.abs) = some (openGood mw []):=by kernel_rfl
theorem zg (w : World) : (qw PySem.Challenge.pw_pb0345_01 5270 (rB w) w).map (fun r=>(mZ PySem.Challenge.pw_pb0345_01 (rB w) r.2.1.abs,Hook.obs hk r.2.1.abs)) = some (true,Hook.val hk w):=by kernel_rfl
theorem left1 : LeftO PySem.Challenge.pw_pb0345_01 mw [] (fun s=>xlAt mw [] s && recOk (RowW.records (OpenRow.toRowW (OpenLaw.row PySem.Challenge.rw_pb0345_01))) s) (Hook.obs hk) (Hook.val hk) 5270:=
 zx (s0:=rB) (fun w=>yx (zX w)) zt zw yI zg
end Mine
end
section
namespace Mine
inductive LX where
 | n (k : Nat)
 | v (i : Nat)
 | a (x y : LX)
 | m (k : Nat) (x : LX)
noncomputable def LX.d (c : List Nat) : LX → Nat
 | .n k=>k
 | .v i=>c.getD i 0
 | .a x y=>x.d c + y.d c
 | .m k x=>k * x.d c
noncomputable def LX.k : LX → Nat
 | .n k=>k
 | .v _=>0
 | .a x y=>x.k + y.k
 | .m k x=>k * x.k
noncomputable def LX.cf (i : Nat) : LX → Nat
 | .n _=>0
 | .v j=>bif Nat.beq i j then 1 else 0
 | .a x y=>x.cf i + y.cf i
 | .m k x=>k * x.cf i
theorem BO {a b : Nat} (h : a ≠ b) : Nat.beq a b = false:=by
 cases e : Nat.beq a b with
 | false=>rfl
 | true=>exact absurd (Nat.eq_of_beq_eq_true e) h
noncomputable def lsm (f : Nat → Nat) : Nat → List Nat → Nat
 | _,[]=>0
 | i,y :: r=>f i * y + lsm f (i + 1) r
theorem sA : ∀ (i : Nat) (c : List Nat),lsm (fun _=>0) i c = 0
 | _,[]=>rfl
 | i,y :: r=>by show 0 * y + _ = 0; rw [sA]; simp
theorem vw (f g : Nat → Nat) : ∀ (i : Nat) (c : List Nat),lsm (fun j=>f j + g j) i c = lsm f i c + lsm g i c
 | _,[]=>rfl
 | i,y :: r=>by show (f i + g i) * y + _ = f i * y + _ + (g i * y + _); rw [vw,Nat.add_mul,Nat.add_add_add_comm]
theorem vp (k : Nat) (f : Nat → Nat) : ∀ (i : Nat) (c : List Nat),lsm (fun j=>k * f j) i c = k * lsm f i c
 | _,[]=>rfl
 | i,y :: r=>by show k * f i * y + _ = k * (f i * y + _); rw [vp,Nat.mul_add,Nat.mul_assoc]
theorem vn (j : Nat) : ∀ (i : Nat) (c : List Nat),lsm (fun l=>bif Nat.beq l (i + j) then 1 else 0) i c = c.getD j 0
 | _,[]=>rfl
 | i,y :: r=>by
  show (bif Nat.beq i (i + j) then 1 else 0) * y + lsm _ (i + 1) r = _
  cases j with
  | zero=>
   have h : ∀ (l : Nat) (r : List Nat),i < l → lsm (fun l=>bif Nat.beq l (i + 0) then 1 else 0) l r = 0:=by
    intro l r
    induction r generalizing l with
    | nil=>intro _; rfl
    | cons z r ih=>
     intro hl
     show (bif Nat.beq l (i + 0) then 1 else 0) * z + _ = 0
     rw [ih (l + 1) (Nat.lt_succ_of_lt hl),BO (by rw [Nat.add_zero]; exact Nat.ne_of_gt hl)]
     simp
   rw [h _ _ (Nat.lt_succ_self i)]
   simp
  | succ j=>
   have e : i + (j + 1) = i + 1 + j:=by rw [Nat.add_assoc,Nat.add_comm 1]
   rw [e,vn j (i + 1) r,BO (by rw [Nat.add_assoc]; exact Nat.ne_of_lt (Nat.lt_add_of_pos_right (Nat.add_pos_left Nat.one_pos _)))]
   simp
theorem LX.eq (c : List Nat) : ∀ x : LX,x.d c = x.k + lsm (fun i=>x.cf i) 0 c
 | .n k=>by show k = k + lsm (fun _=>0) 0 c; rw [sA]; rfl
 | .v i=>by
  show c.getD i 0 = 0 + lsm (fun l=>bif Nat.beq l i then 1 else 0) 0 c
  have:=vn i 0 c
  rw [Nat.zero_add] at this
  rw [this,Nat.zero_add]
 | .a x y=>by show x.d c + y.d c = x.k + y.k + lsm (fun j=>x.cf j + y.cf j) 0 c; rw [vw,x.eq c,y.eq c,Nat.add_add_add_comm]
 | .m k x=>by show k * x.d c = k * x.k + lsm (fun j=>k * x.cf j) 0 c; rw [vp,x.eq c,Nat.mul_add]
noncomputable def yE (f g : Nat → Nat) : Nat → Nat → Bool
 | _,0=>true
 | i,n + 1=>bif Nat.ble (f i) (g i) then yE f g (i + 1) n else false
theorem vq (f g : Nat → Nat) : ∀ (i : Nat) (c : List Nat),yE f g i c.length = true → lsm f i c ≤ lsm g i c
 | _,[],_=>Nat.le_refl _
 | i,y :: r,h=>by
  have h : (bif Nat.ble (f i) (g i) then yE f g (i + 1) r.length else false) = true:=h
  cases hb : Nat.ble (f i) (g i) with
  | false=>rw [hb] at h; cases h
  | true=>
   rw [hb] at h
   exact Nat.add_le_add (Nat.mul_le_mul_right _ (Nat.le_of_ble_eq_true hb)) (vq f g (i + 1) r h)
noncomputable def DL (n : Nat) : List (Nat × LX × LX) → LX → LX → Bool
 | [],L,R=>bif Nat.ble (R.k + 1) L.k then yE (fun i=>R.cf i) (fun i=>L.cf i) 0 n else false
 | (k,l,r) :: t,L,R=>DL n t (.a L (.m k l)) (.a R (.m k r))
noncomputable def Cv (c : List Nat) : List (Nat × LX × LX) → Prop
 | []=>False
 | (_,l,r) :: t=>l.d c ≤ r.d c → Cv c t
theorem Ev (c : List Nat) : ∀ (hs : List (Nat × LX × LX)) (L R : LX),L.d c ≤ R.d c → DL c.length hs L R = true → Cv c hs
 | [],L,R,h,e=>by
  have e : (bif Nat.ble (R.k + 1) L.k then yE (fun i=>R.cf i) (fun i=>L.cf i) 0 c.length else false) = true:=e
  cases hb : Nat.ble (R.k + 1) L.k with
  | false=>rw [hb] at e; cases e
  | true=>
   rw [hb] at e
   have h1:=Nat.le_of_ble_eq_true hb
   have h2:=vq _ _ 0 c e
   rw [L.eq c,R.eq c] at h
   exact Nat.lt_irrefl _ (Nat.lt_of_lt_of_le (Nat.lt_of_lt_of_le (Nat.add_lt_add_right h1 _) (Nat.add_le_add_left (Nat.le_refl _) _)) (Nat.le_trans h (Nat.add_le_add_left h2 _)))
 | (k,l,r) :: t,L,R,h,e=>fun h1=>Ev c t (.a L (.m k l)) (.a R (.m k r)) (Nat.add_le_add h (Nat.mul_le_mul_left k h1)) e
theorem far (c : List Nat) (hs : List (Nat × LX × LX)) (e : DL c.length hs (.n 0) (.n 0) = true) : Cv c hs:=Ev c hs (.n 0) (.n 0) (Nat.le_refl _) e
theorem sF1 (a b : Nat) : a ≤ a - b + b:=Nat.sub_le_iff_le_add.mp (Nat.le_refl _)
theorem sF3 {a b : Nat} (h : b ≤ a) : a - b + b ≤ a:=Nat.le_of_eq (Nat.sub_add_cancel h)
theorem sF0 {a b : Nat} (h : a ≤ b) : a - b ≤ 0:=Nat.le_of_eq (Nat.sub_eq_zero_of_le h)
theorem dF (a : Nat) {k : Nat} (h : 0 < k) : a + 1 ≤ k * (a / k) + k:=by have:=Nat.lt_mul_div_succ a h; rw [Nat.mul_add,Nat.mul_one] at this; exact this
theorem nl {m n : Nat} (h : ¬ m < n) : n ≤ m:=Nat.le_of_not_lt h
theorem nt {m n : Nat} (h : ¬ n ≤ m) : m < n:=Nat.lt_of_not_le h
theorem na {m n : Nat} (h : m ≤ n) (g : n ≤ m) : m = n:=Nat.le_antisymm h g
theorem qe {m n : Nat} (h : m = n) : m ≤ n:=Nat.le_of_eq h
theorem ge {m n : Nat} (h : m = n) : n ≤ m:=Nat.le_of_eq h.symm
section
variable {a b c d e f g i j k l m n p q r s t u : Nat}
theorem o0 (h0 : a ≤ b) (h1 : b ≤ c) : (b - a) ≤ (c - 0):=nl fun z=>far [b,c,(c - 0),(b - a)] [(1,.v 0,.v 1),(1,.a (.v 2) (.n 1),.v 3),(1,.v 1,.a (.v 2) (.n 0)),(1,.v 3,.v 0)] rfl h1 z (sF1 c 0) (Nat.sub_le b a)
theorem o1 (h0 : a ≤ b) (h1 : (b - a) ≤ (c - (max 0 c))) : a = b:=na (nl fun z=>far [a,b] [(1,.v 0,.v 1),(1,.a (.v 1) (.n 1),.v 0)] rfl h0 z) (nl fun z=>far [a,b,(b - a),c,(max 0 c),(c - (max 0 c))] [(1,.v 2,.v 5),(1,.a (.v 0) (.n 1),.v 1),(1,.v 1,.a (.v 2) (.v 0)),(1,.a (.v 5) (.v 4),.v 3),(1,.v 3,.v 4)] rfl h1 z (sF1 b a) (sF3 (nl fun z16=>far [a,b,(b - a),(c - (max 0 c))] [(1,.v 2,.v 3),(1,.a (.v 0) (.n 1),.v 1),(1,.v 1,.a (.v 2) (.v 0)),(1,.v 3,.n 0)] rfl h1 z (sF1 b a) (sF0 (nl fun z19=>far [c,(max 0 c)] [(1,.a (.v 0) (.n 1),.v 1),(1,.a (.v 1) (.n 1),.v 0)] rfl z16 z19)))) (Nat.le_max_right 0 c))
theorem o2 (h0 : a ≤ b) (h1 : a ≥ b) : a = b:=na (nl fun z=>far [a,b] [(1,.v 0,.v 1),(1,.a (.v 1) (.n 1),.v 0)] rfl h0 z) (nl fun z=>far [a,b] [(1,.v 1,.v 0),(1,.a (.v 0) (.n 1),.v 1)] rfl h1 z)
theorem o3 (h0 : a ≤ b) (h1 : ¬(c ≥ a)) : (c + ((a - c) / 2)) < b:=nt fun z=>far [a,b,c,(a - c),((a - c) / 2)] [(2,.v 0,.v 1),(1,.a (.v 2) (.n 1),.v 0),(2,.v 1,.a (.v 2) (.v 4)),(1,.m 2 (.v 4),.v 3),(1,.a (.v 3) (.v 2),.v 0)] rfl h0 (nt h1) z (Nat.mul_div_le (a - c) 2) (sF3 (nl fun z20=>far [a,c] [(1,.a (.v 1) (.n 1),.v 0),(1,.a (.v 0) (.n 1),.v 1)] rfl (nt h1) z20))
theorem o4 (h0 : ¬(a ≥ b)) : ((a + ((b - a) / 2)) + 1) ≤ b:=nl fun z=>far [a,b,(b - a),((b - a) / 2)] [(1,.a (.v 0) (.n 1),.v 1),(2,.a (.v 1) (.n 1),.a (.a (.v 0) (.v 3)) (.n 1)),(1,.m 2 (.v 3),.v 2),(1,.a (.v 2) (.v 0),.v 1)] rfl (nt h0) z (Nat.mul_div_le (b - a) 2) (sF3 (nl fun z22=>far [a,b] [(1,.a (.v 0) (.n 1),.v 1),(1,.a (.v 1) (.n 1),.v 0)] rfl (nt h0) z22))
theorem o5 (h0 : a < b) (h1 : (c - d) ≤ (b - a)) (h2 : ¬(d ≥ c)) : (c - ((d + ((c - d) / 2)) + 1)) ≤ (b - (a + 1)):=nl fun z=>far [a,b,c,d,(c - d),(b - a),(b - (a + 1)),((c - d) / 2),(c - ((d + ((c - d) / 2)) + 1))] [(1,.v 4,.v 5),(1,.a (.v 6) (.n 1),.v 8),(1,.v 2,.a (.v 4) (.v 3)),(1,.a (.v 5) (.v 0),.v 1),(1,.v 1,.a (.v 6) (.a (.v 0) (.n 1))),(1,.a (.v 8) (.a (.a (.v 3) (.v 7)) (.n 1)),.v 2)] rfl h1 z (sF1 c d) (sF3 (nl fun z29=>far [a,b] [(1,.a (.v 0) (.n 1),.v 1),(1,.a (.v 1) (.n 1),.v 0)] rfl h0 z29)) (sF1 b (a + 1)) (sF3 (nl fun z39=>far [(b - (a + 1)),(c - ((d + ((c - d) / 2)) + 1))] [(1,.a (.v 0) (.n 1),.v 1),(1,.v 1,.n 0)] rfl z (sF0 (nl fun z44=>far [c,d,((c - d) / 2)] [(1,.a (.v 0) (.n 1),.a (.a (.v 1) (.v 2)) (.n 1)),(1,.a (.a (.a (.v 1) (.v 2)) (.n 1)) (.n 1),.v 0)] rfl z39 z44))))
theorem o6 (h0 : a < ((b + ((c - b) / 2)) + 1)) : a ≤ (b + ((c - b) / 2)):=nl fun z=>far [a,b,((c - b) / 2)] [(1,.a (.v 0) (.n 1),.a (.a (.v 1) (.v 2)) (.n 1)),(1,.a (.a (.v 1) (.v 2)) (.n 1),.v 0)] rfl h0 z
theorem o7 : a ≤ (a + ((b - a) / 2)):=nl fun z=>far [a,((b - a) / 2)] [(1,.a (.a (.v 0) (.v 1)) (.n 1),.v 0)] rfl z
theorem o8 (h0 : a ≤ b) (h1 : ¬(c ≥ a)) : (c + ((a - c) / 2)) ≤ b:=nl fun z=>far [a,b,c,(a - c),((a - c) / 2)] [(2,.v 0,.v 1),(1,.a (.v 2) (.n 1),.v 0),(2,.a (.v 1) (.n 1),.a (.v 2) (.v 4)),(1,.m 2 (.v 4),.v 3),(1,.a (.v 3) (.v 2),.v 0)] rfl h0 (nt h1) z (Nat.mul_div_le (a - c) 2) (sF3 (nl fun z49=>far [a,c] [(1,.a (.v 1) (.n 1),.v 0),(1,.a (.v 0) (.n 1),.v 1)] rfl (nt h1) z49))
theorem o9 (h0 : a < b) (h1 : (c - d) ≤ (b - a)) (h2 : ¬(d ≥ c)) : ((d + ((c - d) / 2)) - d) ≤ (b - (a + 1)):=nl fun z=>far [a,b,d,(c - d),(b - a),(b - (a + 1)),((c - d) / 2),((d + ((c - d) / 2)) - d)] [(1,.v 3,.v 4),(2,.a (.v 5) (.n 1),.v 7),(1,.a (.v 4) (.v 0),.v 1),(1,.v 1,.a (.v 5) (.a (.v 0) (.n 1))),(2,.a (.v 7) (.v 2),.a (.v 2) (.v 6)),(1,.m 2 (.v 6),.v 3)] rfl h1 z (sF3 (nl fun z56=>far [a,b] [(1,.a (.v 0) (.n 1),.v 1),(1,.a (.v 1) (.n 1),.v 0)] rfl h0 z56)) (sF1 b (a + 1)) (sF3 (nl fun z66=>far [d,((c - d) / 2)] [(1,.a (.a (.v 0) (.v 1)) (.n 1),.v 0)] rfl z66)) (Nat.mul_div_le (c - d) 2)
theorem o10 : 0 < 1:=nt fun z=>far [] [(1,.n 1,.n 0)] rfl z
theorem o11 (h0 : a < b) (h1 : c < d) (h2 : (a + c) < b) : ((a + c) + 1) ≤ (a + (min d (b - a))):=Nat.add_le_add_left (Nat.le_min.mpr ⟨h1,Nat.le_sub_of_add_le' h2⟩) a
theorem o12 (h0 : a < b) : (a + (min c (b - a))) ≤ b:=nl fun z=>far [a,b,(b - a),(min c (b - a))] [(1,.a (.v 1) (.n 1),.a (.v 0) (.v 3)),(1,.v 3,.v 2),(1,.a (.v 2) (.v 0),.v 1)] rfl z (Nat.min_le_right c (b - a)) (sF3 (nl fun z73=>far [a,b] [(1,.a (.v 0) (.n 1),.v 1),(1,.a (.v 1) (.n 1),.v 0)] rfl h0 z73))
theorem o13 (h0 : a < ((b + c) + 1)) : a ≤ (b + c):=nl fun z=>far [a,b,c] [(1,.a (.v 0) (.n 1),.a (.a (.v 1) (.v 2)) (.n 1)),(1,.a (.a (.v 1) (.v 2)) (.n 1),.v 0)] rfl h0 z
theorem o14 (h0 : a < b) (h1 : (a + (min c (b - a))) ≤ d) (h2 : d < b) : (a + c) ≤ d:=by first | lia | omega
theorem o15 (h0 : a < b) (h1 : (a + (min c (b - a))) ≤ d) (h2 : d < b) : (a + c) < b:=Nat.lt_of_le_of_lt (o14 h0 h1 h2) h2
theorem o16 (h0 : a < b) (h1 : ¬(c ≥ (b - a))) : (a + c) < b:=nt fun z=>far [a,b,c,(b - a)] [(1,.a (.v 2) (.n 1),.v 3),(1,.v 1,.a (.v 0) (.v 2)),(1,.a (.v 3) (.v 0),.v 1)] rfl (nt h1) z (sF3 (nl fun z79=>far [a,b] [(1,.a (.v 0) (.n 1),.v 1),(1,.a (.v 1) (.n 1),.v 0)] rfl h0 z79))
theorem o17 : a < ((2 * a) + 1):=nt fun z=>far [a] [(1,.a (.m 2 (.v 0)) (.n 1),.v 0)] rfl z
theorem o18 (h0 : 0 ≤ a) (h1 : a < b) : (a + 1) < ((2 * b) + 1):=nt fun z=>far [a,b] [(2,.a (.v 0) (.n 1),.v 1),(1,.a (.m 2 (.v 1)) (.n 1),.a (.v 0) (.n 1))] rfl h1 z
theorem o19 : 0 ≤ a:=nl fun z=>far [a] [(1,.a (.v 0) (.n 1),.n 0)] rfl z
theorem o20 (h0 : a < b) (h1 : a ≤ c) : ((c + 1) - (min b (c + 1))) ≤ (c - a):=Nat.succ_sub_succ c a ▸ Nat.sub_le_sub_left (Nat.le_min.mpr ⟨h0,Nat.succ_le_succ h1⟩) (c + 1)
theorem o21 (h0 : a < b) (h1 : c ≤ a) : (a - c) ≤ b:=nl fun z=>far [a,b,(a - c)] [(1,.a (.v 0) (.n 1),.v 1),(1,.a (.v 1) (.n 1),.v 2),(1,.v 2,.v 0)] rfl h0 z (Nat.sub_le a c)
theorem o24 (h0 : a < ((b + 1) - (min c (b + 1)))) : c ≤ b:=Nat.le_of_not_lt fun h=>Nat.not_lt_zero a (by rwa [Nat.min_eq_right h,Nat.sub_self] at h0)
theorem o22 (h0 : a < ((b + 1) - (min c (b + 1)))) : a ≤ (b - c):=Nat.le_sub_of_add_le (Nat.le_of_lt_succ (Nat.add_lt_of_lt_sub (Nat.min_eq_left (Nat.le_succ_of_le (o24 h0)) ▸ h0)))
theorem o23 (h0 : a < b) (h1 : c < d) (h2 : c ≤ a) : (a - d) < b:=nt fun z=>far [a,b,(a - d)] [(1,.a (.v 0) (.n 1),.v 1),(1,.v 1,.v 2),(1,.v 2,.v 0)] rfl h0 z (Nat.sub_le a d)
theorem o25 (h0 : a < b) (h1 : c < d) (h2 : ¬(d ≥ (a + 1))) : (a - d) < b:=nt fun z=>far [a,b,(a - d)] [(1,.a (.v 0) (.n 1),.v 1),(1,.v 1,.v 2),(1,.v 2,.v 0)] rfl h0 z (Nat.sub_le a d)
theorem o26 (h0 : ¬(a ≥ (b + 1))) : a ≤ b:=nl fun z=>far [a,b] [(1,.a (.v 0) (.n 1),.a (.v 1) (.n 1)),(1,.a (.v 1) (.n 1),.v 0)] rfl (nt h0) z
theorem o27 (h0 : (a + 1) = b) : b ≤ (a + 1):=nl fun z=>far [a,b] [(1,.v 1,.a (.v 0) (.n 1)),(1,.a (.a (.v 0) (.n 1)) (.n 1),.v 1)] rfl (ge h0) z
theorem o28 (h0 : a = b) : b ≤ a:=nl fun z=>far [a,b] [(1,.v 1,.v 0),(1,.a (.v 0) (.n 1),.v 1)] rfl (ge h0) z
theorem o29 (h0 : (a + 1) = b) : (b - 1) = a:=na (nl fun z=>far [a,b,(b - 1)] [(1,.v 1,.a (.v 0) (.n 1)),(1,.a (.v 0) (.n 1),.v 2),(1,.a (.v 2) (.n 1),.v 1)] rfl (ge h0) z (sF3 (nl fun z105=>far [a,b] [(1,.a (.v 0) (.n 1),.v 1),(1,.a (.v 1) (.n 1),.n 1)] rfl (qe h0) z105))) (nl fun z=>far [a,b,(b - 1)] [(1,.a (.v 0) (.n 1),.v 1),(1,.a (.v 2) (.n 1),.v 0),(1,.v 1,.a (.v 2) (.n 1))] rfl (qe h0) z (sF1 b 1))
theorem o30 (h0 : a < (min b c)) : a < b:=nt fun z=>far [a,b,(min b c)] [(1,.a (.v 0) (.n 1),.v 2),(1,.v 1,.v 0),(1,.v 2,.v 1)] rfl h0 z (Nat.min_le_left b c)
theorem o31 (h0 : (a + b) ≤ c) (h1 : d < b) : (a + d) < c:=nt fun z=>far [a,b,c,d] [(1,.a (.v 0) (.v 1),.v 2),(1,.a (.v 3) (.n 1),.v 1),(1,.v 2,.a (.v 0) (.v 3))] rfl h0 h1 z
theorem o32 (h0 : (a + b) ≤ c) (h1 : d ≤ e) (h2 : e < b) : (a + d) < c:=nt fun z=>far [a,b,c,d,e] [(1,.a (.v 0) (.v 1),.v 2),(1,.v 3,.v 4),(1,.a (.v 4) (.n 1),.v 1),(1,.v 2,.a (.v 0) (.v 3))] rfl h0 h1 h2 z
theorem o33 (h0 : a ≤ b) : (c + a) ≤ (c + b):=nl fun z=>far [a,b,c] [(1,.v 0,.v 1),(1,.a (.a (.v 2) (.v 1)) (.n 1),.a (.v 2) (.v 0))] rfl h0 z
theorem o34 {a b c d : Nat} {e f g : Int} (h0 : (a + b) < c) (h1 : (a + d) < c) (h2 : e ≤ f) (h3 : f < g) : e < g:=Int.lt_of_le_of_lt h2 h3
theorem o35 {a b c d : Nat} {e f g : Int} (h0 : (a + b) < c) (h1 : (a + d) < c) (h2 : e ≤ f) (h3 : ¬(g < f)) (h4 : g < e) : False:=h3 (Int.lt_of_lt_of_le h4 h2)
theorem o36 (h0 : a ≤ (b + c)) : a < ((b + 1) + c):=nt fun z=>far [a,b,c] [(1,.v 0,.a (.v 1) (.v 2)),(1,.a (.a (.v 1) (.n 1)) (.v 2),.v 0)] rfl h0 z
theorem o37 (h0 : (a + 1) < b) (h1 : c ≤ (b - (a + 1))) (h2 : ¬(((a + 1) + c) = b)) : ((a + 1) + c) < b:=Nat.lt_of_le_of_ne (Nat.add_le_of_le_sub' (Nat.le_of_lt h0) h1) h2
theorem o38 (h0 : a ≤ (b + (c + 1))) (h1 : d > 0) : a ≤ (b + ((c + 1) + d)):=nl fun z=>far [a,b,c,d] [(1,.v 0,.a (.v 1) (.a (.v 2) (.n 1))),(1,.a (.n 0) (.n 1),.v 3),(1,.a (.a (.v 1) (.a (.a (.v 2) (.n 1)) (.v 3))) (.n 1),.v 0)] rfl h0 h1 z
theorem o39 (h0 : (a + 1) < b) : (a + (b - a)) ≤ b:=nl fun z=>far [a,b,(b - a)] [(1,.a (.v 1) (.n 1),.a (.v 0) (.v 2)),(1,.a (.v 2) (.v 0),.v 1)] rfl z (sF3 (nl fun z111=>far [a,b] [(1,.a (.a (.v 0) (.n 1)) (.n 1),.v 1),(1,.a (.v 1) (.n 1),.v 0)] rfl h0 z111))
theorem o40 (h0 : (a + 1) < b) : 0 < (b - a):=nt fun z=>far [a,b,(b - a)] [(1,.a (.a (.v 0) (.n 1)) (.n 1),.v 1),(1,.v 2,.n 0),(1,.v 1,.a (.v 2) (.v 0))] rfl h0 z (sF1 b a)
theorem o41 (h0 : (a + 1) < b) (h1 : c ≤ (b - a)) (h2 : ¬(((a + c) + 1) = b)) (h3 : ¬((a + c) = b)) : ((a + c) + 1) < b:=Nat.lt_of_le_of_ne (Nat.lt_of_le_of_ne (Nat.add_le_of_le_sub' (Nat.le_of_lt (Nat.lt_of_succ_lt h0)) h1) h3) h2
theorem o42 (h0 : a > 0) : (b + (c + 1)) ≤ ((b + a) + (c + 1)):=nl fun z=>far [a,b,c] [(1,.a (.n 0) (.n 1),.v 0),(1,.a (.a (.a (.v 1) (.v 0)) (.a (.v 2) (.n 1))) (.n 1),.a (.v 1) (.a (.v 2) (.n 1)))] rfl h0 z
theorem o43 : ((a + b) + 1) = ((a + 1) + b):=na (nl fun z=>far [a,b] [(1,.a (.a (.a (.v 0) (.n 1)) (.v 1)) (.n 1),.a (.a (.v 0) (.v 1)) (.n 1))] rfl z) (nl fun z=>far [a,b] [(1,.a (.a (.a (.v 0) (.v 1)) (.n 1)) (.n 1),.a (.a (.v 0) (.n 1)) (.v 1))] rfl z)
theorem o44 : (a + b) < ((a + 1) + b):=nt fun z=>far [a,b] [(1,.a (.a (.v 0) (.n 1)) (.v 1),.a (.v 0) (.v 1))] rfl z
theorem o45 (h0 : ((max 0 (a + b)) + c) < (d + e)) (h1 : (d + 1) < a) (h2 : e < b) : False:=far [a,b,(max 0 (a + b)),c,d,e] [(1,.a (.a (.v 2) (.v 3)) (.n 1),.a (.v 4) (.v 5)),(1,.a (.a (.v 4) (.n 1)) (.n 1),.v 0),(1,.a (.v 5) (.n 1),.v 1),(1,.a (.v 0) (.v 1),.v 2)] rfl h0 h1 h2 (Nat.le_max_right 0 (a + b))
theorem o46 (h0 : (a + b) < (c + d)) (h1 : (c + (d + 1)) < (e + f)) : ((a + 1) + b) < (e + f):=nt fun z=>far [a,b,c,d,e,f] [(1,.a (.a (.v 0) (.v 1)) (.n 1),.a (.v 2) (.v 3)),(1,.a (.a (.v 2) (.a (.v 3) (.n 1))) (.n 1),.a (.v 4) (.v 5)),(1,.a (.v 4) (.v 5),.a (.a (.v 0) (.n 1)) (.v 1))] rfl h0 h1 z
theorem o47 (h0 : ((max 0 (a + b)) + (c + d)) ≤ (e + f)) (h1 : (e + 1) < a) (h2 : f < b) : False:=far [a,b,(max 0 (a + b)),c,d,e,f] [(1,.a (.v 2) (.a (.v 3) (.v 4)),.a (.v 5) (.v 6)),(1,.a (.a (.v 5) (.n 1)) (.n 1),.v 0),(1,.a (.v 6) (.n 1),.v 1),(1,.a (.v 0) (.v 1),.v 2)] rfl h0 h1 h2 (Nat.le_max_right 0 (a + b))
theorem o48 (h0 : (a + (b + c)) ≤ (d + e)) (h1 : (d + e) < (f + g)) : ((a + 1) + (b + c)) ≤ (f + g):=nl fun z=>far [a,b,c,d,e,f,g] [(1,.a (.v 0) (.a (.v 1) (.v 2)),.a (.v 3) (.v 4)),(1,.a (.a (.v 3) (.v 4)) (.n 1),.a (.v 5) (.v 6)),(1,.a (.a (.v 5) (.v 6)) (.n 1),.a (.a (.v 0) (.n 1)) (.a (.v 1) (.v 2)))] rfl h0 h1 z
theorem o49 (h0 : 0 < a) (h1 : ¬((0 + 1) = a)) : (0 + 1) < a:=Nat.lt_of_le_of_ne h0 h1
theorem o50 (h0 : 0 < a) (h1 : 0 < b) (h2 : ¬(1 = b)) (h3 : ¬((0 + 1) = a)) : 1 < b:=Nat.lt_of_le_of_ne h1 h2
theorem o51 (h0 : 0 < a) (h1 : 0 < b) (h2 : (max 0 (a + b)) < (c + d)) (h3 : (c + 1) < a) (h4 : d < b) : False:=far [a,b,(max 0 (a + b)),c,d] [(1,.a (.v 2) (.n 1),.a (.v 3) (.v 4)),(1,.a (.a (.v 3) (.n 1)) (.n 1),.v 0),(1,.a (.v 4) (.n 1),.v 1),(1,.a (.v 0) (.v 1),.v 2)] rfl h2 h3 h4 (Nat.le_max_right 0 (a + b))
theorem o52 (h0 : a ≤ b) : (a + (b - a)) = b:=na (nl fun z=>far [a,b,(b - a)] [(1,.a (.v 1) (.n 1),.a (.v 0) (.v 2)),(1,.a (.v 2) (.v 0),.v 1)] rfl z (sF3 (nl fun z117=>far [a,b] [(1,.v 0,.v 1),(1,.a (.v 1) (.n 1),.v 0)] rfl h0 z117))) (nl fun z=>far [a,b,(b - a)] [(1,.a (.a (.v 0) (.v 2)) (.n 1),.v 1),(1,.v 1,.a (.v 2) (.v 0))] rfl z (sF1 b a))
theorem o53 (h0 : 0 < a) (h1 : b < (min a c)) : b ≤ (a - 1):=nl fun z=>far [a,b,(min a c),(a - 1)] [(1,.a (.v 1) (.n 1),.v 2),(1,.a (.v 3) (.n 1),.v 1),(1,.v 2,.v 0),(1,.v 0,.a (.v 3) (.n 1))] rfl h1 z (Nat.min_le_left a c) (sF1 a 1)
theorem o54 (h0 : a < (min 1 b)) : a < 1:=nt fun z=>far [a,(min 1 b)] [(1,.a (.v 0) (.n 1),.v 1),(1,.n 1,.v 0),(1,.v 1,.n 1)] rfl h0 z (Nat.min_le_left 1 b)
theorem o55 (h0 : a < (min 1 b)) : a = 0:=na (nl fun z=>far [a,(min 1 b)] [(1,.a (.v 0) (.n 1),.v 1),(1,.a (.n 0) (.n 1),.v 0),(1,.v 1,.n 1)] rfl h0 z (Nat.min_le_left 1 b)) (nl fun z=>far [a] [(1,.a (.v 0) (.n 1),.n 0)] rfl z)
theorem o56 (h0 : 0 < a) : (a - (a - 1)) = 1:=na (nl fun z=>far [a,(a - 1),(a - (a - 1))] [(1,.a (.n 1) (.n 1),.v 2),(1,.a (.v 2) (.v 1),.v 0),(1,.v 0,.a (.v 1) (.n 1))] rfl z (sF3 (nl fun z123=>far [a,(a - 1),(a - (a - 1))] [(1,.a (.n 1) (.n 1),.v 2),(1,.a (.v 0) (.n 1),.v 1),(1,.a (.v 2) (.v 1),.v 0)] rfl z z123 (sF3 (nl fun z124=>far [a,(a - 1)] [(1,.a (.v 0) (.n 1),.v 1),(1,.v 1,.v 0)] rfl z123 (Nat.sub_le a 1))))) (sF1 a 1)) (nl fun z=>far [a,(a - 1),(a - (a - 1))] [(1,.a (.v 2) (.n 1),.n 1),(1,.v 0,.a (.v 2) (.v 1)),(1,.a (.v 1) (.n 1),.v 0)] rfl z (sF1 a (a - 1)) (sF3 (nl fun z132=>far [a] [(1,.a (.n 0) (.n 1),.v 0),(1,.a (.v 0) (.n 1),.n 1)] rfl h0 z132)))
theorem o57 (h0 : 0 < a) : (a - 1) ≤ a:=nl fun z=>far [a,(a - 1)] [(1,.a (.v 0) (.n 1),.v 1),(1,.v 1,.v 0)] rfl z (Nat.sub_le a 1)
theorem o58 : a ≤ (a + b):=nl fun z=>far [a,b] [(1,.a (.a (.v 0) (.v 1)) (.n 1),.v 0)] rfl z
theorem o59 (h0 : a ≤ b) (h1 : c < (b - a)) : (a + c) < b:=nt fun z=>far [a,b,c,(b - a)] [(1,.a (.v 2) (.n 1),.v 3),(1,.v 1,.a (.v 0) (.v 2)),(1,.a (.v 3) (.v 0),.v 1)] rfl h1 z (sF3 (nl fun z137=>far [a,b] [(1,.v 0,.v 1),(1,.a (.v 1) (.n 1),.v 0)] rfl h0 z137))
theorem o60 (h0 : 0 < a) (h1 : (a + b) ≤ c) : ((a - 1) + b) < c:=nt fun z=>far [a,b,c,(a - 1)] [(1,.a (.v 0) (.v 1),.v 2),(1,.v 2,.a (.v 3) (.v 1)),(1,.a (.v 3) (.n 1),.v 0)] rfl h1 z (sF3 (nl fun z139=>far [a] [(1,.a (.n 0) (.n 1),.v 0),(1,.a (.v 0) (.n 1),.n 1)] rfl h0 z139))
theorem o61 (h0 : 1 < a) (h1 : (b + a) ≤ c) : (b + (a - 1)) < c:=nt fun z=>far [a,b,c,(a - 1)] [(1,.a (.v 1) (.v 0),.v 2),(1,.v 2,.a (.v 1) (.v 3)),(1,.a (.v 3) (.n 1),.v 0)] rfl h1 z (sF3 (nl fun z141=>far [a] [(1,.a (.n 1) (.n 1),.v 0),(1,.a (.v 0) (.n 1),.n 1)] rfl h0 z141))
theorem o62 (h0 : ¬((a - 1) = 1)) (h1 : 1 < a) : 1 < (a - 1):=Nat.lt_of_le_of_ne (Nat.le_sub_of_add_le h1) (Ne.symm h0)
theorem o63 (h0 : 1 < a) (h1 : a ≤ b) : (0 + (a - 1)) ≤ b:=nl fun z=>far [a,b,(a - 1)] [(1,.v 0,.v 1),(1,.a (.v 1) (.n 1),.a (.n 0) (.v 2)),(1,.v 2,.v 0)] rfl h1 z (Nat.sub_le a 1)
theorem o64 (h0 : 1 < a) : ((a - 1) - 1) < (a - 1):=nt fun z=>far [(a - 1),((a - 1) - 1)] [(1,.v 0,.v 1),(1,.a (.v 1) (.n 1),.v 0)] rfl z (sF3 (nl fun z150=>far [a,(a - 1)] [(1,.a (.n 1) (.n 1),.v 0),(1,.a (.v 1) (.n 1),.n 1),(1,.v 0,.a (.v 1) (.n 1))] rfl h0 z150 (sF1 a 1)))
theorem o65 (h0 : 1 < a) (h1 : a ≤ b) (h2 : ((a - 1) - c) > 0) (h3 : ¬(c = 1)) (h4 : ¬(c = 0)) : (c - 1) < b:=nt fun z=>far [a,b,(a - 1),c,((a - 1) - c),(c - 1)] [(1,.v 0,.v 1),(1,.a (.n 0) (.n 1),.v 4),(1,.v 1,.v 5),(1,.a (.v 4) (.v 3),.v 2),(1,.v 2,.v 0),(1,.v 5,.v 3)] rfl h1 h2 z (sF3 (nl fun z153=>far [((a - 1) - c)] [(1,.a (.n 0) (.n 1),.v 0),(1,.v 0,.n 0)] rfl h2 (sF0 (nl fun z155=>far [(a - 1),c] [(1,.a (.v 0) (.n 1),.v 1),(1,.a (.v 1) (.n 1),.v 0)] rfl z153 z155)))) (Nat.sub_le a 1) (Nat.sub_le c 1)
theorem o66 (h0 : ¬(a = 1)) (h1 : ¬(a = 0)) : 1 < a:=Nat.lt_of_le_of_ne (Nat.pos_of_ne_zero h1) (Ne.symm h0)
theorem o67 (h0 : 1 < a) (h1 : a ≤ b) (h2 : (c - 1) < b) : c ≤ b:=nl fun z=>far [b,c,(c - 1)] [(1,.a (.v 2) (.n 1),.v 0),(1,.a (.v 0) (.n 1),.v 1),(1,.v 1,.a (.v 2) (.n 1))] rfl h2 z (sF1 c 1)
theorem o68 (h0 : (a + b) ≤ (c + 1)) (h1 : 1 < b) (h2 : ((b - 1) - d) > 0) (h3 : ¬(d = 1)) (h4 : ¬(d = 0)) : (a + d) ≤ c:=nl fun z=>far [a,b,c,(b - 1),d,((b - 1) - d)] [(1,.a (.v 0) (.v 1),.a (.v 2) (.n 1)),(1,.a (.n 0) (.n 1),.v 5),(1,.a (.v 2) (.n 1),.a (.v 0) (.v 4)),(1,.a (.v 5) (.v 4),.v 3),(1,.v 3,.v 1)] rfl h0 h2 z (sF3 (nl fun z168=>far [((b - 1) - d)] [(1,.a (.n 0) (.n 1),.v 0),(1,.v 0,.n 0)] rfl h2 (sF0 (nl fun z170=>far [(b - 1),d] [(1,.a (.v 0) (.n 1),.v 1),(1,.a (.v 1) (.n 1),.v 0)] rfl z168 z170)))) (Nat.sub_le b 1)
theorem o69 (h0 : ¬(a = 0)) : (a - 1) < a:=Nat.sub_lt (Nat.pos_of_ne_zero h0) Nat.one_pos
theorem o70 (h0 : 1 < a) (h1 : b ≤ (a - 1)) (h2 : ¬(((a - 1) - b) > 0)) : b = (a - 1):=na (nl fun z=>far [b,(a - 1)] [(1,.v 0,.v 1),(1,.a (.v 1) (.n 1),.v 0)] rfl h1 z) (nl fun z=>far [b,(a - 1),((a - 1) - b)] [(1,.v 2,.n 0),(1,.a (.v 0) (.n 1),.v 1),(1,.v 1,.a (.v 2) (.v 0))] rfl (nl h2) z (sF1 (a - 1) b))
theorem o71 (h0 : 1 < a) (h1 : a ≤ b) : ((a - 1) - 1) < b:=nt fun z=>far [a,b,(a - 1),((a - 1) - 1)] [(1,.v 0,.v 1),(1,.v 1,.v 3),(1,.a (.v 3) (.n 1),.v 2),(1,.v 2,.v 0)] rfl h1 z (sF3 (nl fun z192=>far [a,b,(a - 1),((a - 1) - 1)] [(1,.a (.n 1) (.n 1),.v 0),(1,.v 0,.v 1),(1,.v 1,.v 3),(1,.a (.v 2) (.n 1),.n 1),(1,.v 3,.v 2)] rfl h0 h1 z z192 (Nat.sub_le (a - 1) 1))) (Nat.sub_le a 1)
theorem o72 (h0 : 1 < a) (h1 : a ≤ b) (h2 : ¬(((a - 1) - (a - 1)) > 0)) : (a - 1) ≤ b:=nl fun z=>far [a,b,(a - 1)] [(1,.v 0,.v 1),(1,.a (.v 1) (.n 1),.v 2),(1,.v 2,.v 0)] rfl h1 z (Nat.sub_le a 1)
theorem o73 (h0 : (a + b) ≤ (c + 1)) (h1 : 1 < b) (h2 : ¬(((b - 1) - (b - 1)) > 0)) : (a + (b - 1)) ≤ c:=nl fun z=>far [a,b,c,(b - 1)] [(1,.a (.v 0) (.v 1),.a (.v 2) (.n 1)),(1,.a (.v 2) (.n 1),.a (.v 0) (.v 3)),(1,.a (.v 3) (.n 1),.v 1)] rfl h0 z (sF3 (nl fun z207=>far [b] [(1,.a (.n 1) (.n 1),.v 0),(1,.a (.v 0) (.n 1),.n 1)] rfl h1 z207))
theorem o74 (h0 : 1 < a) (h1 : ¬(((a - 1) - (a - 1)) > 0)) : ((a - 1) - 1) < (a - 1):=nt fun z=>far [(a - 1),((a - 1) - 1)] [(1,.v 0,.v 1),(1,.a (.v 1) (.n 1),.v 0)] rfl z (sF3 (nl fun z218=>far [a,(a - 1)] [(1,.a (.n 1) (.n 1),.v 0),(1,.a (.v 1) (.n 1),.n 1),(1,.v 0,.a (.v 1) (.n 1))] rfl h0 z218 (sF1 a 1)))
theorem o75 (h0 : 1 < a) (h1 : a ≤ b) : (a - 1) < b:=nt fun z=>far [a,b,(a - 1)] [(1,.v 0,.v 1),(1,.v 1,.v 2),(1,.a (.v 2) (.n 1),.v 0)] rfl h1 z (sF3 (nl fun z222=>far [a] [(1,.a (.n 1) (.n 1),.v 0),(1,.a (.v 0) (.n 1),.n 1)] rfl h0 z222))
theorem o76 (h0 : a ≤ b) : (0 + a) ≤ b:=nl fun z=>far [a,b] [(1,.v 0,.v 1),(1,.a (.v 1) (.n 1),.a (.n 0) (.v 0))] rfl h0 z
theorem o77 (h0 : 0 < a) : (a - 1) < a:=nt fun z=>far [a,(a - 1)] [(1,.v 0,.v 1),(1,.a (.v 1) (.n 1),.v 0)] rfl z (sF3 (nl fun z224=>far [a] [(1,.a (.n 0) (.n 1),.v 0),(1,.a (.v 0) (.n 1),.n 1)] rfl h0 z224))
theorem o78 (h0 : 0 < a) (h1 : a ≤ b) (h2 : c ≤ a) : (c - 1) < b:=nt fun z=>far [a,b,c,(c - 1)] [(1,.v 0,.v 1),(1,.v 2,.v 0),(1,.v 1,.v 3),(1,.a (.v 3) (.n 1),.v 2)] rfl h1 h2 z (sF3 (nl fun z226=>far [a,b,c,(c - 1)] [(1,.a (.n 0) (.n 1),.v 0),(1,.v 0,.v 1),(1,.v 1,.v 3),(1,.a (.v 2) (.n 1),.n 1),(1,.v 3,.v 2)] rfl h0 h1 z z226 (Nat.sub_le c 1)))
theorem o79 (h0 : a ≤ b) (h1 : c ≤ a) : c ≤ b:=nl fun z=>far [a,b,c] [(1,.v 0,.v 1),(1,.v 2,.v 0),(1,.a (.v 1) (.n 1),.v 2)] rfl h0 h1 z
theorem o80 (h0 : (a + b) ≤ (c + 1)) (h1 : d ≤ a) : (d + b) ≤ (c + 1):=nl fun z=>far [a,b,c,d] [(1,.a (.v 0) (.v 1),.a (.v 2) (.n 1)),(1,.v 3,.v 0),(1,.a (.a (.v 2) (.n 1)) (.n 1),.a (.v 3) (.v 1))] rfl h0 h1 z
theorem o81 (h0 : a ≤ b) (h1 : ¬((b - a) > 0)) : a = b:=na (nl fun z=>far [a,b] [(1,.v 0,.v 1),(1,.a (.v 1) (.n 1),.v 0)] rfl h0 z) (nl fun z=>far [a,b,(b - a)] [(1,.v 2,.n 0),(1,.a (.v 0) (.n 1),.v 1),(1,.v 1,.a (.v 2) (.v 0))] rfl (nl h1) z (sF1 b a))
theorem o82 (h0 : 0 < a) (h1 : a ≤ b) : (a - 1) < b:=nt fun z=>far [a,b,(a - 1)] [(1,.v 0,.v 1),(1,.v 1,.v 2),(1,.a (.v 2) (.n 1),.v 0)] rfl h1 z (sF3 (nl fun z232=>far [a] [(1,.a (.n 0) (.n 1),.v 0),(1,.a (.v 0) (.n 1),.n 1)] rfl h0 z232))
theorem o83 (h0 : (a - 1) < b) (h1 : (a - 1) = 1) : 0 < b:=nt fun z=>far [(a - 1),b] [(1,.a (.v 0) (.n 1),.v 1),(1,.n 1,.v 0),(1,.v 1,.n 0)] rfl h0 (ge h1) z
theorem o84 (h0 : 1 < a) (h1 : ¬((a - 1) = 1)) : 1 < (a - 1):=Nat.lt_of_le_of_ne (Nat.le_sub_of_add_le h0) (Ne.symm h1)
theorem o85 (h0 : ((a + b) + c) < d) (h1 : d ≤ (max 0 a)) : False:=absurd (Nat.zero_max a ▸ h1) (Nat.not_le_of_lt (Nat.lt_of_le_of_lt (Nat.le_trans (Nat.le_add_right a b) (Nat.le_add_right _ c)) h0))
theorem o86 : (a + b) ≤ (((a + b) - 1) + 1):=nl fun z=>far [a,b,((a + b) - 1)] [(1,.a (.a (.v 2) (.n 1)) (.n 1),.a (.v 0) (.v 1)),(1,.a (.v 0) (.v 1),.a (.v 2) (.n 1))] rfl z (sF1 (a + b) 1)
theorem o87 (h0 : (a + b) < c) (h1 : (d + e) < c) : ((d + e) - 1) ≤ c:=nl fun z=>far [c,d,e,((d + e) - 1)] [(1,.a (.a (.v 1) (.v 2)) (.n 1),.v 0),(1,.a (.v 0) (.n 1),.v 3),(1,.v 3,.a (.v 1) (.v 2))] rfl h1 z (Nat.sub_le (d + e) 1)
theorem o88 (h0 : (a + b) < c) (h1 : (d + e) < ((a + b) - 1)) : (d + e) < c:=nt fun z=>far [a,b,c,d,e,((a + b) - 1)] [(1,.a (.a (.v 0) (.v 1)) (.n 1),.v 2),(1,.a (.a (.v 3) (.v 4)) (.n 1),.v 5),(1,.v 2,.a (.v 3) (.v 4)),(1,.v 5,.a (.v 0) (.v 1))] rfl h0 h1 z (Nat.sub_le (a + b) 1)
theorem o89 (h0 : ((a + b) + c) ≤ (d + e)) (h1 : (f + g) < (b + c)) : (((a + 1) + f) + g) ≤ (d + e):=nl fun z=>far [a,b,c,d,e,f,g] [(1,.a (.a (.v 0) (.v 1)) (.v 2),.a (.v 3) (.v 4)),(1,.a (.a (.v 5) (.v 6)) (.n 1),.a (.v 1) (.v 2)),(1,.a (.a (.v 3) (.v 4)) (.n 1),.a (.a (.a (.v 0) (.n 1)) (.v 5)) (.v 6))] rfl h0 h1 z
theorem o90 (h0 : 0 < a) (h1 : ¬(a = 1)) : 1 < a:=Nat.lt_of_le_of_ne h0 (Ne.symm h1)
theorem o91 (h0 : (a - 1) < a) : ((0 + (a - 1)) + b) < (a + b):=nt fun z=>far [a,(a - 1),b] [(1,.a (.v 1) (.n 1),.v 0),(1,.a (.v 0) (.v 2),.a (.a (.n 0) (.v 1)) (.v 2))] rfl h0 z
theorem o92 (h0 : a = (b + c)) : (a + 1) = (b + (c + 1)):=na (nl fun z=>far [a,b,c] [(1,.v 0,.a (.v 1) (.v 2)),(1,.a (.a (.v 1) (.a (.v 2) (.n 1))) (.n 1),.a (.v 0) (.n 1))] rfl (qe h0) z) (nl fun z=>far [a,b,c] [(1,.a (.v 1) (.v 2),.v 0),(1,.a (.a (.v 0) (.n 1)) (.n 1),.a (.v 1) (.a (.v 2) (.n 1)))] rfl (ge h0) z)
theorem o93 (h0 : a ≤ b) (h1 : b < c) : a < c:=nt fun z=>far [a,b,c] [(1,.v 0,.v 1),(1,.a (.v 1) (.n 1),.v 2),(1,.v 2,.v 0)] rfl h0 h1 z
theorem o96 (h0 : a ≤ b) (h1 : c < (min a b)) : c < a:=nt fun z=>far [a,c,(min a b)] [(1,.a (.v 1) (.n 1),.v 2),(1,.v 0,.v 1),(1,.v 2,.v 0)] rfl h1 z (Nat.min_le_left a b)
theorem o97 : a ≤ (a + 1):=nl fun z=>far [a] [(1,.a (.a (.v 0) (.n 1)) (.n 1),.v 0)] rfl z
theorem o98 (h0 : (a + b) = c) (h1 : (b - d) = 0) : b ≤ d:=nl fun z=>far [b,d,(b - d)] [(1,.v 2,.n 0),(1,.a (.v 1) (.n 1),.v 0),(1,.v 0,.a (.v 2) (.v 1))] rfl (qe h1) z (sF1 b d)
theorem o99 (h0 : 0 < a) (h1 : (b + a) = c) : (a - 1) < a:=nt fun z=>far [a,(a - 1)] [(1,.v 0,.v 1),(1,.a (.v 1) (.n 1),.v 0)] rfl z (sF3 (nl fun z248=>far [a] [(1,.a (.n 0) (.n 1),.v 0),(1,.a (.v 0) (.n 1),.n 1)] rfl h0 z248))
theorem HB (h0 : 0 < a) (h1 : (b + a) = c) (h2 : d ≤ a) : (((b + d) + (a - d)) - 1) = (b + (a - 1)):=na (nl fun z=>far [a,b,d,(a - 1),(a - d),(((b + d) + (a - d)) - 1)] [(1,.a (.a (.v 1) (.v 3)) (.n 1),.v 5),(1,.v 0,.a (.v 3) (.n 1)),(1,.a (.v 5) (.n 1),.a (.a (.v 1) (.v 2)) (.v 4)),(1,.a (.v 4) (.v 2),.v 0)] rfl z (sF1 a 1) (sF3 (nl fun z254=>far [b,d,(a - 1),(a - d),(((b + d) + (a - d)) - 1)] [(1,.a (.a (.v 0) (.v 2)) (.n 1),.v 4),(1,.a (.a (.a (.v 0) (.v 1)) (.v 3)) (.n 1),.n 1),(1,.v 4,.a (.a (.v 0) (.v 1)) (.v 3))] rfl z z254 (Nat.sub_le ((b + d) + (a - d)) 1))) (sF3 (nl fun z258=>far [a,d] [(1,.v 1,.v 0),(1,.a (.v 0) (.n 1),.v 1)] rfl h2 z258))) (nl fun z=>far [a,b,d,(a - d),(((b + d) + (a - d)) - 1),(a - 1)] [(1,.a (.v 4) (.n 1),.a (.v 1) (.v 5)),(1,.a (.a (.v 1) (.v 2)) (.v 3),.a (.v 4) (.n 1)),(1,.v 0,.a (.v 3) (.v 2)),(1,.a (.v 5) (.n 1),.v 0)] rfl z (sF1 ((b + d) + (a - d)) 1) (sF1 a d) (sF3 (nl fun z270=>far [a] [(1,.a (.n 0) (.n 1),.v 0),(1,.a (.v 0) (.n 1),.n 1)] rfl h0 z270)))
theorem G9 (h0 : 0 < a) (h1 : (b + a) = c) (h2 : d < a) : d ≤ (a - 1):=nl fun z=>far [a,d,(a - 1)] [(1,.a (.v 1) (.n 1),.v 0),(1,.a (.v 2) (.n 1),.v 1),(1,.v 0,.a (.v 2) (.n 1))] rfl h2 z (sF1 a 1)
theorem Gz (h0 : (a + b) = c) (h1 : d ≤ b) : ((a + b) - (a + d)) ≤ (b - d):=nl fun z=>far [a,b,d,(b - d),((a + b) - (a + d))] [(1,.a (.v 3) (.n 1),.v 4),(1,.v 1,.a (.v 3) (.v 2)),(1,.a (.v 4) (.a (.v 0) (.v 2)),.a (.v 0) (.v 1))] rfl z (sF1 b d) (sF3 (nl fun z279=>far [a,b,d] [(1,.v 2,.v 1),(1,.a (.a (.v 0) (.v 1)) (.n 1),.a (.v 0) (.v 2))] rfl h1 z279))
theorem GW (h0 : (a + b) = c) (h1 : d ≤ b) : (b - d) ≤ ((a + b) - (a + d)):=nl fun z=>far [a,b,d,((a + b) - (a + d)),(b - d)] [(1,.a (.v 3) (.n 1),.v 4),(1,.a (.v 0) (.v 1),.a (.v 3) (.a (.v 0) (.v 2))),(1,.a (.v 4) (.v 2),.v 1)] rfl z (sF1 (a + b) (a + d)) (sF3 (nl fun z285=>far [b,d] [(1,.v 1,.v 0),(1,.a (.v 0) (.n 1),.v 1)] rfl h1 z285))
theorem Jq (h0 : a ≤ b) : (min a b) = a:=Nat.min_eq_left h0
theorem IW (h0 : 0 < a) (h1 : (b + a) = c) (h2 : d ≤ a) (h3 : ¬((a - d) = 0)) (h4 : ¬(e = 0)) (h5 : f = e) : (d + ((a - d) - 1)) = (a - 1):=(Nat.add_sub_assoc (Nat.pos_of_ne_zero h3) d).symm.trans (congrArg (· - 1) (Nat.add_sub_of_le h2))
theorem Hf (h0 : (a + b) = c) (h1 : d ≤ b) (h2 : ¬(e = 0)) (h3 : f = e) : 0 < e:=Nat.pos_of_ne_zero h2
theorem I7 (h0 : (a + b) = c) (h1 : d ≤ b) : (min d b) = d:=Nat.min_eq_left h1
theorem I3 (h0 : (a + b) = c) (h1 : d ≤ b) (h2 : ¬((b - d) = 0)) (h3 : ¬(e = 0)) (h4 : f = (b - d)) (h5 : g = e) : 0 < f:=h4 ▸ Nat.pos_of_ne_zero h2
theorem FK (h0 : (a + b) = c) (h1 : d ≤ b) (h2 : ¬(e = 0)) (h3 : f = e) : 0 < f:=h3 ▸ Nat.pos_of_ne_zero h2
theorem GK (h0 : a = (b - c)) (h1 : d = e) (h2 : ¬((b - c) ≤ e)) : 0 < a:=nt fun z=>far [a,(b - c),e] [(1,.v 1,.v 0),(1,.a (.v 2) (.n 1),.v 1),(1,.v 0,.n 0)] rfl (ge h0) (nt h2) z
theorem Km (h0 : (a + b) ≤ c) (h1 : d < a) : b ≤ c:=nl fun z=>far [a,b,c,d] [(1,.a (.v 0) (.v 1),.v 2),(1,.a (.v 3) (.n 1),.v 0),(1,.a (.v 2) (.n 1),.v 1)] rfl h0 h1 z
theorem Hb (h0 : (a + b) ≤ c) (h1 : d < a) (h2 : d = (c - b)) : False:=far [a,b,c,d,(c - b)] [(1,.a (.v 0) (.v 1),.v 2),(1,.a (.v 3) (.n 1),.v 0),(1,.v 4,.v 3),(1,.v 2,.a (.v 4) (.v 1))] rfl h0 h1 (ge h2) (sF1 c b)
theorem Jh (h0 : (a + b) ≤ c) (h1 : d < a) (h2 : ((c - b) < d ∧ d ≤ c)) : False:=far [a,b,c,d,(c - b)] [(1,.a (.v 0) (.v 1),.v 2),(1,.a (.v 3) (.n 1),.v 0),(1,.a (.v 4) (.n 1),.v 3),(1,.v 2,.a (.v 4) (.v 1))] rfl h0 h1 h2.1 (sF1 c b)
theorem JL (h0 : a ≤ b) (h1 : c < a) (h2 : (b ≤ c ∧ c < d)) : False:=far [a,b,c] [(1,.v 0,.v 1),(1,.a (.v 2) (.n 1),.v 0),(1,.v 1,.v 2)] rfl h0 h1 h2.1
theorem JV (h0 : a ≤ b) (h1 : b ≤ c) (h2 : c < (a + (min (max d 1) e))) (h3 : d = 0) : b = c:=by subst h3; exact Nat.le_antisymm h1 (Nat.le_trans (Nat.le_of_lt_succ (Nat.lt_of_lt_of_le h2 (Nat.add_le_add_left (Nat.min_le_left _ _) a))) h0)
theorem Gx (h0 : a ≤ b) (h1 : c < (d + (min (max a 1) b))) (h2 : ¬(a = 0)) : c < (d + a):=Nat.lt_of_lt_of_le h1 (Nat.add_le_add_left (Nat.le_trans (Nat.min_le_left ..) (Nat.max_le.mpr ⟨Nat.le_refl a,Nat.pos_of_ne_zero h2⟩)) d)
theorem Jt : (min (max (max a 1) b) b) = b:=Nat.min_eq_right (Nat.le_max_right _ b)
theorem Js (h0 : a < b) : (min a b) = a:=Nat.min_eq_left (Nat.le_of_lt h0)
theorem EX : a ≤ a:=nl fun z=>far [a] [(1,.a (.v 0) (.n 1),.v 0)] rfl z
theorem Gr : (a - 0) ≤ (a - 0):=nl fun z=>far [(a - 0)] [(1,.a (.v 0) (.n 1),.v 0)] rfl z
theorem GI (h0 : (a + b) < c) (h1 : d ≤ b) (h2 : ¬(e ≥ d)) : (a + ((e + d) / 2)) < c:=nt fun z=>far [a,b,c,d,e,((e + d) / 2)] [(2,.a (.a (.v 0) (.v 1)) (.n 1),.v 2),(2,.v 3,.v 1),(1,.a (.v 4) (.n 1),.v 3),(2,.v 2,.a (.v 0) (.v 5)),(1,.m 2 (.v 5),.a (.v 4) (.v 3))] rfl h0 h1 (nt h2) z (Nat.mul_div_le (e + d) 2)
theorem GT (h0 : ¬(a ≥ b)) : a ≤ ((a + b) / 2):=nl fun z=>far [a,b,((a + b) / 2)] [(1,.a (.v 0) (.n 1),.v 1),(2,.a (.v 2) (.n 1),.v 0),(1,.a (.a (.v 0) (.v 1)) (.n 1),.a (.m 2 (.v 2)) (.n 2))] rfl (nt h0) z (dF (a + b) (Nat.succ_pos 1))
theorem GB (h0 : a ≤ b) (h1 : ¬(c ≥ a)) : ((c + a) / 2) ≤ b:=nl fun z=>far [a,b,c,((c + a) / 2)] [(2,.v 0,.v 1),(1,.a (.v 2) (.n 1),.v 0),(2,.a (.v 1) (.n 1),.v 3),(1,.m 2 (.v 3),.a (.v 2) (.v 0))] rfl h0 (nt h1) z (Nat.mul_div_le (c + a) 2)
theorem IT (h0 : a < b) (h1 : (c - d) ≤ (b - a)) (h2 : ¬(d ≥ c)) : (((d + c) / 2) - d) ≤ (b - (a + 1)):=nl fun z=>far [a,b,c,d,(c - d),(b - a),(b - (a + 1)),((d + c) / 2),(((d + c) / 2) - d)] [(1,.v 4,.v 5),(2,.a (.v 6) (.n 1),.v 8),(1,.v 2,.a (.v 4) (.v 3)),(1,.a (.v 5) (.v 0),.v 1),(1,.v 1,.a (.v 6) (.a (.v 0) (.n 1))),(2,.a (.v 8) (.v 3),.v 7),(1,.m 2 (.v 7),.a (.v 3) (.v 2))] rfl h1 z (sF1 c d) (sF3 (nl fun z332=>far [a,b] [(1,.a (.v 0) (.n 1),.v 1),(1,.a (.v 1) (.n 1),.v 0)] rfl h0 z332)) (sF1 b (a + 1)) (sF3 (nl fun z342=>far [d,(b - (a + 1)),((d + c) / 2),(((d + c) / 2) - d)] [(1,.a (.v 1) (.n 1),.v 3),(1,.a (.v 2) (.n 1),.v 0),(1,.a (.v 3) (.v 0),.v 2)] rfl z z342 (sF3 (nl fun z346=>far [c,d,((d + c) / 2)] [(1,.a (.v 1) (.n 1),.v 0),(2,.a (.v 2) (.n 1),.v 1),(1,.a (.a (.v 1) (.v 0)) (.n 1),.a (.m 2 (.v 2)) (.n 2))] rfl (nt h2) z342 (dF (d + c) (Nat.succ_pos 1)))))) (Nat.mul_div_le (d + c) 2)
theorem HH (h0 : ¬(a ≥ b)) : c ≤ (c + ((a + b) / 2)):=nl fun z=>far [c,((a + b) / 2)] [(1,.a (.a (.v 0) (.v 1)) (.n 1),.v 0)] rfl z
theorem IG (h0 : ¬(a ≥ b)) : (((a + b) / 2) + 1) ≤ b:=nl fun z=>far [a,b,((a + b) / 2)] [(1,.a (.v 0) (.n 1),.v 1),(2,.a (.v 1) (.n 1),.a (.v 2) (.n 1)),(1,.m 2 (.v 2),.a (.v 0) (.v 1))] rfl (nt h0) z (Nat.mul_div_le (a + b) 2)
theorem Id (h0 : a < b) (h1 : (c - d) ≤ (b - a)) (h2 : ¬(d ≥ c)) : (c - (((d + c) / 2) + 1)) ≤ (b - (a + 1)):=nl fun z=>far [a,b,c,d,(c - d),(b - a),(b - (a + 1)),((d + c) / 2),(c - (((d + c) / 2) + 1))] [(1,.v 4,.v 5),(2,.a (.v 6) (.n 1),.v 8),(1,.v 2,.a (.v 4) (.v 3)),(1,.a (.v 5) (.v 0),.v 1),(1,.v 1,.a (.v 6) (.a (.v 0) (.n 1))),(2,.a (.v 8) (.a (.v 7) (.n 1)),.v 2),(1,.a (.a (.v 3) (.v 2)) (.n 1),.a (.m 2 (.v 7)) (.n 2))] rfl h1 z (sF1 c d) (sF3 (nl fun z352=>far [a,b] [(1,.a (.v 0) (.n 1),.v 1),(1,.a (.v 1) (.n 1),.v 0)] rfl h0 z352)) (sF1 b (a + 1)) (sF3 (nl fun z362=>far [c,(b - (a + 1)),((d + c) / 2),(c - (((d + c) / 2) + 1))] [(1,.a (.v 1) (.n 1),.v 3),(1,.a (.v 0) (.n 1),.a (.v 2) (.n 1)),(1,.a (.v 3) (.a (.v 2) (.n 1)),.v 0)] rfl z z362 (sF3 (nl fun z366=>far [c,d,((d + c) / 2)] [(1,.a (.v 1) (.n 1),.v 0),(2,.a (.v 0) (.n 1),.a (.v 2) (.n 1)),(1,.m 2 (.v 2),.a (.v 1) (.v 0))] rfl (nt h2) z362 (Nat.mul_div_le (d + c) 2))))) (dF (d + c) (Nat.succ_pos 1))
theorem GE (h0 : a < (b + (((c + d) / 2) + 1))) : a ≤ (b + ((c + d) / 2)):=nl fun z=>far [a,b,((c + d) / 2)] [(1,.a (.v 0) (.n 1),.a (.v 1) (.a (.v 2) (.n 1))),(1,.a (.a (.v 1) (.v 2)) (.n 1),.v 0)] rfl h0 z
theorem H5 (h0 : a ≤ b) (h1 : ¬(c ≥ a)) : (d + ((c + a) / 2)) < (d + b):=nt fun z=>far [a,b,c,d,((c + a) / 2)] [(2,.v 0,.v 1),(1,.a (.v 2) (.n 1),.v 0),(2,.a (.v 3) (.v 1),.a (.v 3) (.v 4)),(1,.m 2 (.v 4),.a (.v 2) (.v 0))] rfl h0 (nt h1) z (Nat.mul_div_le (c + a) 2)
theorem Iu (h0 : a ≤ b) : (c + ((c + b) - (c + a))) ≤ (c + b):=nl fun z=>far [a,b,c,((c + b) - (c + a))] [(1,.a (.a (.v 2) (.v 1)) (.n 1),.a (.v 2) (.v 3)),(1,.a (.v 3) (.a (.v 2) (.v 0)),.a (.v 2) (.v 1))] rfl z (sF3 (nl fun z367=>far [a,b,c] [(1,.v 0,.v 1),(1,.a (.a (.v 2) (.v 1)) (.n 1),.a (.v 2) (.v 0))] rfl h0 z367))
theorem Gu (h0 : a < b) : (min (a + 1) b) = (a + 1):=Nat.min_eq_left h0
theorem FU (h0 : a ≤ b) : ((c + b) - (c + a)) ≤ (c + b):=nl fun z=>far [b,c,((c + b) - (c + a))] [(1,.a (.a (.v 1) (.v 0)) (.n 1),.v 2),(1,.v 2,.a (.v 1) (.v 0))] rfl z (Nat.sub_le (c + b) (c + a))
theorem Iy (h0 : a ≤ b) : ((c + b) - ((c + b) - (c + a))) = (c + a):=na (nl fun z=>far [a,b,c,((c + b) - (c + a)),((c + b) - ((c + b) - (c + a)))] [(1,.a (.a (.v 2) (.v 0)) (.n 1),.v 4),(1,.a (.v 4) (.v 3),.a (.v 2) (.v 1)),(1,.a (.v 2) (.v 1),.a (.v 3) (.a (.v 2) (.v 0)))] rfl z (sF3 (nl fun z371=>far [a,b,c,((c + b) - (c + a)),((c + b) - ((c + b) - (c + a)))] [(1,.a (.a (.v 2) (.v 0)) (.n 1),.v 4),(1,.a (.a (.v 2) (.v 1)) (.n 1),.v 3),(1,.a (.v 4) (.v 3),.a (.v 2) (.v 1))] rfl z z371 (sF3 (nl fun z372=>far [b,c,((c + b) - (c + a))] [(1,.a (.a (.v 1) (.v 0)) (.n 1),.v 2),(1,.v 2,.a (.v 1) (.v 0))] rfl z371 (Nat.sub_le (c + b) (c + a)))))) (sF1 (c + b) (c + a))) (nl fun z=>far [a,b,c,((c + b) - (c + a)),((c + b) - ((c + b) - (c + a)))] [(1,.a (.v 4) (.n 1),.a (.v 2) (.v 0)),(1,.a (.v 2) (.v 1),.a (.v 4) (.v 3)),(1,.a (.v 3) (.a (.v 2) (.v 0)),.a (.v 2) (.v 1))] rfl z (sF1 (c + b) ((c + b) - (c + a))) (sF3 (nl fun z380=>far [a,b,c] [(1,.v 0,.v 1),(1,.a (.a (.v 2) (.v 1)) (.n 1),.a (.v 2) (.v 0))] rfl h0 z380)))
theorem KA (h0 : a ≤ b) (h1 : b < (c + (d + 1))) (h2 : ¬(a = (c + e))) (h3 : ¬(((c + e) < a ∧ a ≤ (c + d)))) (h4 : b = (c + e)) : a < (c + e):=Nat.lt_of_le_of_ne (Nat.le_of_not_lt fun h=>h3 ⟨h,Nat.le_of_lt_succ (Nat.lt_of_le_of_lt h0 h1)⟩) h2
theorem KB (h0 : a = (b + c)) (h1 : ((b + c) < d ∧ d ≤ (b + e))) : (b + c) ≤ (d - 1):=nl fun z=>far [b,c,d,(d - 1)] [(1,.a (.a (.v 0) (.v 1)) (.n 1),.v 2),(1,.a (.v 3) (.n 1),.a (.v 0) (.v 1)),(1,.v 2,.a (.v 3) (.n 1))] rfl h1.1 z (sF1 d 1)
theorem Kx (h0 : a < (b + (c + 1))) (h1 : d = (b + e)) (h2 : ((b + e) < a ∧ a ≤ (b + c))) : (a - 1) < (b + c):=nt fun z=>far [a,b,c,(a - 1)] [(1,.a (.v 0) (.n 1),.a (.v 1) (.a (.v 2) (.n 1))),(1,.a (.v 1) (.v 2),.v 3),(1,.a (.v 3) (.n 1),.v 0)] rfl h0 z (sF3 (nl fun z385=>far [a,b,e] [(1,.a (.a (.v 1) (.v 2)) (.n 1),.v 0),(1,.a (.v 0) (.n 1),.n 1)] rfl h2.1 z385))
theorem Er (h0 : a < (b + (c + 1))) (h1 : ¬(a < (b + c))) : a = (b + c):=na (nl fun z=>far [a,b,c] [(1,.a (.v 0) (.n 1),.a (.v 1) (.a (.v 2) (.n 1))),(1,.a (.a (.v 1) (.v 2)) (.n 1),.v 0)] rfl h0 z) (nl fun z=>far [a,b,c] [(1,.a (.v 1) (.v 2),.v 0),(1,.a (.v 0) (.n 1),.a (.v 1) (.v 2))] rfl (nl h1) z)
theorem FY (h0 : 1 ≤ a) (h1 : b ≤ (c + a)) (h2 : ¬(b = (c + a))) : b ≤ ((c + a) - 1):=Nat.le_sub_one_of_lt (Nat.lt_of_le_of_ne h1 h2)
theorem ED (h0 : 1 ≤ a) (h1 : b ≤ (c + a)) : ((c + a) - 1) < (c + a):=nt fun z=>far [a,c,((c + a) - 1)] [(1,.a (.v 1) (.v 0),.v 2),(1,.a (.v 2) (.n 1),.a (.v 1) (.v 0))] rfl z (sF3 (nl fun z389=>far [a,c] [(1,.n 1,.v 0),(1,.a (.a (.v 1) (.v 0)) (.n 1),.n 1)] rfl h0 z389))
theorem Ex (h0 : a ≤ b) (h1 : b ≤ c) (h2 : c < (a + 1)) : b = c:=na (nl fun z=>far [b,c] [(1,.v 0,.v 1),(1,.a (.v 1) (.n 1),.v 0)] rfl h1 z) (nl fun z=>far [a,b,c] [(1,.v 0,.v 1),(1,.a (.v 2) (.n 1),.a (.v 0) (.n 1)),(1,.a (.v 1) (.n 1),.v 2)] rfl h0 h2 z)
theorem w5 (h0 : (a + b) ≤ c) (h1 : d ≤ b) : (a + d) ≤ c:=nl fun z=>far [a,b,c,d] [(1,.a (.v 0) (.v 1),.v 2),(1,.v 3,.v 1),(1,.a (.v 2) (.n 1),.a (.v 0) (.v 3))] rfl h0 h1 z
theorem Hm (h0 : a ≤ b) (h1 : b ≤ c) (h2 : c < (a + d)) : (a ≤ b ∧ b < (a + d)):=⟨h0,Nat.lt_of_le_of_lt h1 h2⟩
theorem Gn (h0 : a ≤ b) (h1 : b ≤ c) (h2 : c < (a + d)) : (a ≤ c ∧ c < (a + d)):=⟨Nat.le_trans h0 h1,h2⟩
theorem Iv (h0 : a < (b + c)) : b ≤ (((b + (b + c)) - 1) - a):=nl fun z=>far [a,b,c,((b + (b + c)) - 1),(((b + (b + c)) - 1) - a)] [(1,.a (.v 0) (.n 1),.a (.v 1) (.v 2)),(1,.a (.v 4) (.n 1),.v 1),(1,.v 3,.a (.v 4) (.v 0)),(1,.a (.v 1) (.a (.v 1) (.v 2)),.a (.v 3) (.n 1))] rfl h0 z (sF1 ((b + (b + c)) - 1) a) (sF1 (b + (b + c)) 1)
theorem GF (h0 : a ≤ b) (h1 : b < (c + d)) : (((c + (c + d)) - 1) - b) ≤ (((c + (c + d)) - 1) - a):=nl fun z=>far [a,b,((c + (c + d)) - 1),(((c + (c + d)) - 1) - a),(((c + (c + d)) - 1) - b)] [(1,.v 0,.v 1),(1,.a (.v 3) (.n 1),.v 4),(1,.v 2,.a (.v 3) (.v 0)),(1,.a (.v 4) (.v 1),.v 2)] rfl h0 z (sF1 ((c + (c + d)) - 1) a) (sF3 (nl fun z405=>far [b,((c + (c + d)) - 1),(((c + (c + d)) - 1) - a),(((c + (c + d)) - 1) - b)] [(1,.a (.v 2) (.n 1),.v 3),(1,.a (.v 1) (.n 1),.v 0),(1,.a (.v 3) (.v 0),.v 1)] rfl z z405 (sF3 (nl fun z408=>far [b,c,d,((c + (c + d)) - 1)] [(1,.a (.v 0) (.n 1),.a (.v 1) (.v 2)),(1,.a (.v 3) (.n 1),.v 0),(1,.a (.v 1) (.a (.v 1) (.v 2)),.a (.v 3) (.n 1))] rfl h1 z405 (sF1 (c + (c + d)) 1)))))
theorem Hp (h0 : a ≤ b) (h1 : c < (a + d)) : (((a + (a + d)) - 1) - b) < (a + d):=nt fun z=>far [a,b,d,((a + (a + d)) - 1),(((a + (a + d)) - 1) - b)] [(1,.v 0,.v 1),(1,.a (.v 0) (.v 2),.v 4),(1,.a (.v 4) (.v 1),.v 3),(1,.a (.v 3) (.n 1),.a (.v 0) (.a (.v 0) (.v 2)))] rfl h0 z (sF3 (nl fun z409=>far [a,c,d,(((a + (a + d)) - 1) - b)] [(1,.a (.v 1) (.n 1),.a (.v 0) (.v 2)),(1,.a (.v 0) (.v 2),.v 3),(1,.v 3,.n 0)] rfl h1 z (sF0 (nl fun z411=>far [b,((a + (a + d)) - 1)] [(1,.a (.v 1) (.n 1),.v 0),(1,.a (.v 0) (.n 1),.v 1)] rfl z409 z411)))) (sF3 (nl fun z413=>far [a,c,d,((a + (a + d)) - 1),(((a + (a + d)) - 1) - b)] [(1,.a (.v 1) (.n 1),.a (.v 0) (.v 2)),(1,.a (.v 0) (.v 2),.v 4),(1,.a (.a (.v 0) (.a (.v 0) (.v 2))) (.n 1),.n 1),(1,.v 4,.v 3),(1,.v 3,.a (.v 0) (.a (.v 0) (.v 2)))] rfl h1 z z413 (Nat.sub_le ((a + (a + d)) - 1) b) (Nat.sub_le (a + (a + d)) 1)))
theorem Gd (h0 : 1 ≤ a) (h1 : a ≤ b) : 1 ≤ b:=nl fun z=>far [a,b] [(1,.n 1,.v 0),(1,.v 0,.v 1),(1,.a (.v 1) (.n 1),.n 1)] rfl h0 h1 z
theorem Ik (h0 : (a + b) ≤ c) (h1 : 1 ≤ d) (h2 : d ≤ e) (h3 : e < b) : ((a + e) - 1) < c:=nt fun z=>far [a,b,c,e,((a + e) - 1)] [(1,.a (.v 0) (.v 1),.v 2),(1,.a (.v 3) (.n 1),.v 1),(1,.v 2,.v 4),(1,.v 4,.a (.v 0) (.v 3))] rfl h0 h3 z (Nat.sub_le (a + e) 1)
theorem CN (h0 : a < b) : a ≤ b:=nl fun z=>far [a,b] [(1,.a (.v 0) (.n 1),.v 1),(1,.a (.v 1) (.n 1),.v 0)] rfl h0 z
theorem DZ : (0 + 1) ≤ (a + 1):=nl fun z=>far [a] [(1,.a (.a (.v 0) (.n 1)) (.n 1),.a (.n 0) (.n 1))] rfl z
theorem JY (h0 : ((a + (b + 1)) - (0 + 1)) ≤ c) (h1 : c < (a + (b + 1))) : c = ((a + (b + 1)) - 1):=na (nl fun z=>far [a,b,c,((a + (b + 1)) - 1)] [(1,.a (.v 2) (.n 1),.a (.v 0) (.a (.v 1) (.n 1))),(1,.a (.v 3) (.n 1),.v 2),(1,.a (.v 0) (.a (.v 1) (.n 1)),.a (.v 3) (.n 1))] rfl h1 z (sF1 (a + (b + 1)) 1)) (nl fun z=>far [a,b,((a + (b + 1)) - (0 + 1)),c,((a + (b + 1)) - 1)] [(1,.v 2,.v 3),(1,.a (.v 3) (.n 1),.v 4),(1,.a (.v 0) (.a (.v 1) (.n 1)),.a (.v 2) (.a (.n 0) (.n 1))),(1,.a (.v 4) (.n 1),.a (.v 0) (.a (.v 1) (.n 1)))] rfl h0 z (sF1 (a + (b + 1)) (0 + 1)) (sF3 (nl fun z427=>far [a,b] [(1,.a (.a (.v 0) (.a (.v 1) (.n 1))) (.n 1),.n 1)] rfl z427)))
theorem IA (h0 : (a + 1) ≤ b) (h1 : a > 0) : 1 ≤ b:=nl fun z=>far [a,b] [(1,.a (.v 0) (.n 1),.v 1),(1,.a (.n 0) (.n 1),.v 0),(1,.a (.v 1) (.n 1),.n 1)] rfl h0 h1 z
theorem El (h0 : (a + 1) ≤ b) : c ≤ ((c + b) - (a + 1)):=nl fun z=>far [a,b,c,((c + b) - (a + 1))] [(1,.a (.v 0) (.n 1),.v 1),(1,.a (.v 3) (.n 1),.v 2),(1,.a (.v 2) (.v 1),.a (.v 3) (.a (.v 0) (.n 1)))] rfl h0 z (sF1 (c + b) (a + 1))
theorem JM (h0 : (a + 1) ≤ b) (h1 : ¬(a > 0)) : 1 ≤ b:=nl fun z=>far [a,b] [(1,.a (.v 0) (.n 1),.v 1),(1,.a (.v 1) (.n 1),.n 1)] rfl h0 z
theorem F8 (h0 : (a + b) ≤ c) (h1 : d < b) : (a + d) ≤ c:=nl fun z=>far [a,b,c,d] [(1,.a (.v 0) (.v 1),.v 2),(1,.a (.v 3) (.n 1),.v 1),(1,.a (.v 2) (.n 1),.a (.v 0) (.v 3))] rfl h0 h1 z
theorem Fv (h0 : (a + b) ≤ c) (h1 : d < b) (h2 : (e + 1) ≤ d) : ((a + d) - 1) < c:=nt fun z=>far [a,b,c,d,((a + d) - 1)] [(1,.a (.v 0) (.v 1),.v 2),(1,.a (.v 3) (.n 1),.v 1),(1,.v 2,.v 4),(1,.v 4,.a (.v 0) (.v 3))] rfl h0 h1 z (Nat.sub_le (a + d) 1)
theorem EA (h0 : (a + 1) ≤ b) : 1 ≤ b:=nl fun z=>far [a,b] [(1,.a (.v 0) (.n 1),.v 1),(1,.a (.v 1) (.n 1),.n 1)] rfl h0 z
theorem EQ (h0 : (a + 1) ≤ b) (h1 : ((c + (b + 1)) - (0 + 1)) ≤ d) (h2 : d < (c + (b + 1))) : d = ((c + (b + 1)) - 1):=na (nl fun z=>far [b,c,d,((c + (b + 1)) - 1)] [(1,.a (.v 2) (.n 1),.a (.v 1) (.a (.v 0) (.n 1))),(1,.a (.v 3) (.n 1),.v 2),(1,.a (.v 1) (.a (.v 0) (.n 1)),.a (.v 3) (.n 1))] rfl h2 z (sF1 (c + (b + 1)) 1)) (nl fun z=>far [b,c,((c + (b + 1)) - (0 + 1)),d,((c + (b + 1)) - 1)] [(1,.v 2,.v 3),(1,.a (.v 3) (.n 1),.v 4),(1,.a (.v 1) (.a (.v 0) (.n 1)),.a (.v 2) (.a (.n 0) (.n 1))),(1,.a (.v 4) (.n 1),.a (.v 1) (.a (.v 0) (.n 1)))] rfl h1 z (sF1 (c + (b + 1)) (0 + 1)) (sF3 (nl fun z443=>far [a,b,c] [(1,.a (.v 0) (.n 1),.v 1),(1,.a (.a (.v 2) (.a (.v 1) (.n 1))) (.n 1),.n 1)] rfl h0 z443)))
theorem It {a b : Int} (h0 : ¬(a < b)) (h1 : ¬(b < a)) : a = b:=Int.le_antisymm (Int.not_lt.mp h1) (Int.not_lt.mp h0)
theorem Hu (h0 : (a + 1) ≤ b) : ((a + 1) + 1) ≤ (b + 1):=nl fun z=>far [a,b] [(1,.a (.v 0) (.n 1),.v 1),(1,.a (.a (.v 1) (.n 1)) (.n 1),.a (.a (.v 0) (.n 1)) (.n 1))] rfl h0 z
theorem Jx (h0 : (a + 1) ≤ b) : ((c + (b + 1)) - 1) = (c + b):=na (nl fun z=>far [b,c,((c + (b + 1)) - 1)] [(1,.a (.a (.v 1) (.v 0)) (.n 1),.v 2),(1,.a (.v 2) (.n 1),.a (.v 1) (.a (.v 0) (.n 1)))] rfl z (sF3 (nl fun z446=>far [a,b,c] [(1,.a (.v 0) (.n 1),.v 1),(1,.a (.a (.v 2) (.a (.v 1) (.n 1))) (.n 1),.n 1)] rfl h0 z446))) (nl fun z=>far [b,c,((c + (b + 1)) - 1)] [(1,.a (.v 2) (.n 1),.a (.v 1) (.v 0)),(1,.a (.v 1) (.a (.v 0) (.n 1)),.a (.v 2) (.n 1))] rfl z (sF1 (c + (b + 1)) 1))
theorem JH (h0 : (a + 1) ≤ b) (h1 : ((c + (b + 1)) - ((a + 1) + 1)) ≤ d) (h2 : d < (c + (b + 1))) (h3 : ¬(d = (c + b))) : ((c + b) - (a + 1)) ≤ d:=nl fun z=>far [a,b,c,((c + (b + 1)) - ((a + 1) + 1)),d,((c + b) - (a + 1))] [(1,.v 3,.v 4),(1,.a (.v 4) (.n 1),.v 5),(1,.a (.v 2) (.a (.v 1) (.n 1)),.a (.v 3) (.a (.a (.v 0) (.n 1)) (.n 1))),(1,.a (.v 5) (.a (.v 0) (.n 1)),.a (.v 2) (.v 1))] rfl h1 z (sF1 (c + (b + 1)) ((a + 1) + 1)) (sF3 (nl fun z453=>far [a,b,c] [(1,.a (.v 0) (.n 1),.v 1),(1,.a (.a (.v 2) (.v 1)) (.n 1),.a (.v 0) (.n 1))] rfl h0 z453))
theorem Il (h0 : a < (b + (c + 1))) (h1 : ¬(a = (b + c))) : a < (b + c):=Nat.lt_of_le_of_ne (Nat.le_of_lt_succ h0) h1
theorem Kl (h0 : (a + b) ≤ c) (h1 : 1 ≤ d) (h2 : d < b) : ((a + d) - 1) < c:=nt fun z=>far [a,b,c,d,((a + d) - 1)] [(1,.a (.v 0) (.v 1),.v 2),(1,.a (.v 3) (.n 1),.v 1),(1,.v 2,.v 4),(1,.v 4,.a (.v 0) (.v 3))] rfl h0 h2 z (Nat.sub_le (a + d) 1)
theorem Jr (h0 : (a + b) ≤ c) (h1 : 1 ≤ b) : a < c:=nt fun z=>far [a,b,c] [(1,.a (.v 0) (.v 1),.v 2),(1,.n 1,.v 1),(1,.v 2,.v 0)] rfl h0 h1 z
theorem IV (h0 : (a + b) ≤ c) (h1 : d ≤ b) (h2 : d > 1) : ((a + d) - 1) < c:=nt fun z=>far [a,b,c,d,((a + d) - 1)] [(1,.a (.v 0) (.v 1),.v 2),(1,.v 3,.v 1),(1,.v 2,.v 4),(1,.a (.v 4) (.n 1),.a (.v 0) (.v 3))] rfl h0 h1 z (sF3 (nl fun z458=>far [a,d] [(1,.a (.n 1) (.n 1),.v 1),(1,.a (.a (.v 0) (.v 1)) (.n 1),.n 1)] rfl h2 z458))
theorem Hh (h0 : a < (b + c)) : a ≤ ((b + c) - 1):=nl fun z=>far [a,b,c,((b + c) - 1)] [(1,.a (.v 0) (.n 1),.a (.v 1) (.v 2)),(1,.a (.v 3) (.n 1),.v 0),(1,.a (.v 1) (.v 2),.a (.v 3) (.n 1))] rfl h0 z (sF1 (b + c) 1)
theorem Jp (h0 : a > 1) : ((b + a) - 1) < (b + a):=nt fun z=>far [a,b,((b + a) - 1)] [(1,.a (.v 1) (.v 0),.v 2),(1,.a (.v 2) (.n 1),.a (.v 1) (.v 0))] rfl z (sF3 (nl fun z462=>far [a,b] [(1,.a (.n 1) (.n 1),.v 0),(1,.a (.a (.v 1) (.v 0)) (.n 1),.n 1)] rfl h0 z462))
theorem IC (h0 : a ≤ b) (h1 : ¬(a = b)) : (a + 1) ≤ b:=Nat.lt_of_le_of_ne h0 h1
theorem JN (h0 : a ≤ b) (h1 : b < (c + d)) : a < (c + d):=nt fun z=>far [a,b,c,d] [(1,.v 0,.v 1),(1,.a (.v 1) (.n 1),.a (.v 2) (.v 3)),(1,.a (.v 2) (.v 3),.v 0)] rfl h0 h1 z
theorem EV (h0 : a ≤ b) (h1 : b ≤ c) : a ≤ c:=nl fun z=>far [a,b,c] [(1,.v 0,.v 1),(1,.v 1,.v 2),(1,.a (.v 2) (.n 1),.v 0)] rfl h0 h1 z
theorem GA (h0 : 1 ≤ a) (h1 : ¬(a > 1)) : a = 1:=na (nl fun z=>far [a] [(1,.v 0,.n 1),(1,.a (.n 1) (.n 1),.v 0)] rfl (nl h1) z) (nl fun z=>far [a] [(1,.n 1,.v 0),(1,.a (.v 0) (.n 1),.n 1)] rfl h0 z)
theorem IU (h0 : 1 ≤ a) (h1 : ¬(1 = a)) : (1 + 1) ≤ a:=Nat.lt_of_le_of_ne h0 h1
theorem J7 (h0 : (a + 1) < b) : (min a b) = a:=Nat.min_eq_left (Nat.le_of_lt (Nat.lt_of_succ_lt h0))
theorem Go (h0 : (a + 1) < b) : a < b:=nt fun z=>far [a,b] [(1,.a (.a (.v 0) (.n 1)) (.n 1),.v 1),(1,.v 1,.v 0)] rfl h0 z
theorem HZ : ((a + (b + 1)) + 1) = (a + ((b + 1) + 1)):=na (nl fun z=>far [a,b] [(1,.a (.a (.v 0) (.a (.a (.v 1) (.n 1)) (.n 1))) (.n 1),.a (.a (.v 0) (.a (.v 1) (.n 1))) (.n 1))] rfl z) (nl fun z=>far [a,b] [(1,.a (.a (.a (.v 0) (.a (.v 1) (.n 1))) (.n 1)) (.n 1),.a (.v 0) (.a (.a (.v 1) (.n 1)) (.n 1)))] rfl z)
theorem ID (h0 : 0 = (a + b)) : a = 0:=na (nl fun z=>far [a,b] [(1,.a (.v 0) (.v 1),.n 0),(1,.a (.n 0) (.n 1),.v 0)] rfl (ge h0) z) (nl fun z=>far [a] [(1,.a (.v 0) (.n 1),.n 0)] rfl z)
theorem Kc (h0 : a < b) : (c + a) ≤ (c + b):=nl fun z=>far [a,b,c] [(1,.a (.v 0) (.n 1),.v 1),(1,.a (.a (.v 2) (.v 1)) (.n 1),.a (.v 2) (.v 0))] rfl h0 z
theorem Gs (h0 : a < (min b c)) : (d + a) < (d + b):=nt fun z=>far [a,b,(min b c),d] [(1,.a (.v 0) (.n 1),.v 2),(1,.a (.v 3) (.v 1),.a (.v 3) (.v 0)),(1,.v 2,.v 1)] rfl h0 z (Nat.min_le_left b c)
theorem Kk (h0 : (a + b) ≤ c) (h1 : d < (min b e)) : (a + d) < c:=nt fun z=>far [a,b,c,d,(min b e)] [(1,.a (.v 0) (.v 1),.v 2),(1,.a (.v 3) (.n 1),.v 4),(1,.v 2,.a (.v 0) (.v 3)),(1,.v 4,.v 1)] rfl h0 h1 z (Nat.min_le_left b e)
theorem Hx (h0 : (a + b) ≤ c) (h1 : d < (min b e)) (h2 : f < (min b e)) : (a + f) < c:=nt fun z=>far [a,b,c,(min b e),f] [(1,.a (.v 0) (.v 1),.v 2),(1,.a (.v 4) (.n 1),.v 3),(1,.v 2,.a (.v 0) (.v 4)),(1,.v 3,.v 1)] rfl h0 h2 z (Nat.min_le_left b e)
theorem HX (h0 : (a + b) ≤ c) (h1 : d = c) : (a + b) ≤ d:=nl fun z=>far [a,b,c,d] [(1,.a (.v 0) (.v 1),.v 2),(1,.v 2,.v 3),(1,.a (.v 3) (.n 1),.a (.v 0) (.v 1))] rfl h0 (ge h1) z
theorem He (h0 : (a + b) ≤ c) (h1 : d = c) : (min b (d - a)) = b:=Nat.min_eq_left (h1 ▸ Nat.le_sub_of_add_le' h0)
theorem Ft (h0 : ¬(a < b)) : b ≤ a:=nl fun z=>far [b,a] [(1,.v 0,.v 1),(1,.a (.v 1) (.n 1),.v 0)] rfl (nl h0) z
theorem Ju (h0 : 1 ≤ a) (h1 : 0 = a) : False:=far [a] [(1,.n 1,.v 0),(1,.v 0,.n 0)] rfl h0 (ge h1)
theorem H1 (h0 : (max 0 a) ≤ b) (h1 : (b + c) = a) : c = 0:=na (nl fun z=>far [a,(max 0 a),b,c] [(1,.v 1,.v 2),(1,.a (.v 2) (.v 3),.v 0),(1,.a (.n 0) (.n 1),.v 3),(1,.v 0,.v 1)] rfl h0 (qe h1) z (Nat.le_max_right 0 a)) (nl fun z=>far [c] [(1,.a (.v 0) (.n 1),.n 0)] rfl z)
theorem GN (h0 : (a + b) = c) (h1 : a ≥ c) : b = 0:=na (nl fun z=>far [a,b,c] [(1,.a (.v 0) (.v 1),.v 2),(1,.v 2,.v 0),(1,.a (.n 0) (.n 1),.v 1)] rfl (qe h0) h1 z) (nl fun z=>far [b] [(1,.a (.v 0) (.n 1),.n 0)] rfl z)
theorem GZ (h0 : (a + b) = c) (h1 : ¬(a ≥ c)) (h2 : d = c) : (a + (c - a)) ≤ d:=nl fun z=>far [a,c,d,(c - a)] [(1,.v 1,.v 2),(1,.a (.v 2) (.n 1),.a (.v 0) (.v 3)),(1,.a (.v 3) (.v 0),.v 1)] rfl (ge h2) z (sF3 (nl fun z468=>far [a,c] [(1,.a (.v 0) (.n 1),.v 1),(1,.a (.v 1) (.n 1),.v 0)] rfl (nt h1) z468))
theorem IZ (h0 : (a + b) = c) (h1 : ¬(a ≥ c)) : 1 ≤ (c - a):=nl fun z=>far [a,c,(c - a)] [(1,.a (.v 0) (.n 1),.v 1),(1,.a (.v 2) (.n 1),.n 1),(1,.v 1,.a (.v 2) (.v 0))] rfl (nt h1) z (sF1 c a)
theorem Ir (h0 : (a + b) = c) (h1 : ¬(a ≥ c)) (h2 : d = c) : (a + (min (c - a) e)) ≤ d:=nl fun z=>far [a,c,d,(c - a),(min (c - a) e)] [(1,.v 1,.v 2),(1,.a (.v 2) (.n 1),.a (.v 0) (.v 4)),(1,.v 4,.v 3),(1,.a (.v 3) (.v 0),.v 1)] rfl (ge h2) z (Nat.min_le_left (c - a) e) (sF3 (nl fun z472=>far [a,c] [(1,.a (.v 0) (.n 1),.v 1),(1,.a (.v 1) (.n 1),.v 0)] rfl (nt h1) z472))
theorem GR (h0 : a ≤ (b - c)) (h1 : a < d) : a ≤ (min (b - c) d):=Nat.le_min.mpr ⟨h0,Nat.le_of_lt h1⟩
theorem Gj (h0 : 1 ≤ a) (h1 : a ≤ (b - c)) (h2 : a < d) : 1 ≤ (min (b - c) d):=Nat.le_min.mpr ⟨Nat.le_trans h0 h1,Nat.le_trans h0 (Nat.le_of_lt h2)⟩
theorem JZ (h0 : (a + b) = c) (h1 : ¬(a ≥ c)) : (a + (min (c - a) d)) ≤ c:=nl fun z=>far [a,c,(c - a),(min (c - a) d)] [(1,.a (.v 1) (.n 1),.a (.v 0) (.v 3)),(1,.v 3,.v 2),(1,.a (.v 2) (.v 0),.v 1)] rfl z (Nat.min_le_left (c - a) d) (sF3 (nl fun z480=>far [a,c] [(1,.a (.v 0) (.n 1),.v 1),(1,.a (.v 1) (.n 1),.v 0)] rfl (nt h1) z480))
theorem GJ (h0 : (a + b) = c) (h1 : ¬(a ≥ c)) (h2 : d ≤ (c - a)) : (a + d) ≤ c:=nl fun z=>far [a,c,d,(c - a)] [(1,.v 2,.v 3),(1,.a (.v 1) (.n 1),.a (.v 0) (.v 2)),(1,.a (.v 3) (.v 0),.v 1)] rfl h2 z (sF3 (nl fun z482=>far [a,c] [(1,.a (.v 0) (.n 1),.v 1),(1,.a (.v 1) (.n 1),.v 0)] rfl (nt h1) z482))
theorem Kb (h0 : a = b) (h1 : a ≤ 1) : b ≤ 1:=nl fun z=>far [a,b] [(1,.v 1,.v 0),(1,.v 0,.n 1),(1,.a (.n 1) (.n 1),.v 1)] rfl (ge h0) h1 z
theorem HD (h0 : (a + b) ≤ c) (h1 : d = b) (h2 : (e + 1) = b) : ((a + 1) + e) ≤ c:=nl fun z=>far [a,b,c,e] [(1,.a (.v 0) (.v 1),.v 2),(1,.a (.v 3) (.n 1),.v 1),(1,.a (.v 2) (.n 1),.a (.a (.v 0) (.n 1)) (.v 3))] rfl h0 (qe h2) z
theorem Hr (h0 : ((max 0 a) + b) ≤ a) : b ≤ 1:=nl fun z=>far [a,(max 0 a),b] [(1,.a (.v 1) (.v 2),.v 0),(1,.a (.n 1) (.n 1),.v 2),(1,.v 0,.v 1)] rfl h0 z (Nat.le_max_right 0 a)
theorem FL (h0 : a ≤ b) (h1 : c = a) : a ≤ (b + 1):=nl fun z=>far [a,b] [(1,.v 0,.v 1),(1,.a (.a (.v 1) (.n 1)) (.n 1),.v 0)] rfl h0 z
theorem HU (h0 : a = b) (h1 : a < 2) (h2 : c ≤ d) (h3 : d < b) : c = d:=na (nl fun z=>far [c,d] [(1,.v 0,.v 1),(1,.a (.v 1) (.n 1),.v 0)] rfl h2 z) (nl fun z=>far [a,b,c,d] [(1,.v 1,.v 0),(1,.a (.v 0) (.n 1),.n 2),(1,.a (.v 3) (.n 1),.v 1),(1,.a (.v 2) (.n 1),.v 3)] rfl (ge h0) h1 h3 z)
theorem Dn (h0 : ¬(a < b)) (h1 : a < (b + 1)) : a = b:=na (nl fun z=>far [b,a] [(1,.a (.v 1) (.n 1),.a (.v 0) (.n 1)),(1,.a (.v 0) (.n 1),.v 1)] rfl h1 z) (nl fun z=>far [b,a] [(1,.v 0,.v 1),(1,.a (.v 1) (.n 1),.v 0)] rfl (nl h0) z)
theorem HT : 0 < (((a + 1) : Nat) : Int):=Int.natCast_pos.mpr (Nat.succ_pos a)
theorem FM : ((((a + 1) : Nat) : Int) - 1) = ((a : Nat) : Int):=Int.add_sub_cancel (a : Int) 1
theorem Hq {a b c : Int} : (a + (b + c)) = ((a + c) + b):=by rw [Int.add_comm b c,Int.add_assoc]
theorem HL {a b : Int} (h0 : a < b) : 0 ≤ ((b - a) - 1):=Int.le_sub_one_of_lt (Int.sub_pos_of_lt h0)
theorem Ka {a : Int} (h0 : a > 0) : 0 ≤ a:=Int.le_of_lt h0
theorem Kh {a b : Int} (h0 : a > b) : 0 ≤ ((a - b) - 1):=Int.le_sub_one_of_lt (Int.sub_pos_of_lt h0)
theorem Hv {a : Int} (h0 : ¬(a > 0)) : 0 ≤ (-a):=Int.neg_nonneg_of_nonpos (Int.not_lt.mp h0)
theorem Iz (h0 : ¬(((a + b) < c ∨ c < a))) (h1 : d = a) : c ≤ (d + b):=h1 ▸ Nat.le_of_not_lt fun z=>h0 (.inl z)
theorem Ij (h0 : ¬(((a + b) < c ∨ c < a))) (h1 : d = a) : d ≤ c:=h1 ▸ Nat.le_of_not_lt fun z=>h0 (.inr z)
theorem GV (h0 : ¬(((a + b) < c ∨ c < a))) (h1 : d = a) : (d + (b - (b - (c - d)))) = c:=by subst h1; exact (congrArg (d + ·) (Nat.sub_sub_self (Nat.sub_le_iff_le_add'.mpr (Nat.not_lt.mp fun h=>h0 (.inl h))))).trans (Nat.add_sub_of_le (Nat.not_lt.mp fun h=>h0 (.inr h)))
theorem Fb (h0 : (a + (b + 1)) < c) : ((a + 1) + b) < c:=nt fun z=>far [a,b,c] [(1,.a (.a (.v 0) (.a (.v 1) (.n 1))) (.n 1),.v 2),(1,.v 2,.a (.a (.v 0) (.n 1)) (.v 1))] rfl h0 z
theorem FV (h0 : (a + (8 * (b + 1))) < c) : ((a + 3) + (8 * b)) < c:=nt fun z=>far [a,b,c] [(1,.a (.a (.v 0) (.m 8 (.a (.v 1) (.n 1)))) (.n 1),.v 2),(1,.v 2,.a (.a (.v 0) (.n 3)) (.m 8 (.v 1)))] rfl h0 z
theorem Is (h0 : a = b) (h1 : (c ≤ b ∧ b ≤ c)) : a = c:=na (nl fun z=>far [a,b,c] [(1,.v 0,.v 1),(1,.v 1,.v 2),(1,.a (.v 2) (.n 1),.v 0)] rfl (qe h0) h1.2 z) (nl fun z=>far [a,b,c] [(1,.v 1,.v 0),(1,.v 2,.v 1),(1,.a (.v 0) (.n 1),.v 2)] rfl (ge h0) h1.1 z)
theorem Hk : a ≤ ((a + 1) + 1):=nl fun z=>far [a] [(1,.a (.a (.a (.v 0) (.n 1)) (.n 1)) (.n 1),.v 0)] rfl z
theorem Hl {a : Int} (h0 : (-1000000) ≤ a) (h1 : a ≤ 1000000) (h2 : ¬(0 ≤ a)) : a < 0:=Int.not_le.mp h2
theorem H8 (h0 : a ≤ 1000) : a ≤ (16777216 + 1):=nl fun z=>far [a] [(1,.v 0,.n 1000),(1,.a (.a (.n 16777216) (.n 1)) (.n 1),.v 0)] rfl h0 z
theorem JA (h0 : a = b) : a ≤ ((b - 1) + 1):=nl fun z=>far [a,b,(b - 1)] [(1,.v 0,.v 1),(1,.a (.a (.v 2) (.n 1)) (.n 1),.v 0),(1,.v 1,.a (.v 2) (.n 1))] rfl (qe h0) z (sF1 b 1)
theorem JX (h0 : a = b) (h1 : c = d) (h2 : (b + d) ≤ 1000000) (h3 : (a + c) > 16777216) : False:=far [a,b,c,d] [(1,.v 0,.v 1),(1,.v 2,.v 3),(1,.a (.v 1) (.v 3),.n 1000000),(1,.a (.n 16777216) (.n 1),.a (.v 0) (.v 2))] rfl (qe h0) (qe h1) h2 h3
theorem Hs (h0 : a = b) (h1 : c = d) (h2 : (b + d) ≤ 1000000) : a ≤ 16777216:=nl fun z=>far [a,b,d] [(1,.v 0,.v 1),(1,.a (.v 1) (.v 2),.n 1000000),(1,.a (.n 16777216) (.n 1),.v 0)] rfl (qe h0) h2 z
theorem Ix (h0 : a = b) (h1 : c = d) (h2 : (b + d) ≤ 1000000) : (a + c) ≤ (16777216 + 1):=nl fun z=>far [a,b,c,d] [(1,.v 0,.v 1),(1,.v 2,.v 3),(1,.a (.v 1) (.v 3),.n 1000000),(1,.a (.a (.n 16777216) (.n 1)) (.n 1),.a (.v 0) (.v 2))] rfl (qe h0) (qe h1) h2 z
theorem Iq (h0 : (a + b) ≤ 1000000) (h1 : c = a) (h2 : d = b) : (c + d) ≤ 16777216:=nl fun z=>far [a,b,c,d] [(1,.a (.v 0) (.v 1),.n 1000000),(1,.v 2,.v 0),(1,.v 3,.v 1),(1,.a (.n 16777216) (.n 1),.a (.v 2) (.v 3))] rfl h0 (qe h1) (qe h2) z
theorem E3 (h0 : (a + 1) ≤ 64) : a ≤ 64:=nl fun z=>far [a] [(1,.a (.v 0) (.n 1),.n 64),(1,.a (.n 64) (.n 1),.v 0)] rfl h0 z
theorem Dt (h0 : (a + 72) < b) (h1 : c ≤ 64) : ((a + 1) + (min c d)) < b:=nt fun z=>far [a,b,c,(min c d)] [(1,.a (.a (.v 0) (.n 72)) (.n 1),.v 1),(1,.v 2,.n 64),(1,.v 1,.a (.a (.v 0) (.n 1)) (.v 3)),(1,.v 3,.v 2)] rfl h0 h1 z (Nat.min_le_left c d)
theorem FT {a : Int} (h0 : 0 ≤ a) (h1 : a < 0) : False:=absurd h1 (Int.not_lt.mpr h0)
theorem JR : (a - (min b a)) ≤ (a - (min b a)):=nl fun z=>far [(a - (min b a))] [(1,.a (.v 0) (.n 1),.v 0)] rfl z
theorem IN (h0 : (a + (b + 1)) ≤ c) : (a + b) ≤ c:=nl fun z=>far [a,b,c] [(1,.a (.v 0) (.a (.v 1) (.n 1)),.v 2),(1,.a (.v 2) (.n 1),.a (.v 0) (.v 1))] rfl h0 z
theorem Jo (h0 : (a + (b + 1)) ≤ c) : ((a + 1) + b) ≤ c:=nl fun z=>far [a,b,c] [(1,.a (.v 0) (.a (.v 1) (.n 1)),.v 2),(1,.a (.v 2) (.n 1),.a (.a (.v 0) (.n 1)) (.v 1))] rfl h0 z
theorem IJ (h0 : a = (b + 1)) : b < a:=nt fun z=>far [a,b] [(1,.a (.v 1) (.n 1),.v 0),(1,.v 0,.v 1)] rfl (ge h0) z
theorem Ii (h0 : a = (b + 1)) (h1 : c = (a + 1)) : a < c:=nt fun z=>far [a,c] [(1,.a (.v 0) (.n 1),.v 1),(1,.v 1,.v 0)] rfl (ge h1) z
theorem Ja : (((2 * a) + 9) + 2) ≤ ((2 * (a + 1)) + 9):=nl fun z=>far [a] [(1,.a (.a (.m 2 (.a (.v 0) (.n 1))) (.n 9)) (.n 1),.a (.a (.m 2 (.v 0)) (.n 9)) (.n 2))] rfl z
theorem Kz (h0 : ¬(((63 : Nat) : Int) < ((a : Nat) : Int))) : a ≤ 63:=Int.ofNat_le.mp (Int.not_lt.mp h0)
theorem Gm {a : Int} (h0 : 0 ≤ a) (h1 : a < 4) : a = (max a 0):=(Int.max_eq_left h0).symm
theorem FH {a b : Int} : a ≤ (b + (a - b)):=Int.le_of_eq (by rw [Int.add_comm,Int.sub_add_cancel])
theorem IR {a b c : Int} (h0 : a < b) (h1 : b ≤ c) : a ≤ c:=Int.le_trans (Int.le_of_lt h0) h1
theorem Eh (h0 : (a + 1) ≤ (b + 1)) : a ≤ b:=nl fun z=>far [a,b] [(1,.a (.v 0) (.n 1),.a (.v 1) (.n 1)),(1,.a (.v 1) (.n 1),.v 0)] rfl h0 z
theorem II : (a - 1) ≤ a:=nl fun z=>far [a,(a - 1)] [(1,.a (.v 0) (.n 1),.v 1),(1,.v 1,.v 0)] rfl z (Nat.sub_le a 1)
theorem j9 (h0 : a ≤ 1000000) (h1 : b ≤ a) : b ≤ 1000000:=nl fun z=>far [a,b] [(1,.v 0,.n 1000000),(1,.v 1,.v 0),(1,.a (.n 1000000) (.n 1),.v 1)] rfl h0 h1 z
theorem JQ (h0 : a ≤ b) (h1 : b ≤ 1000000) : a ≤ 1000000:=nl fun z=>far [a,b] [(1,.v 0,.v 1),(1,.v 1,.n 1000000),(1,.a (.n 1000000) (.n 1),.v 0)] rfl h0 h1 z
theorem qU (h0 : a ≤ b) (h1 : c ≤ a) (h2 : d ≤ c) : d ≤ b:=nl fun z=>far [a,b,c,d] [(1,.v 0,.v 1),(1,.v 2,.v 0),(1,.v 3,.v 2),(1,.a (.v 1) (.n 1),.v 3)] rfl h0 h1 h2 z
theorem FA {a : Int} : a < (a + 1):=Int.lt_succ a
theorem Kn {a : Int} : (a + 1) < (((a + 1) + 1) + 1):=Int.lt_trans (Int.lt_succ _) (Int.lt_succ _)
theorem HP {a : Int} : (((a + 1) - a) + ((((a + 1) + 1) + 1) - (a + 1))) ≤ 3:=by first | lia | omega
theorem my {a : Int} : a ≤ (a + 1):=Int.le_of_lt (Int.lt_succ a)
theorem Ga {a : Int} : ((a + 1) - a) ≤ 3:=by first | lia | omega
theorem Kf (h0 : 3 ≤ a) : a = ((a - 3) + 3):=na (nl fun z=>far [a,(a - 3)] [(1,.a (.a (.v 1) (.n 3)) (.n 1),.v 0),(1,.v 0,.a (.v 1) (.n 3))] rfl z (sF1 a 3)) (nl fun z=>far [a,(a - 3)] [(1,.a (.v 0) (.n 1),.a (.v 1) (.n 3)),(1,.a (.v 1) (.n 3),.v 0)] rfl z (sF3 (nl fun z535=>far [a] [(1,.n 3,.v 0),(1,.a (.v 0) (.n 1),.n 3)] rfl h0 z535)))
theorem oK (h0 : 1 ≤ a) : a = ((a - 1) + 1):=na (nl fun z=>far [a,(a - 1)] [(1,.a (.a (.v 1) (.n 1)) (.n 1),.v 0),(1,.v 0,.a (.v 1) (.n 1))] rfl z (sF1 a 1)) (nl fun z=>far [a,(a - 1)] [(1,.a (.v 0) (.n 1),.a (.v 1) (.n 1)),(1,.a (.v 1) (.n 1),.v 0)] rfl z (sF3 (nl fun z539=>far [a] [(1,.n 1,.v 0),(1,.a (.v 0) (.n 1),.n 1)] rfl h0 z539)))
theorem I6 (h0 : 2 ≤ a) : a = ((a - 2) + 2):=na (nl fun z=>far [a,(a - 2)] [(1,.a (.a (.v 1) (.n 2)) (.n 1),.v 0),(1,.v 0,.a (.v 1) (.n 2))] rfl z (sF1 a 2)) (nl fun z=>far [a,(a - 2)] [(1,.a (.v 0) (.n 1),.a (.v 1) (.n 2)),(1,.a (.v 1) (.n 2),.v 0)] rfl z (sF3 (nl fun z543=>far [a] [(1,.n 2,.v 0),(1,.a (.v 0) (.n 1),.n 2)] rfl h0 z543)))
theorem I4 (h0 : 4 ≤ a) : a = ((a - 2) + 2):=na (nl fun z=>far [a,(a - 2)] [(1,.a (.a (.v 1) (.n 2)) (.n 1),.v 0),(1,.v 0,.a (.v 1) (.n 2))] rfl z (sF1 a 2)) (nl fun z=>far [a,(a - 2)] [(1,.a (.v 0) (.n 1),.a (.v 1) (.n 2)),(1,.a (.v 1) (.n 2),.v 0)] rfl z (sF3 (nl fun z547=>far [a] [(1,.n 4,.v 0),(1,.a (.v 0) (.n 1),.n 2)] rfl h0 z547)))
theorem zT (h0 : 4 ≤ (a + 2)) : 1 ≤ (a + 1):=nl fun z=>far [a] [(1,.n 4,.a (.v 0) (.n 2)),(1,.a (.a (.v 0) (.n 1)) (.n 1),.n 1)] rfl h0 z
theorem Ay (h0 : 4 ≤ (a + 2)) : 3 ≤ (a + 1):=nl fun z=>far [a] [(1,.n 4,.a (.v 0) (.n 2)),(1,.a (.a (.v 0) (.n 1)) (.n 1),.n 3)] rfl h0 z
theorem oq (h0 : a ≤ 1000000) (h1 : b ≤ a) (h2 : c ≤ b) : c ≤ 1000000:=nl fun z=>far [a,b,c] [(1,.v 0,.n 1000000),(1,.v 1,.v 0),(1,.v 2,.v 1),(1,.a (.n 1000000) (.n 1),.v 2)] rfl h0 h1 h2 z
theorem IF : (1 + 1) ≤ 3:=nl fun z=>far [] [(1,.a (.n 3) (.n 1),.a (.n 1) (.n 1))] rfl z
theorem I5 {a b : Int} : (((3 + 3) + (a - a)) + ((b + 1) - b)) ≤ 15:=by first | lia | omega
theorem wO (h0 : a ≤ 1000000) (h1 : b ≤ a) (h2 : c ≤ b) (h3 : d ≤ c) : d ≤ 1000000:=nl fun z=>far [a,b,c,d] [(1,.v 0,.n 1000000),(1,.v 1,.v 0),(1,.v 2,.v 1),(1,.v 3,.v 2),(1,.a (.n 1000000) (.n 1),.v 3)] rfl h0 h1 h2 h3 z
theorem yN (h0 : a ≤ 1000000) (h1 : b ≤ a) (h2 : c ≤ b) (h3 : d ≤ c) (h4 : e ≤ d) : e ≤ 1000000:=nl fun z=>far [a,b,c,d,e] [(1,.v 0,.n 1000000),(1,.v 1,.v 0),(1,.v 2,.v 1),(1,.v 3,.v 2),(1,.v 4,.v 3),(1,.a (.n 1000000) (.n 1),.v 4)] rfl h0 h1 h2 h3 h4 z
theorem Kq {a b c : Int} : ((((3 + 3) + (a - a)) + ((b + 1) - b)) + (((3 + 3) + ((c + 1) - c)) + ((a + 1) - a))) ≤ 15:=by first | lia | omega
theorem A1 (h0 : a ≤ b) (h1 : c ≤ a) (h2 : d ≤ c) (h3 : e ≤ d) (h4 : f ≤ e) : f ≤ b:=nl fun z=>far [a,b,c,d,e,f] [(1,.v 0,.v 1),(1,.v 2,.v 0),(1,.v 3,.v 2),(1,.v 4,.v 3),(1,.v 5,.v 4),(1,.a (.v 1) (.n 1),.v 5)] rfl h0 h1 h2 h3 h4 z
theorem Jw (h0 : (9 + (5 * a)) ≤ b) (h1 : a ≤ 3) : b = ((b - 2) + 2):=na (nl fun z=>far [b,(b - 2)] [(1,.a (.a (.v 1) (.n 2)) (.n 1),.v 0),(1,.v 0,.a (.v 1) (.n 2))] rfl z (sF1 b 2)) (nl fun z=>far [b,(b - 2)] [(1,.a (.v 0) (.n 1),.a (.v 1) (.n 2)),(1,.a (.v 1) (.n 2),.v 0)] rfl z (sF3 (nl fun z551=>far [a,b] [(1,.a (.n 9) (.m 5 (.v 0)),.v 1),(1,.a (.v 1) (.n 1),.n 2)] rfl h0 z551)))
theorem kZ : 1 ≤ (a + 1):=nl fun z=>far [a] [(1,.a (.a (.v 0) (.n 1)) (.n 1),.n 1)] rfl z
theorem JS {a : Nat} {b c : Int} : (((2 * ((a : Nat) : Int)) + ((b + 1) - b)) + (c - c)) ≤ ((2 * ((a : Nat) : Int)) + 1):=by first | lia | omega
theorem Cm (h0 : (9 + (5 * a)) ≤ (b + 2)) : (8 + (5 * a)) ≤ (b + 1):=nl fun z=>far [a,b] [(1,.a (.n 9) (.m 5 (.v 0)),.a (.v 1) (.n 2)),(1,.a (.a (.v 1) (.n 1)) (.n 1),.a (.n 8) (.m 5 (.v 0)))] rfl h0 z
theorem Ie : ((a : Nat) : Int) ≤ (2 * ((a : Nat) : Int)):=by first | lia | omega
theorem Kj : (((a : Nat) : Int) + ((a : Nat) : Int)) ≤ (2 * ((a : Nat) : Int)):=Int.le_of_eq (Int.two_mul _).symm
theorem JB (h0 : (10 + (5 * a)) ≤ b) (h1 : a ≤ 2) : b = ((b - 2) + 2):=na (nl fun z=>far [b,(b - 2)] [(1,.a (.a (.v 1) (.n 2)) (.n 1),.v 0),(1,.v 0,.a (.v 1) (.n 2))] rfl z (sF1 b 2)) (nl fun z=>far [b,(b - 2)] [(1,.a (.v 0) (.n 1),.a (.v 1) (.n 2)),(1,.a (.v 1) (.n 2),.v 0)] rfl z (sF3 (nl fun z555=>far [a,b] [(1,.a (.n 10) (.m 5 (.v 0)),.v 1),(1,.a (.v 1) (.n 1),.n 2)] rfl h0 z555)))
theorem H4 (h0 : a ≤ 2) (h1 : (10 + (5 * a)) ≤ (b + 2)) : 4 ≤ (b + 1):=nl fun z=>far [a,b] [(1,.a (.n 10) (.m 5 (.v 0)),.a (.v 1) (.n 2)),(1,.a (.a (.v 1) (.n 1)) (.n 1),.n 4)] rfl h1 z
theorem yt (h0 : a ≤ 100) : a ≤ 1000000:=nl fun z=>far [a] [(1,.v 0,.n 100),(1,.a (.n 1000000) (.n 1),.v 0)] rfl h0 z
theorem JW : ((2 - ((a : Nat) : Int)) + 1) = (3 - ((a : Nat) : Int)):=by first | lia | omega
theorem IB (h0 : (10 + (5 * a)) ≤ (b + 2)) : (9 + (5 * a)) ≤ (b + 1):=nl fun z=>far [a,b] [(1,.a (.n 10) (.m 5 (.v 0)),.a (.v 1) (.n 2)),(1,.a (.a (.v 1) (.n 1)) (.n 1),.a (.n 9) (.m 5 (.v 0)))] rfl h0 z
theorem IS (h0 : a ≤ 2) : a ≤ 3:=nl fun z=>far [a] [(1,.v 0,.n 2),(1,.a (.n 3) (.n 1),.v 0)] rfl h0 z
theorem GO (h0 : a ≤ 100) : a ≤ 999999:=nl fun z=>far [a] [(1,.v 0,.n 100),(1,.a (.n 999999) (.n 1),.v 0)] rfl h0 z
theorem Hn : (15 + ((2 * ((a : Nat) : Int)) + 1)) ≤ (2 * (15 + ((2 * ((a : Nat) : Int)) + 1))):=by first | lia | omega
theorem JG : ((15 + ((2 * ((a : Nat) : Int)) + 1)) + (15 + ((2 * ((a : Nat) : Int)) + 1))) ≤ (2 * (15 + ((2 * ((a : Nat) : Int)) + 1))):=by first | lia | omega
theorem Kg {a : Int} (h0 : 0 < a) (h1 : a ≤ 9) (h2 : a = 0) : False:=absurd (h2 ▸ h0) (by decide)
theorem HV {a b : Int} (h0 : 0 < a) (h1 : a ≤ 9) (h2 : b < a) : b < 9:=Int.lt_of_lt_of_le h2 h1
theorem Jv : (((31 + (3 * ((2 * a) + 1))) : Nat) : Int) = (31 + (3 * ((2 * ((a : Nat) : Int)) + 1))):=rfl
theorem GL : 6 ≤ (31 + (3 * ((2 * a) + 1))):=nl fun z=>far [a] [(1,.a (.a (.n 31) (.m 3 (.a (.m 2 (.v 0)) (.n 1)))) (.n 1),.n 6)] rfl z
theorem IL (h0 : (8 + (5 * a)) ≤ b) (h1 : a ≤ 3) : b = ((b - 2) + 2):=na (nl fun z=>far [b,(b - 2)] [(1,.a (.a (.v 1) (.n 2)) (.n 1),.v 0),(1,.v 0,.a (.v 1) (.n 2))] rfl z (sF1 b 2)) (nl fun z=>far [b,(b - 2)] [(1,.a (.v 0) (.n 1),.a (.v 1) (.n 2)),(1,.a (.v 1) (.n 2),.v 0)] rfl z (sF3 (nl fun z559=>far [a,b] [(1,.a (.n 8) (.m 5 (.v 0)),.v 1),(1,.a (.v 1) (.n 1),.n 2)] rfl h0 z559)))
theorem DV (h0 : a ≤ 3) (h1 : (8 + (5 * a)) ≤ (b + 2)) : 2 ≤ (b + 1):=nl fun z=>far [a,b] [(1,.a (.n 8) (.m 5 (.v 0)),.a (.v 1) (.n 2)),(1,.a (.a (.v 1) (.n 1)) (.n 1),.n 2)] rfl h1 z
theorem DM (h0 : a ≤ 3) (h1 : (8 + (5 * a)) ≤ (b + 2)) : 3 ≤ (b + 1):=nl fun z=>far [a,b] [(1,.a (.n 8) (.m 5 (.v 0)),.a (.v 1) (.n 2)),(1,.a (.a (.v 1) (.n 1)) (.n 1),.n 3)] rfl h1 z
theorem u4 : 1 ≤ 3:=nl fun z=>far [] [(1,.a (.n 3) (.n 1),.n 1)] rfl z
theorem Ch {a : Int} : a < ((a + 1) + 1):=Int.lt_trans (Int.lt_succ _) (Int.lt_succ _)
theorem Ht {a : Int} : a < (((a + 1) + 1) + 1):=Int.lt_trans (Int.lt_succ _) (Int.lt_trans (Int.lt_succ _) (Int.lt_succ _))
theorem Kd : (3 - (((a + 1) : Nat) : Int)) = (2 - ((a : Nat) : Int)):=by first | lia | omega
theorem Jk : ((3 - (((a + 1) : Nat) : Int)) + 1) = (3 - ((a : Nat) : Int)):=by first | lia | omega
theorem F3 (h0 : (8 + (5 * (a + 1))) ≤ (b + 2)) : (10 + (5 * a)) ≤ (b + 1):=nl fun z=>far [a,b] [(1,.a (.n 8) (.m 5 (.a (.v 0) (.n 1))),.a (.v 1) (.n 2)),(1,.a (.a (.v 1) (.n 1)) (.n 1),.a (.n 10) (.m 5 (.v 0)))] rfl h0 z
theorem F9 (h0 : (a + 1) ≤ 3) : a ≤ 2:=nl fun z=>far [a] [(1,.a (.v 0) (.n 1),.n 3),(1,.a (.n 2) (.n 1),.v 0)] rfl h0 z
theorem yw (h0 : (8 + (5 * (a + 1))) ≤ (b + 2)) : (9 + (5 * a)) ≤ (b + 1):=nl fun z=>far [a,b] [(1,.a (.n 8) (.m 5 (.a (.v 0) (.n 1))),.a (.v 1) (.n 2)),(1,.a (.a (.v 1) (.n 1)) (.n 1),.a (.n 9) (.m 5 (.v 0)))] rfl h0 z
theorem xE (h0 : (a + 1) ≤ 3) : a ≤ 3:=nl fun z=>far [a] [(1,.a (.v 0) (.n 1),.n 3),(1,.a (.n 3) (.n 1),.v 0)] rfl h0 z
theorem FX (h0 : a ≤ 4) : a ≤ 1000000:=nl fun z=>far [a] [(1,.v 0,.n 4),(1,.a (.n 1000000) (.n 1),.v 0)] rfl h0 z
theorem GQ {a : Nat} {b c : Int} : ((((2 * (15 + ((2 * ((a : Nat) : Int)) + 1))) + ((2 * ((a : Nat) : Int)) + 1)) + (b - b)) + ((c + 1) - c)) ≤ (31 + (3 * ((2 * ((a : Nat) : Int)) + 1))):=by first | lia | omega
theorem Ez {a : Nat} {b c : Int} : (((2 * (15 + ((2 * ((a : Nat) : Int)) + 1))) + (b - b)) + ((c + 1) - c)) ≤ (31 + (3 * ((2 * ((a : Nat) : Int)) + 1))):=by first | lia | omega
theorem Eo (h0 : a ≤ b) (h1 : c ≤ a) (h2 : d ≤ c) (h3 : e ≤ d) : e ≤ b:=nl fun z=>far [a,b,c,d,e] [(1,.v 0,.v 1),(1,.v 2,.v 0),(1,.v 3,.v 2),(1,.v 4,.v 3),(1,.a (.v 1) (.n 1),.v 4)] rfl h0 h1 h2 h3 z
theorem KC {a : Int} (h0 : a = 4) (h1 : a = 3) : False:=absurd (h0 ▸ h1) (by decide)
theorem J8 (h0 : (a + 1) ≤ 3) (h1 : (8 + (5 * (a + 1))) ≤ (b + 2)) : 4 ≤ (b + 1):=nl fun z=>far [a,b] [(1,.a (.n 8) (.m 5 (.a (.v 0) (.n 1))),.a (.v 1) (.n 2)),(1,.a (.a (.v 1) (.n 1)) (.n 1),.n 4)] rfl h1 z
theorem JI {a : Nat} {b c : Int} : (((((2 * ((a : Nat) : Int)) + 1) + 15) + (b - b)) + ((c + 1) - c)) ≤ (31 + (3 * ((2 * ((a : Nat) : Int)) + 1))):=by first | lia | omega
theorem Gw (h0 : (a + 1) ≤ 3) (h1 : (8 + (5 * (a + 1))) ≤ (b + 2)) : 2 ≤ (b + 1):=nl fun z=>far [a,b] [(1,.a (.n 8) (.m 5 (.a (.v 0) (.n 1))),.a (.v 1) (.n 2)),(1,.a (.a (.v 1) (.n 1)) (.n 1),.n 2)] rfl h1 z
theorem Cb (h0 : (a + 1) ≤ 3) (h1 : (8 + (5 * (a + 1))) ≤ (b + 2)) : 3 ≤ (b + 1):=nl fun z=>far [a,b] [(1,.a (.n 8) (.m 5 (.a (.v 0) (.n 1))),.a (.v 1) (.n 2)),(1,.a (.a (.v 1) (.n 1)) (.n 1),.n 3)] rfl h1 z
theorem Io {b : Nat} {a : Int} : ((((a + 1) + 1) - a) + (3 + (3 + ((2 * ((b : Nat) : Int)) + 1)))) ≤ (31 + (3 * ((2 * ((b : Nat) : Int)) + 1))):=by first | lia | omega
theorem IY (h0 : a ≤ 10) : (a + 1) ≤ 1000000:=nl fun z=>far [a] [(1,.v 0,.n 10),(1,.a (.n 1000000) (.n 1),.a (.v 0) (.n 1))] rfl h0 z
theorem GY {a : Nat} {b c : Int} : (((3 + ((2 * ((2 * ((a : Nat) : Int)) + 1)) + ((2 * ((a : Nat) : Int)) + 1))) + (b - b)) + ((c + 1) - c)) ≤ (31 + (3 * ((2 * ((a : Nat) : Int)) + 1))):=by first | lia | omega
theorem JC (h0 : a ≤ 10) : (a + 1) ≤ 11:=nl fun z=>far [a] [(1,.v 0,.n 10),(1,.a (.n 11) (.n 1),.a (.v 0) (.n 1))] rfl h0 z
theorem GP {a : Nat} {b c : Int} : (((3 + (2 * ((2 * ((a : Nat) : Int)) + 1))) + (b - b)) + ((c + 1) - c)) ≤ (31 + (3 * ((2 * ((a : Nat) : Int)) + 1))):=by first | lia | omega
theorem HI (h0 : a ≤ 10) : a ≤ 11:=nl fun z=>far [a] [(1,.v 0,.n 10),(1,.a (.n 11) (.n 1),.v 0)] rfl h0 z
theorem Fi (h0 : a ≤ 1) : a ≤ 100:=nl fun z=>far [a] [(1,.v 0,.n 1),(1,.a (.n 100) (.n 1),.v 0)] rfl h0 z
theorem I1 : ((2 * ((a : Nat) : Int)) + 1) ≤ (2 * ((2 * ((a : Nat) : Int)) + 1)):=by first | lia | omega
theorem Ia (h0 : a ≤ (b + 1)) (h1 : b ≤ 1) : a ≤ 100:=nl fun z=>far [a,b] [(1,.v 0,.a (.v 1) (.n 1)),(1,.v 1,.n 1),(1,.a (.n 100) (.n 1),.v 0)] rfl h0 h1 z
theorem GM : (((2 * ((a : Nat) : Int)) + 1) + ((2 * ((a : Nat) : Int)) + 1)) ≤ (2 * ((2 * ((a : Nat) : Int)) + 1)):=by first | lia | omega
theorem Bl (h0 : (a + 1) = (b + 1)) : b = a:=na (nl fun z=>far [a,b] [(1,.a (.v 1) (.n 1),.a (.v 0) (.n 1)),(1,.a (.v 0) (.n 1),.v 1)] rfl (ge h0) z) (nl fun z=>far [a,b] [(1,.a (.v 0) (.n 1),.a (.v 1) (.n 1)),(1,.a (.v 1) (.n 1),.v 0)] rfl (qe h0) z)
theorem Hw {a b c : Int} (h0 : a ≤ b) (h1 : b ≤ c) : a ≤ c:=Int.le_trans h0 h1
theorem I9 {a b : Int} : (a ≤ b ∨ b ≤ a):=Int.le_total a b
theorem F6 (h0 : (a + 1) ≤ b) : b = ((b - 1) + 1):=na (nl fun z=>far [b,(b - 1)] [(1,.a (.a (.v 1) (.n 1)) (.n 1),.v 0),(1,.v 0,.a (.v 1) (.n 1))] rfl z (sF1 b 1)) (nl fun z=>far [b,(b - 1)] [(1,.a (.v 0) (.n 1),.a (.v 1) (.n 1)),(1,.a (.v 1) (.n 1),.v 0)] rfl z (sF3 (nl fun z563=>far [a,b] [(1,.a (.v 0) (.n 1),.v 1),(1,.a (.v 1) (.n 1),.n 1)] rfl h0 z563)))
theorem Ig (h0 : ((a + 1) + 1) ≤ b) : b = ((b - 1) + 1):=na (nl fun z=>far [b,(b - 1)] [(1,.a (.a (.v 1) (.n 1)) (.n 1),.v 0),(1,.v 0,.a (.v 1) (.n 1))] rfl z (sF1 b 1)) (nl fun z=>far [b,(b - 1)] [(1,.a (.v 0) (.n 1),.a (.v 1) (.n 1)),(1,.a (.v 1) (.n 1),.v 0)] rfl z (sF3 (nl fun z567=>far [a,b] [(1,.a (.a (.v 0) (.n 1)) (.n 1),.v 1),(1,.a (.v 1) (.n 1),.n 1)] rfl h0 z567)))
theorem EK (h0 : ((a + 1) + 1) ≤ (b + 1)) : (a + 1) ≤ b:=nl fun z=>far [a,b] [(1,.a (.a (.v 0) (.n 1)) (.n 1),.a (.v 1) (.n 1)),(1,.a (.v 1) (.n 1),.a (.v 0) (.n 1))] rfl h0 z
theorem zr (h0 : a ≤ 16) : a ≤ 1000000:=nl fun z=>far [a] [(1,.v 0,.n 16),(1,.a (.n 1000000) (.n 1),.v 0)] rfl h0 z
theorem Jl (h0 : a ≤ 16) (h1 : b ≤ 16) (h2 : c ≤ b) : (a + c) ≤ 1000000:=nl fun z=>far [a,b,c] [(1,.v 0,.n 16),(1,.v 1,.n 16),(1,.v 2,.v 1),(1,.a (.n 1000000) (.n 1),.a (.v 0) (.v 2))] rfl h0 h1 h2 z
theorem EM (h0 : a ≤ 4) (h1 : b ≤ a) : (b + 1) ≤ 1000000:=nl fun z=>far [a,b] [(1,.v 0,.n 4),(1,.v 1,.v 0),(1,.a (.n 1000000) (.n 1),.a (.v 1) (.n 1))] rfl h0 h1 z
theorem HS (h0 : (a + (b + 1)) ≤ 1000) : (a + b) ≤ 1000:=nl fun z=>far [a,b] [(1,.a (.v 0) (.a (.v 1) (.n 1)),.n 1000),(1,.a (.n 1000) (.n 1),.a (.v 0) (.v 1))] rfl h0 z
theorem Ey (h0 : (a + (b + 1)) ≤ 1000) : a ≤ 1000000:=nl fun z=>far [a,b] [(1,.a (.v 0) (.a (.v 1) (.n 1)),.n 1000),(1,.a (.n 1000000) (.n 1),.v 0)] rfl h0 z
theorem FP (h0 : (a + (b + 1)) ≤ 1000) : ((a + 1) + b) ≤ 1000:=nl fun z=>far [a,b] [(1,.a (.v 0) (.a (.v 1) (.n 1)),.n 1000),(1,.a (.n 1000) (.n 1),.a (.a (.v 0) (.n 1)) (.v 1))] rfl h0 z
theorem Ki (h0 : a ≤ 16) : a ≤ 1000:=nl fun z=>far [a] [(1,.v 0,.n 16),(1,.a (.n 1000) (.n 1),.v 0)] rfl h0 z
theorem GD (h0 : a ≤ 1000000) : ((-1000000) ≤ ((a : Nat) : Int) ∧ ((a : Nat) : Int) ≤ 1000000):=⟨Int.le_trans (by decide) (Int.natCast_nonneg a),Int.ofNat_le.mpr h0⟩
theorem HF (h0 : a ≤ 1000000) : 0 ≤ ((a : Nat) : Int):=Int.natCast_nonneg a
theorem Jz (h0 : 0 ≤ (-1)) : False:=absurd h0 (by decide)
theorem JO : (-(((a + 1) : Nat) : Int)) ≤ (-1):=by first | lia | omega
theorem Jb (h0 : ((3 * a) + 8) ≤ b) : b = ((b - 1) + 1):=na (nl fun z=>far [b,(b - 1)] [(1,.a (.a (.v 1) (.n 1)) (.n 1),.v 0),(1,.v 0,.a (.v 1) (.n 1))] rfl z (sF1 b 1)) (nl fun z=>far [b,(b - 1)] [(1,.a (.v 0) (.n 1),.a (.v 1) (.n 1)),(1,.a (.v 1) (.n 1),.v 0)] rfl z (sF3 (nl fun z571=>far [a,b] [(1,.a (.m 3 (.v 0)) (.n 8),.v 1),(1,.a (.v 1) (.n 1),.n 1)] rfl h0 z571)))
theorem IK (h0 : ((3 * a) + 8) ≤ (b + 1)) : ((3 * a) + 7) ≤ b:=nl fun z=>far [a,b] [(1,.a (.m 3 (.v 0)) (.n 8),.a (.v 1) (.n 1)),(1,.a (.v 1) (.n 1),.a (.m 3 (.v 0)) (.n 7))] rfl h0 z
theorem Ke : (((2 * a) + 1) + 1) = (2 * (a + 1)):=na (nl fun z=>far [a] [(1,.a (.m 2 (.a (.v 0) (.n 1))) (.n 1),.a (.a (.m 2 (.v 0)) (.n 1)) (.n 1))] rfl z) (nl fun z=>far [a] [(1,.a (.a (.a (.m 2 (.v 0)) (.n 1)) (.n 1)) (.n 1),.m 2 (.a (.v 0) (.n 1)))] rfl z)
theorem Jc : (2 * ((a : Nat) : Int)) = (((2 * a) : Nat) : Int):=rfl
theorem z3 (h0 : a = (2 * b)) : a ≤ (2 * b):=nl fun z=>far [a,b] [(1,.v 0,.m 2 (.v 1)),(1,.a (.m 2 (.v 1)) (.n 1),.v 0)] rfl (qe h0) z
theorem AM (h0 : a = (2 * b)) : a ≤ ((2 * b) + 1):=nl fun z=>far [a,b] [(1,.v 0,.m 2 (.v 1)),(1,.a (.a (.m 2 (.v 1)) (.n 1)) (.n 1),.v 0)] rfl (qe h0) z
theorem Ax : (((2 * a) + 1) - (2 * a)) = 1:=na (nl fun z=>far [a,(((2 * a) + 1) - (2 * a))] [(1,.a (.n 1) (.n 1),.v 1),(1,.a (.v 1) (.m 2 (.v 0)),.a (.m 2 (.v 0)) (.n 1))] rfl z (sF3 (nl fun z573=>far [a] [(1,.a (.a (.m 2 (.v 0)) (.n 1)) (.n 1),.m 2 (.v 0))] rfl z573))) (nl fun z=>far [a,(((2 * a) + 1) - (2 * a))] [(1,.a (.v 1) (.n 1),.n 1),(1,.a (.m 2 (.v 0)) (.n 1),.a (.v 1) (.m 2 (.v 0)))] rfl z (sF1 ((2 * a) + 1) (2 * a)))
theorem DS (h0 : a ≤ 10) (h1 : b = (2 * c)) (h2 : a = ((b + ((d + 1) + 1)) + e)) : (2 * c) ≤ 1000000:=nl fun z=>far [a,b,c,d,e] [(1,.v 0,.n 10),(1,.m 2 (.v 2),.v 1),(1,.a (.a (.v 1) (.a (.a (.v 3) (.n 1)) (.n 1))) (.v 4),.v 0),(1,.a (.n 1000000) (.n 1),.m 2 (.v 2))] rfl h0 (ge h1) (ge h2) z
theorem CL (h0 : ((3 * a) + 8) ≤ b) : (3 + 1) ≤ b:=nl fun z=>far [a,b] [(1,.a (.m 3 (.v 0)) (.n 8),.v 1),(1,.a (.v 1) (.n 1),.a (.n 3) (.n 1))] rfl h0 z
theorem Bv : ((((2 * a) : Nat) : Int) + 1) = ((((2 * a) + 1) : Nat) : Int):=rfl
theorem Db (h0 : a ≤ 10) (h1 : b = (2 * c)) (h2 : a = ((b + ((d + 1) + 1)) + e)) : ((2 * c) + 1) ≤ 1000000:=nl fun z=>far [a,b,c,d,e] [(1,.v 0,.n 10),(1,.m 2 (.v 2),.v 1),(1,.a (.a (.v 1) (.a (.a (.v 3) (.n 1)) (.n 1))) (.v 4),.v 0),(1,.a (.n 1000000) (.n 1),.a (.m 2 (.v 2)) (.n 1))] rfl h0 (ge h1) (ge h2) z
theorem Bj (h0 : ((3 * a) + 8) ≤ b) : 1 ≤ b:=nl fun z=>far [a,b] [(1,.a (.m 3 (.v 0)) (.n 8),.v 1),(1,.a (.v 1) (.n 1),.n 1)] rfl h0 z
theorem AD : ((2 * a) + 2) = (2 * (a + 1)):=na (nl fun z=>far [a] [(1,.a (.m 2 (.a (.v 0) (.n 1))) (.n 1),.a (.m 2 (.v 0)) (.n 2))] rfl z) (nl fun z=>far [a] [(1,.a (.a (.m 2 (.v 0)) (.n 2)) (.n 1),.m 2 (.a (.v 0) (.n 1)))] rfl z)
theorem EY (h0 : 17 ≤ (0 + a)) (h1 : a ≤ 16) : False:=far [a] [(1,.n 17,.a (.n 0) (.v 0)),(1,.v 0,.n 16)] rfl h0 h1
theorem Eg (h0 : 17 ≤ ((a + 1) + b)) (h1 : b ≤ c) (h2 : ¬(((c : Nat) : Int) = ((b : Nat) : Int))) : 17 ≤ (a + c):=by first | lia | omega
theorem HY (h0 : a ≤ 10) (h1 : b = (2 * c)) (h2 : a = (b + ((d + 1) + 1))) : (2 * c) ≤ 1000000:=nl fun z=>far [a,b,c,d] [(1,.v 0,.n 10),(1,.m 2 (.v 2),.v 1),(1,.a (.v 1) (.a (.a (.v 3) (.n 1)) (.n 1)),.v 0),(1,.a (.n 1000000) (.n 1),.m 2 (.v 2))] rfl h0 (ge h1) (ge h2) z
theorem JF (h0 : a ≤ 10) (h1 : b = (2 * c)) (h2 : a = (b + ((d + 1) + 1))) : ((2 * c) + 1) ≤ 1000000:=nl fun z=>far [a,b,c,d] [(1,.v 0,.n 10),(1,.m 2 (.v 2),.v 1),(1,.a (.v 1) (.a (.a (.v 3) (.n 1)) (.n 1)),.v 0),(1,.a (.n 1000000) (.n 1),.a (.m 2 (.v 2)) (.n 1))] rfl h0 (ge h1) (ge h2) z
theorem AR (h0 : a ≤ 4) (h1 : a = (2 * b)) : a ≤ 1000000:=nl fun z=>far [a] [(1,.v 0,.n 4),(1,.a (.n 1000000) (.n 1),.v 0)] rfl h0 z
theorem wM (h0 : a ≤ 4) (h1 : a = (2 * b)) : b ≤ 2:=nl fun z=>far [a,b] [(1,.v 0,.n 4),(1,.m 2 (.v 1),.v 0),(2,.a (.n 2) (.n 1),.v 1)] rfl h0 (ge h1) z
theorem AN (h0 : a ≤ 4) (h1 : a = (2 * b)) : a ≤ 10:=nl fun z=>far [a] [(1,.v 0,.n 4),(1,.a (.n 10) (.n 1),.v 0)] rfl h0 z
theorem H6 (h0 : (a = (2 * b) ∨ a = ((2 * b) + 1))) : (((a : Nat) : Int) / 2) = ((b : Nat) : Int):=by show ((a / 2 : Nat) : Int) = b; exact congrArg _ (h0.elim (fun h=>h ▸ Nat.mul_div_cancel_left b (by decide)) (fun h=>h ▸ Nat.mul_add_div (by decide) b 1))
theorem CR (h0 : a ≤ 1000) : (a + 1) ≤ 1000000:=nl fun z=>far [a] [(1,.v 0,.n 1000),(1,.a (.n 1000000) (.n 1),.a (.v 0) (.n 1))] rfl h0 z
theorem H7 (h0 : ((3 * a) + 7) ≤ b) : b = ((b - 1) + 1):=na (nl fun z=>far [b,(b - 1)] [(1,.a (.a (.v 1) (.n 1)) (.n 1),.v 0),(1,.v 0,.a (.v 1) (.n 1))] rfl z (sF1 b 1)) (nl fun z=>far [b,(b - 1)] [(1,.a (.v 0) (.n 1),.a (.v 1) (.n 1)),(1,.a (.v 1) (.n 1),.v 0)] rfl z (sF3 (nl fun z579=>far [a,b] [(1,.a (.m 3 (.v 0)) (.n 7),.v 1),(1,.a (.v 1) (.n 1),.n 1)] rfl h0 z579)))
theorem DP (h0 : ((3 * a) + 7) ≤ (b + 1)) : (3 + 1) ≤ b:=nl fun z=>far [a,b] [(1,.a (.m 3 (.v 0)) (.n 7),.a (.v 1) (.n 1)),(1,.a (.v 1) (.n 1),.a (.n 3) (.n 1))] rfl h0 z
theorem Dg (h0 : ((3 * a) + 7) ≤ (b + 1)) : 1 ≤ b:=nl fun z=>far [a,b] [(1,.a (.m 3 (.v 0)) (.n 7),.a (.v 1) (.n 1)),(1,.a (.v 1) (.n 1),.n 1)] rfl h0 z
theorem J6 (h0 : ((3 * a) + 7) ≤ (b + 1)) : (0 + 1) ≤ b:=nl fun z=>far [a,b] [(1,.a (.m 3 (.v 0)) (.n 7),.a (.v 1) (.n 1)),(1,.a (.v 1) (.n 1),.a (.n 0) (.n 1))] rfl h0 z
theorem Av (h0 : ((3 * (a + 1)) + 7) ≤ (b + 1)) : ((3 * a) + 8) ≤ b:=nl fun z=>far [a,b] [(1,.a (.m 3 (.a (.v 0) (.n 1))) (.n 7),.a (.v 1) (.n 1)),(1,.a (.v 1) (.n 1),.a (.m 3 (.v 0)) (.n 8))] rfl h0 z
theorem EW (h0 : ((3 * (a + 1)) + 7) ≤ (b + 1)) : 1 ≤ b:=nl fun z=>far [a,b] [(1,.a (.m 3 (.a (.v 0) (.n 1))) (.n 7),.a (.v 1) (.n 1)),(1,.a (.v 1) (.n 1),.n 1)] rfl h0 z
theorem EI (h0 : a ≤ 4) (h1 : a = (2 * b)) : (a + 1) ≤ 5:=nl fun z=>far [a] [(1,.v 0,.n 4),(1,.a (.n 5) (.n 1),.a (.v 0) (.n 1))] rfl h0 z
theorem EE (h0 : a ≤ 5) : a ≤ 1000000:=nl fun z=>far [a] [(1,.v 0,.n 5),(1,.a (.n 1000000) (.n 1),.v 0)] rfl h0 z
theorem E0 (h0 : a ≤ 5) : a ≤ 10:=nl fun z=>far [a] [(1,.v 0,.n 5),(1,.a (.n 10) (.n 1),.v 0)] rfl h0 z
theorem Ce (h0 : ((3 * (a + 1)) + 7) ≤ (b + 1)) : b = ((b - 1) + 1):=na (nl fun z=>far [b,(b - 1)] [(1,.a (.a (.v 1) (.n 1)) (.n 1),.v 0),(1,.v 0,.a (.v 1) (.n 1))] rfl z (sF1 b 1)) (nl fun z=>far [b,(b - 1)] [(1,.a (.v 0) (.n 1),.a (.v 1) (.n 1)),(1,.a (.v 1) (.n 1),.v 0)] rfl z (sF3 (nl fun z583=>far [a,b] [(1,.a (.m 3 (.a (.v 0) (.n 1))) (.n 7),.a (.v 1) (.n 1)),(1,.a (.v 1) (.n 1),.n 1)] rfl h0 z583)))
theorem A4 (h0 : ((3 * (a + 1)) + 7) ≤ ((b + 1) + 1)) : ((3 * a) + 8) ≤ b:=nl fun z=>far [a,b] [(1,.a (.m 3 (.a (.v 0) (.n 1))) (.n 7),.a (.a (.v 1) (.n 1)) (.n 1)),(1,.a (.v 1) (.n 1),.a (.m 3 (.v 0)) (.n 8))] rfl h0 z
theorem G7 (h0 : a ≤ 16) : 17 ≤ (1000 + a):=nl fun z=>far [a] [(1,.a (.a (.n 1000) (.v 0)) (.n 1),.n 17)] rfl z
theorem Fm : 17 ≤ (1000 + a):=nl fun z=>far [a] [(1,.a (.a (.n 1000) (.v 0)) (.n 1),.n 17)] rfl z
theorem JJ (h0 : ((3 * (a + 1)) + 7) ≤ ((b + 1) + 1)) : (3 + 1) ≤ b:=nl fun z=>far [a,b] [(1,.a (.m 3 (.a (.v 0) (.n 1))) (.n 7),.a (.a (.v 1) (.n 1)) (.n 1)),(1,.a (.v 1) (.n 1),.a (.n 3) (.n 1))] rfl h0 z
theorem JP (h0 : ((3 * (a + 1)) + 7) ≤ ((b + 1) + 1)) : 1 ≤ b:=nl fun z=>far [a,b] [(1,.a (.m 3 (.a (.v 0) (.n 1))) (.n 7),.a (.a (.v 1) (.n 1)) (.n 1)),(1,.a (.v 1) (.n 1),.n 1)] rfl h0 z
theorem Je (h0 : ((3 * (a + 1)) + 7) ≤ (b + 1)) : (3 + 1) ≤ b:=nl fun z=>far [a,b] [(1,.a (.m 3 (.a (.v 0) (.n 1))) (.n 7),.a (.v 1) (.n 1)),(1,.a (.v 1) (.n 1),.a (.n 3) (.n 1))] rfl h0 z
theorem E5 (h0 : a ≤ 11) : a ≤ 1000:=nl fun z=>far [a] [(1,.v 0,.n 11),(1,.a (.n 1000) (.n 1),.v 0)] rfl h0 z
theorem HC : (a + (b + 1)) = ((a + 1) + b):=na (nl fun z=>far [a,b] [(1,.a (.a (.a (.v 0) (.n 1)) (.v 1)) (.n 1),.a (.v 0) (.a (.v 1) (.n 1)))] rfl z) (nl fun z=>far [a,b] [(1,.a (.a (.v 0) (.a (.v 1) (.n 1))) (.n 1),.a (.a (.v 0) (.n 1)) (.v 1))] rfl z)
theorem Am (h0 : 2 ≤ a) : a = ((a - 1) + 1):=na (nl fun z=>far [a,(a - 1)] [(1,.a (.a (.v 1) (.n 1)) (.n 1),.v 0),(1,.v 0,.a (.v 1) (.n 1))] rfl z (sF1 a 1)) (nl fun z=>far [a,(a - 1)] [(1,.a (.v 0) (.n 1),.a (.v 1) (.n 1)),(1,.a (.v 1) (.n 1),.v 0)] rfl z (sF3 (nl fun z587=>far [a] [(1,.n 2,.v 0),(1,.a (.v 0) (.n 1),.n 1)] rfl h0 z587)))
theorem yK (h0 : 2 ≤ (a + 1)) : 1 ≤ a:=nl fun z=>far [a] [(1,.n 2,.a (.v 0) (.n 1)),(1,.a (.v 0) (.n 1),.n 1)] rfl h0 z
theorem HM : 0 ≤ ((a : Nat) : Int):=Int.natCast_nonneg a
theorem E4 : ((a : Nat) : Int) ≥ 0:=Int.natCast_nonneg a
theorem Ko (h0 : a < 4) : 0 ≤ ((a : Nat) : Int):=Int.natCast_nonneg a
theorem Hj (h0 : a < 4) : ((a : Nat) : Int) ≤ 1000000:=Int.ofNat_le.mpr (Nat.le_trans (Nat.le_of_lt h0) (by decide))
theorem Gk (h0 : ((a : Nat) : Int) < 0) : False:=absurd h0 (Int.not_lt.mpr (Int.natCast_nonneg a))
theorem EU (h0 : (a + 3) ≤ b) : b = ((b - 1) + 1):=na (nl fun z=>far [b,(b - 1)] [(1,.a (.a (.v 1) (.n 1)) (.n 1),.v 0),(1,.v 0,.a (.v 1) (.n 1))] rfl z (sF1 b 1)) (nl fun z=>far [b,(b - 1)] [(1,.a (.v 0) (.n 1),.a (.v 1) (.n 1)),(1,.a (.v 1) (.n 1),.v 0)] rfl z (sF3 (nl fun z591=>far [a,b] [(1,.a (.v 0) (.n 3),.v 1),(1,.a (.v 1) (.n 1),.n 1)] rfl h0 z591)))
theorem Gv (h0 : (a + 3) ≤ (b + 1)) : 2 ≤ b:=nl fun z=>far [a,b] [(1,.a (.v 0) (.n 3),.a (.v 1) (.n 1)),(1,.a (.v 1) (.n 1),.n 2)] rfl h0 z
theorem GS (h0 : ((a + 1) + 3) ≤ b) : b = ((b - 1) + 1):=na (nl fun z=>far [b,(b - 1)] [(1,.a (.a (.v 1) (.n 1)) (.n 1),.v 0),(1,.v 0,.a (.v 1) (.n 1))] rfl z (sF1 b 1)) (nl fun z=>far [b,(b - 1)] [(1,.a (.v 0) (.n 1),.a (.v 1) (.n 1)),(1,.a (.v 1) (.n 1),.v 0)] rfl z (sF3 (nl fun z595=>far [a,b] [(1,.a (.a (.v 0) (.n 1)) (.n 3),.v 1),(1,.a (.v 1) (.n 1),.n 1)] rfl h0 z595)))
theorem AU (h0 : ((a + 1) + 3) ≤ (b + 1)) : (a + 3) ≤ b:=nl fun z=>far [a,b] [(1,.a (.a (.v 0) (.n 1)) (.n 3),.a (.v 1) (.n 1)),(1,.a (.v 1) (.n 1),.a (.v 0) (.n 3))] rfl h0 z
theorem Ff (h0 : 7 ≤ a) : a = ((a - 1) + 1):=na (nl fun z=>far [a,(a - 1)] [(1,.a (.a (.v 1) (.n 1)) (.n 1),.v 0),(1,.v 0,.a (.v 1) (.n 1))] rfl z (sF1 a 1)) (nl fun z=>far [a,(a - 1)] [(1,.a (.v 0) (.n 1),.a (.v 1) (.n 1)),(1,.a (.v 1) (.n 1),.v 0)] rfl z (sF3 (nl fun z599=>far [a] [(1,.n 7,.v 0),(1,.a (.v 0) (.n 1),.n 1)] rfl h0 z599)))
theorem Kp (h0 : 7 ≤ (a + 1)) : 1 ≤ a:=nl fun z=>far [a] [(1,.n 7,.a (.v 0) (.n 1)),(1,.a (.v 0) (.n 1),.n 1)] rfl h0 z
theorem yM (h0 : 7 ≤ (a + 1)) : 2 ≤ a:=nl fun z=>far [a] [(1,.n 7,.a (.v 0) (.n 1)),(1,.a (.v 0) (.n 1),.n 2)] rfl h0 z
theorem Fw (h0 : 7 ≤ (a + 1)) : (3 + 3) ≤ a:=nl fun z=>far [a] [(1,.n 7,.a (.v 0) (.n 1)),(1,.a (.v 0) (.n 1),.a (.n 3) (.n 3))] rfl h0 z
theorem JU (h0 : ((3 * a) + 11) ≤ b) : b = ((b - 1) + 1):=na (nl fun z=>far [b,(b - 1)] [(1,.a (.a (.v 1) (.n 1)) (.n 1),.v 0),(1,.v 0,.a (.v 1) (.n 1))] rfl z (sF1 b 1)) (nl fun z=>far [b,(b - 1)] [(1,.a (.v 0) (.n 1),.a (.v 1) (.n 1)),(1,.a (.v 1) (.n 1),.v 0)] rfl z (sF3 (nl fun z603=>far [a,b] [(1,.a (.m 3 (.v 0)) (.n 11),.v 1),(1,.a (.v 1) (.n 1),.n 1)] rfl h0 z603)))
theorem Ib (h0 : ((3 * a) + 11) ≤ (b + 1)) : ((3 * a) + 10) ≤ b:=nl fun z=>far [a,b] [(1,.a (.m 3 (.v 0)) (.n 11),.a (.v 1) (.n 1)),(1,.a (.v 1) (.n 1),.a (.m 3 (.v 0)) (.n 10))] rfl h0 z
theorem FQ (h0 : ((3 * a) + 11) ≤ b) : (3 + 3) ≤ b:=nl fun z=>far [a,b] [(1,.a (.m 3 (.v 0)) (.n 11),.v 1),(1,.a (.v 1) (.n 1),.a (.n 3) (.n 3))] rfl h0 z
theorem IE (h0 : (a + (b + 1)) ≤ 100) : a ≤ 1000000:=nl fun z=>far [a,b] [(1,.a (.v 0) (.a (.v 1) (.n 1)),.n 100),(1,.a (.n 1000000) (.n 1),.v 0)] rfl h0 z
theorem Ih (h0 : (a + (b + 1)) ≤ 100) : ((a + 1) + b) ≤ 100:=nl fun z=>far [a,b] [(1,.a (.v 0) (.a (.v 1) (.n 1)),.n 100),(1,.a (.n 100) (.n 1),.a (.a (.v 0) (.n 1)) (.v 1))] rfl h0 z
theorem HO (h0 : ((3 * a) + 10) ≤ b) : b = ((b - 1) + 1):=na (nl fun z=>far [b,(b - 1)] [(1,.a (.a (.v 1) (.n 1)) (.n 1),.v 0),(1,.v 0,.a (.v 1) (.n 1))] rfl z (sF1 b 1)) (nl fun z=>far [b,(b - 1)] [(1,.a (.v 0) (.n 1),.a (.v 1) (.n 1)),(1,.a (.v 1) (.n 1),.v 0)] rfl z (sF3 (nl fun z607=>far [a,b] [(1,.a (.m 3 (.v 0)) (.n 10),.v 1),(1,.a (.v 1) (.n 1),.n 1)] rfl h0 z607)))
theorem EL (h0 : ((3 * a) + 10) ≤ (b + 1)) : 2 ≤ b:=nl fun z=>far [a,b] [(1,.a (.m 3 (.v 0)) (.n 10),.a (.v 1) (.n 1)),(1,.a (.v 1) (.n 1),.n 2)] rfl h0 z
theorem Jg (h0 : ((3 * a) + 10) ≤ (b + 1)) : (3 + 3) ≤ b:=nl fun z=>far [a,b] [(1,.a (.m 3 (.v 0)) (.n 10),.a (.v 1) (.n 1)),(1,.a (.v 1) (.n 1),.a (.n 3) (.n 3))] rfl h0 z
theorem ET (h0 : ((3 * a) + 10) ≤ (b + 1)) : 7 ≤ b:=nl fun z=>far [a,b] [(1,.a (.m 3 (.v 0)) (.n 10),.a (.v 1) (.n 1)),(1,.a (.v 1) (.n 1),.n 7)] rfl h0 z
theorem ym (h0 : ((3 * (a + 1)) + 10) ≤ (b + 1)) : b = ((b - 1) + 1):=na (nl fun z=>far [b,(b - 1)] [(1,.a (.a (.v 1) (.n 1)) (.n 1),.v 0),(1,.v 0,.a (.v 1) (.n 1))] rfl z (sF1 b 1)) (nl fun z=>far [b,(b - 1)] [(1,.a (.v 0) (.n 1),.a (.v 1) (.n 1)),(1,.a (.v 1) (.n 1),.v 0)] rfl z (sF3 (nl fun z611=>far [a,b] [(1,.a (.m 3 (.a (.v 0) (.n 1))) (.n 10),.a (.v 1) (.n 1)),(1,.a (.v 1) (.n 1),.n 1)] rfl h0 z611)))
theorem wm (h0 : ((3 * (a + 1)) + 10) ≤ ((b + 1) + 1)) : ((3 * a) + 11) ≤ b:=nl fun z=>far [a,b] [(1,.a (.m 3 (.a (.v 0) (.n 1))) (.n 10),.a (.a (.v 1) (.n 1)) (.n 1)),(1,.a (.v 1) (.n 1),.a (.m 3 (.v 0)) (.n 11))] rfl h0 z
theorem FE (h0 : a ≤ 4) (h1 : a = (2 * b)) : b ≤ 100:=nl fun z=>far [a,b] [(1,.v 0,.n 4),(1,.m 2 (.v 1),.v 0),(2,.a (.n 100) (.n 1),.v 1)] rfl h0 (ge h1) z
theorem GX (h0 : ((3 * (a + 1)) + 10) ≤ (b + 1)) : ((3 * a) + 11) ≤ b:=nl fun z=>far [a,b] [(1,.a (.m 3 (.a (.v 0) (.n 1))) (.n 10),.a (.v 1) (.n 1)),(1,.a (.v 1) (.n 1),.a (.m 3 (.v 0)) (.n 11))] rfl h0 z
theorem HG (h0 : ((3 * (a + 1)) + 10) ≤ (b + 1)) : (3 + 3) ≤ b:=nl fun z=>far [a,b] [(1,.a (.m 3 (.a (.v 0) (.n 1))) (.n 10),.a (.v 1) (.n 1)),(1,.a (.v 1) (.n 1),.a (.n 3) (.n 3))] rfl h0 z
theorem FO (h0 : ((3 * (a + 1)) + 10) ≤ ((b + 1) + 1)) : 2 ≤ b:=nl fun z=>far [a,b] [(1,.a (.m 3 (.a (.v 0) (.n 1))) (.n 10),.a (.a (.v 1) (.n 1)) (.n 1)),(1,.a (.v 1) (.n 1),.n 2)] rfl h0 z
theorem Dv (h0 : ((3 * (a + 1)) + 10) ≤ ((b + 1) + 1)) : (3 + 3) ≤ b:=nl fun z=>far [a,b] [(1,.a (.m 3 (.a (.v 0) (.n 1))) (.n 10),.a (.a (.v 1) (.n 1)) (.n 1)),(1,.a (.v 1) (.n 1),.a (.n 3) (.n 3))] rfl h0 z
theorem HK (h0 : (a + (b + 1)) ≤ 100000) : a ≤ 1000000:=nl fun z=>far [a,b] [(1,.a (.v 0) (.a (.v 1) (.n 1)),.n 100000),(1,.a (.n 1000000) (.n 1),.v 0)] rfl h0 z
theorem Ha : (a + (0 + 1)) ≤ (a + (b + 1)):=nl fun z=>far [a,b] [(1,.a (.a (.v 0) (.a (.v 1) (.n 1))) (.n 1),.a (.v 0) (.a (.n 0) (.n 1)))] rfl z
theorem IQ (h0 : (a + (b + 1)) ≤ 100000) : ((a + 1) + b) ≤ 100000:=nl fun z=>far [a,b] [(1,.a (.v 0) (.a (.v 1) (.n 1)),.n 100000),(1,.a (.n 100000) (.n 1),.a (.a (.v 0) (.n 1)) (.v 1))] rfl h0 z
theorem Hg (h0 : a ≤ ((b + 1) + c)) : a ≤ (b + (c + 1)):=nl fun z=>far [a,b,c] [(1,.v 0,.a (.a (.v 1) (.n 1)) (.v 2)),(1,.a (.a (.v 1) (.a (.v 2) (.n 1))) (.n 1),.v 0)] rfl h0 z
theorem IX (h0 : (a + (40 * (b + 1))) ≤ 100000) : (a + 40) ≤ 100000:=nl fun z=>far [a,b] [(1,.a (.v 0) (.m 40 (.a (.v 1) (.n 1))),.n 100000),(1,.a (.n 100000) (.n 1),.a (.v 0) (.n 40))] rfl h0 z
theorem I8 (h0 : (a + (40 * (b + 1))) ≤ 100000) (h1 : c ≤ (a + 40)) : (c + (40 * b)) ≤ 100000:=nl fun z=>far [a,b,c] [(1,.a (.v 0) (.m 40 (.a (.v 1) (.n 1))),.n 100000),(1,.v 2,.a (.v 0) (.n 40)),(1,.a (.n 100000) (.n 1),.a (.v 2) (.m 40 (.v 1)))] rfl h0 h1 z
theorem HQ (h0 : a ≤ (b + 40)) (h1 : c ≤ (a + (40 * d))) : c ≤ (b + (40 * (d + 1))):=nl fun z=>far [a,b,c,d] [(1,.v 0,.a (.v 1) (.n 40)),(1,.v 2,.a (.v 0) (.m 40 (.v 3))),(1,.a (.a (.v 1) (.m 40 (.a (.v 3) (.n 1)))) (.n 1),.v 2)] rfl h0 h1 z
theorem Gq (h0 : a ≤ 1000000) : (40 * (min 60 a)) ≤ 100000:=nl fun z=>far [(min 60 a)] [(1,.a (.n 100000) (.n 1),.m 40 (.v 0)),(40,.v 0,.n 60)] rfl z (Nat.min_le_left 60 a)
theorem JE (h0 : a ≤ 60) (h1 : b ≤ (0 + (40 * a))) : b ≤ 1000000:=nl fun z=>far [a,b] [(40,.v 0,.n 60),(1,.v 1,.a (.n 0) (.m 40 (.v 0))),(1,.a (.n 1000000) (.n 1),.v 1)] rfl h0 h1 z
theorem Ei (h0 : a ≤ 240) : a ≤ 1000000:=nl fun z=>far [a] [(1,.v 0,.n 240),(1,.a (.n 1000000) (.n 1),.v 0)] rfl h0 z
theorem Ao (h0 : a ≤ 1000) : a ≤ 1000000:=nl fun z=>far [a] [(1,.v 0,.n 1000),(1,.a (.n 1000000) (.n 1),.v 0)] rfl h0 z
theorem Ho (h0 : ((a + b) + c) ≤ 900) : (b + 1) ≤ 1000:=nl fun z=>far [a,b,c] [(1,.a (.a (.v 0) (.v 1)) (.v 2),.n 900),(1,.a (.n 1000) (.n 1),.a (.v 1) (.n 1))] rfl h0 z
theorem Ip : (((a + 1) : Nat) : Int) > 0:=Int.natCast_pos.mpr (Nat.succ_pos a)
theorem Jd (h0 : ((a + b) + c) ≤ 900) : b ≤ 1000:=nl fun z=>far [a,b,c] [(1,.a (.a (.v 0) (.v 1)) (.v 2),.n 900),(1,.a (.n 1000) (.n 1),.v 1)] rfl h0 z
theorem HR (h0 : ((a + b) + c) ≤ 900) : a ≤ 1000000:=nl fun z=>far [a,b,c] [(1,.a (.a (.v 0) (.v 1)) (.v 2),.n 900),(1,.a (.n 1000000) (.n 1),.v 0)] rfl h0 z
theorem Iw (h0 : ((a + b) + c) ≤ 900) : (b + c) ≤ 1000:=nl fun z=>far [a,b,c] [(1,.a (.a (.v 0) (.v 1)) (.v 2),.n 900),(1,.a (.n 1000) (.n 1),.a (.v 1) (.v 2))] rfl h0 z
theorem EP (h0 : (a + b) ≤ 1000) : (a + b) ≤ 1000000:=nl fun z=>far [a,b] [(1,.a (.v 0) (.v 1),.n 1000),(1,.a (.n 1000000) (.n 1),.a (.v 0) (.v 1))] rfl h0 z
theorem GU (h0 : 3 ≤ a) : a = ((a - 1) + 1):=na (nl fun z=>far [a,(a - 1)] [(1,.a (.a (.v 1) (.n 1)) (.n 1),.v 0),(1,.v 0,.a (.v 1) (.n 1))] rfl z (sF1 a 1)) (nl fun z=>far [a,(a - 1)] [(1,.a (.v 0) (.n 1),.a (.v 1) (.n 1)),(1,.a (.v 1) (.n 1),.v 0)] rfl z (sF3 (nl fun z615=>far [a] [(1,.n 3,.v 0),(1,.a (.v 0) (.n 1),.n 1)] rfl h0 z615)))
theorem Jm (h0 : 3 ≤ (a + 1)) : 2 ≤ a:=nl fun z=>far [a] [(1,.n 3,.a (.v 0) (.n 1)),(1,.a (.v 0) (.n 1),.n 2)] rfl h0 z
theorem Hz (h0 : 3 ≤ (a + 1)) : 1 ≤ a:=nl fun z=>far [a] [(1,.n 3,.a (.v 0) (.n 1)),(1,.a (.v 0) (.n 1),.n 1)] rfl h0 z
theorem HW (h0 : 4 ≤ a) : a = ((a - 1) + 1):=na (nl fun z=>far [a,(a - 1)] [(1,.a (.a (.v 1) (.n 1)) (.n 1),.v 0),(1,.v 0,.a (.v 1) (.n 1))] rfl z (sF1 a 1)) (nl fun z=>far [a,(a - 1)] [(1,.a (.v 0) (.n 1),.a (.v 1) (.n 1)),(1,.a (.v 1) (.n 1),.v 0)] rfl z (sF3 (nl fun z619=>far [a] [(1,.n 4,.v 0),(1,.a (.v 0) (.n 1),.n 1)] rfl h0 z619)))
theorem I2 (h0 : 4 ≤ (a + 1)) : 3 ≤ a:=nl fun z=>far [a] [(1,.n 4,.a (.v 0) (.n 1)),(1,.a (.v 0) (.n 1),.n 3)] rfl h0 z
theorem Gy (h0 : (a + 1) ≤ b) : (b - a) = (((b - a) - 1) + 1):=na (nl fun z=>far [(b - a),((b - a) - 1)] [(1,.a (.a (.v 1) (.n 1)) (.n 1),.v 0),(1,.v 0,.a (.v 1) (.n 1))] rfl z (sF1 (b - a) 1)) (nl fun z=>far [(b - a),((b - a) - 1)] [(1,.a (.v 0) (.n 1),.a (.v 1) (.n 1)),(1,.a (.v 1) (.n 1),.v 0)] rfl z (sF3 (nl fun z630=>far [a,b,(b - a)] [(1,.a (.v 0) (.n 1),.v 1),(1,.a (.v 2) (.n 1),.n 1),(1,.v 1,.a (.v 2) (.v 0))] rfl h0 z630 (sF1 b a))))
theorem Hc (h0 : 30 ≤ a) : a = ((a - 1) + 1):=na (nl fun z=>far [a,(a - 1)] [(1,.a (.a (.v 1) (.n 1)) (.n 1),.v 0),(1,.v 0,.a (.v 1) (.n 1))] rfl z (sF1 a 1)) (nl fun z=>far [a,(a - 1)] [(1,.a (.v 0) (.n 1),.a (.v 1) (.n 1)),(1,.a (.v 1) (.n 1),.v 0)] rfl z (sF3 (nl fun z635=>far [a] [(1,.n 30,.v 0),(1,.a (.v 0) (.n 1),.n 1)] rfl h0 z635)))
theorem JD (h0 : 30 ≤ (a + 1)) : 4 ≤ a:=nl fun z=>far [a] [(1,.n 30,.a (.v 0) (.n 1)),(1,.a (.v 0) (.n 1),.n 4)] rfl h0 z
theorem JK (h0 : 30 ≤ (a + 1)) : ((3 * 3) + 11) ≤ a:=nl fun z=>far [a] [(1,.n 30,.a (.v 0) (.n 1)),(1,.a (.v 0) (.n 1),.a (.m 3 (.n 3)) (.n 11))] rfl h0 z
theorem Ic (h0 : 30 ≤ (a + 1)) : (3 + 3) ≤ a:=nl fun z=>far [a] [(1,.n 30,.a (.v 0) (.n 1)),(1,.a (.v 0) (.n 1),.a (.n 3) (.n 3))] rfl h0 z
theorem G8 (h0 : (a + (b + 1)) ≤ 1000000) : a ≤ 1000000:=nl fun z=>far [a,b] [(1,.a (.v 0) (.a (.v 1) (.n 1)),.n 1000000),(1,.a (.n 1000000) (.n 1),.v 0)] rfl h0 z
theorem Hi (h0 : a ≤ 1000) (h1 : b ≤ a) : b ≤ 1000000:=nl fun z=>far [a,b] [(1,.v 0,.n 1000),(1,.v 1,.v 0),(1,.a (.n 1000000) (.n 1),.v 1)] rfl h0 h1 z
theorem Jf (h0 : a ≤ 1000) (h1 : b ≤ a) (h2 : c ≤ b) : c ≤ 1000000:=nl fun z=>far [a,b,c] [(1,.v 0,.n 1000),(1,.v 1,.v 0),(1,.v 2,.v 1),(1,.a (.n 1000000) (.n 1),.v 2)] rfl h0 h1 h2 z
theorem KG : (((2 * 2758) + 1) + 3) ≤ 100000:=nl fun z=>far [] [(1,.a (.n 100000) (.n 1),.a (.a (.m 2 (.n 2758)) (.n 1)) (.n 3))] rfl z
theorem Ky : ((2 * 2758) + 1) ≤ 100000:=nl fun z=>far [] [(1,.a (.n 100000) (.n 1),.a (.m 2 (.n 2758)) (.n 1))] rfl z
theorem Jy (h0 : a ≤ 63) : a ≤ 1000000:=nl fun z=>far [a] [(1,.v 0,.n 63),(1,.a (.n 1000000) (.n 1),.v 0)] rfl h0 z
theorem F1 (h0 : a ≤ 240) (h1 : b ≤ a) : b ≤ 1000:=nl fun z=>far [a,b] [(1,.v 0,.n 240),(1,.v 1,.v 0),(1,.a (.n 1000) (.n 1),.v 1)] rfl h0 h1 z
end
end Mine
end
section
namespace Mine
inductive ae where
 | none
 | bool (b : Bool)
 | int (i : Int)
 | str (s : Str)
 | lst (vs : List ae)
 | tup (vs : List ae)
 | inst (C : Addr) (fs : List (Str × ae))
 | rng (a b c : Int)
 | mref (i : Nat)
 deriving Inhabited
inductive ah where
 | lst (vs : List ae)
 | idict (kvs : List (Int × ae))
 | sdict (kvs : List (Str × ae))
 | inst (C : Addr) (fs : List (Str × ae))
 | gone
 deriving Inhabited
inductive Tag where
 | free | base | froz | below | frame | junk
 | mut (i : Nat)
noncomputable def Tag.solid : Tag → Bool
 | .base | .froz=>true
 | _=>false
noncomputable def Tag.kept : Tag → Bool
 | .base | .froz | .below=>true
 | _=>false
theorem Tag.kept_of_solid {t : Tag} (h : t.solid = true) : t.kept = true:=by cases t <;> first | rfl | cases h
structure Gh where
 tag : Addr → Tag
 ρ : List Addr
noncomputable def Gh.put (G : Gh) (a : Addr) (t : Tag) : Gh:={ G with tag:=fun b=>if b = a then t else G.tag b }
theorem Gh.put_same (G : Gh) (a : Addr) (t : Tag) : (G.put a t).tag a = t:=by simp [Gh.put]
theorem Gh.put_ne (G : Gh) {a b : Addr} (t : Tag) (h : b ≠ a) : (G.put a t).tag b = G.tag b:=by simp [Gh.put,h]
mutual
inductive bO (h : Heap) (G : Gh) : Value → ae → Prop
 | none : bO h G .none .none
 | bool (b : Bool) : bO h G (.bool b) (.bool b)
 | int (i : Int) (t : Tok) : bO h G (.int i t) (.int i)
 | str (x : Str) (t : Tok) : bO h G (.str x t) (.str x)
 | lst {a : Addr} {items : List Value} {vs : List ae} : (G.tag a).solid = true → h.IsList a items.toArray → bf h G items vs → bO h G (.ref a) (.lst vs)
 | tup {a : Addr} {items : List Value} {vs : List ae} : (G.tag a).solid = true → h.IsTuple a items.toArray → bf h G items vs → bO h G (.ref a) (.tup vs)
 | inst {x dx C : Addr} {es : List DictEntry} {n : Nat} {fs : List (Str × ae)} : (G.tag x).solid = true → (G.tag dx).solid = true → h.get? x = some (instObj C dx) → h.get? dx = some (dictOf es n) → dm h G es fs → bO h G (.ref x) (.inst C fs)
 | rng {a : Addr} {lo hi st : Int} {t u v : Tok} : (G.tag a).solid = true → IsRange h a lo hi st t u v → bO h G (.ref a) (.rng lo hi st)
 | mref {i : Nat} {a : Addr} : G.ρ[i]? = some a → bO h G (.ref a) (.mref i)
inductive bf (h : Heap) (G : Gh) : List Value → List ae → Prop
 | nil : bf h G [] []
 | cons {v : Value} {a : ae} {vs : List Value} {as : List ae} : bO h G v a → bf h G vs as → bf h G (v :: vs) (a :: as)
inductive dm (h : Heap) (G : Gh) : List DictEntry → List (Str × ae) → Prop
 | nil : dm h G [] []
 | cons {hs : Int} {k : Str} {t : Tok} {v : Value} {a : ae} {es : List DictEntry} {fs : List (Str × ae)} : bO h G v a → dm h G es fs → dm h G (⟨hs,.str k t,v⟩ :: es) ((k,a) :: fs)
end
structure Ext (h : Heap) (G : Gh) (h' : Heap) (G' : Gh) : Prop where
 tag : ∀ a,(G.tag a).kept = true → G'.tag a = G.tag a
 obj : ∀ a o,(G.tag a).kept = true → h.get? a = some o → h'.get? a = some o
 ρ : G.ρ <+: G'.ρ
theorem Ext.refl (h : Heap) (G : Gh) : Ext h G h G:=⟨fun _ _=>rfl,fun _ _ _ e=>e,List.prefix_refl _⟩
theorem Ext.trans {h h' h'' : Heap} {G G' G'' : Gh} (x : Ext h G h' G') (y : Ext h' G' h'' G'') : Ext h G h'' G'' where
 tag a k:=by rw [← x.tag a k]; exact y.tag a (by rw [x.tag a k]; exact k)
 obj a o k e:=y.obj a o (by rw [x.tag a k]; exact k) (x.obj a o k e)
 ρ:=x.ρ.trans y.ρ
theorem em {α : Type} {l l' : List α} (p : l <+: l') {i : Nat} {a : α} (e : l[i]? = some a) : l'[i]? = some a:=by
 obtain ⟨t,rfl⟩:=p
 rw [List.getElem?_append_left (by obtain ⟨h,_⟩:=List.getElem?_eq_some_iff.mp e; exact h)]
 exact e
structure eN (h : Heap) (G : Gh) (h' : Heap) (G' : Gh) : Prop where
 tag : ∀ a,(G.tag a).solid = true → (G'.tag a).solid = true
 obj : ∀ a o,(G.tag a).solid = true → h.get? a = some o → h'.get? a = some o
 ρ : G.ρ <+: G'.ρ
theorem Ext.solid {h h' : Heap} {G G' : Gh} (x : Ext h G h' G') : eN h G h' G':=
 ⟨fun a k=>by rw [x.tag a (Tag.kept_of_solid k)]; exact k,fun a o k e=>x.obj a o (Tag.kept_of_solid k) e,x.ρ⟩
theorem bO.mono {h h' : Heap} {G G' : Gh} (s : eN h G h' G') {v : Value} {a : ae} (r : bO h G v a) : bO h' G' v a:=by
 refine bO.rec (motive_1:=fun v a i=>bO h' G' v a) (motive_2:=fun v a i=>bf h' G' v a) (motive_3:=fun v a i=>dm h' G' v a) .none (fun b=>.bool b) (fun i t=>.int i t) (fun x t=>.str x t) ?_ ?_ ?_ ?_ ?_ .nil ?_ .nil ?_ r
 ·intro a its vs k l g ih; exact .lst (s.tag _ k) (l.elim fun o l=>⟨o,s.obj _ _ k l.1,l.2⟩) ih
 ·intro a its vs k l g ih; exact .tup (s.tag _ k) (l.elim fun o l=>⟨o,s.obj _ _ k l.1,l.2⟩) ih
 ·intro x dx C es n fs k1 k2 e1 e2 g ih; exact .inst (s.tag _ k1) (s.tag _ k2) (s.obj _ _ k1 e1) (s.obj _ _ k2 e2) ih
 ·intro a lo hi st t u v k e; exact .rng (s.tag _ k) (s.obj _ _ k e)
 ·intro i a e; exact .mref (em s.ρ e)
 ·intro v a vs as g g' i1 i2; exact .cons i1 i2
 ·intro hs k t v a es fs g g' i1 i2; exact .cons i1 i2
theorem bf.ind {h : Heap} {G : Gh} {P : List Value → List ae → Prop} (n : P [] []) (c : ∀ v a vs as,bO h G v a → bf h G vs as → P vs as → P (v :: vs) (a :: as)) {v : List Value} {a : List ae} (r : bf h G v a) : P v a:=by
 refine bf.rec (motive_1:=fun a b c=>True) (motive_2:=fun v a i=>P v a) (motive_3:=fun a b c=>True) ?_ ?_ ?_ ?_ ?_ ?_ ?_ ?_ ?_ ?_ ?_ ?_ ?_ r <;> intros <;> first | trivial | (apply c <;> assumption)
theorem dm.ind {h : Heap} {G : Gh} {P : List DictEntry → List (Str × ae) → Prop} (n : P [] []) (c : ∀ hs k t v a es fs,bO h G v a → dm h G es fs → P es fs → P (⟨hs,.str k t,v⟩ :: es) ((k,a) :: fs)) {v : List DictEntry} {a : List (Str × ae)} (r : dm h G v a) : P v a:=by
 refine dm.rec (motive_1:=fun a b c=>True) (motive_2:=fun a b c=>True) (motive_3:=fun v a i=>P v a) ?_ ?_ ?_ ?_ ?_ ?_ ?_ ?_ ?_ ?_ ?_ ?_ ?_ r <;> intros <;> first | trivial | (apply c <;> assumption)
theorem bf.mono {h h' : Heap} {G G' : Gh} (s : eN h G h' G') {v : List Value} {a : List ae} (r : bf h G v a) : bf h' G' v a:=bf.ind .nil (fun _ _ _ _ r _ ih=>.cons (r.mono s) ih) r
theorem dm.mono {h h' : Heap} {G G' : Gh} (s : eN h G h' G') {v : List DictEntry} {a : List (Str × ae)} (r : dm h G v a) : dm h' G' v a:=dm.ind .nil (fun _ _ _ _ _ _ _ r _ ih=>.cons (r.mono s) ih) r
theorem bf.length {h : Heap} {G : Gh} {v : List Value} {a : List ae} (r : bf h G v a) : v.length = a.length:=bf.ind (P:=fun v a=>v.length = a.length) rfl (fun _ _ _ _ _ _ ih=>congrArg (· + 1) ih) r
theorem bf.get {h : Heap} {G : Gh} {v : List Value} {as : List ae} (r : bf h G v as) : ∀ {i : Nat} {a : ae},as[i]? = some a → ∃ x,v[i]? = some x ∧ bO h G x a:=
 bf.ind (P:=fun v as=>∀ {i : Nat} {a : ae},as[i]? = some a → ∃ x,v[i]? = some x ∧ bO h G x a) (fun e=>nomatch e) (fun v a vs as r _ ih {i} {b} e=>by
  cases i with
  | zero=>cases e; exact ⟨_,rfl,r⟩
  | succ i=>exact ih e) r
theorem bf.append {h : Heap} {G : Gh} {v w : List Value} {a b : List ae} (x : bf h G v a) (y : bf h G w b) : bf h G (v ++ w) (a ++ b):=
 bf.ind (P:=fun v a=>bf h G (v ++ w) (a ++ b)) y (fun _ _ _ _ r _ ih=>.cons r ih) x
section
variable (prog : Program) (w : World)
inductive dR {K : Type} (h : Heap) (G : Gh) : List (K × Value) → List (K × ae) → Prop
 | nil : dR h G [] []
 | cons {k : K} {v : Value} {a : ae} {vs : List (K × Value)} {as : List (K × ae)} : bO h G v a → dR h G vs as → dR h G ((k,v) :: vs) ((k,a) :: as)
theorem dR.mono {K : Type} {h h' : Heap} {G G' : Gh} (s : eN h G h' G') {v : List (K × Value)} {a : List (K × ae)} (r : dR h G v a) : dR h' G' v a:=by
 induction r with
 | nil=>exact .nil
 | cons r _ ih=>exact .cons (r.mono s) ih
noncomputable def MAt (h : Heap) (G : Gh) (i : Nat) : ah → Prop
 | .lst vs=>∃ a items n,G.ρ[i]? = some a ∧ G.tag a = .mut i ∧ h.get? a = some (listOf (List.toArray items) n) ∧ bf h G items vs
 | .idict kvs=>∃ a ps,G.ρ[i]? = some a ∧ G.tag a = .mut i ∧ h.DictOf (intKind prog w) a ps ∧ dR h G ps kvs
 | .sdict kvs=>∃ a ps,G.ρ[i]? = some a ∧ G.tag a = .mut i ∧ h.DictOf (strKind prog w) a ps ∧ dR h G ps kvs
 | .inst C fs=>∃ x dx es n,G.ρ[i]? = some x ∧ G.tag x = .mut i ∧ G.tag dx = .mut i ∧ h.get? x = some (instObj C dx) ∧ h.get? dx = some (dictOf es n) ∧ dm h G es fs
 | .gone=>True
theorem MAt.mono {h h' : Heap} {G G' : Gh} {i : Nat} {o : ah} (s : eN h G h' G') (ht : ∀ a,G.tag a = .mut i → G'.tag a = .mut i ∧ ∀ o,h.get? a = some o → h'.get? a = some o) (x : MAt prog w h G i o) : MAt prog w h' G' i o:=by
 cases o with
 | lst vs=>obtain ⟨a,items,n,r,t,e,v⟩:=x; exact ⟨a,items,n,em s.ρ r,(ht a t).1,(ht a t).2 _ e,v.mono s⟩
 | idict kvs=>obtain ⟨a,ps,r,t,⟨o,es,ep,e,q⟩,v⟩:=x; exact ⟨a,ps,em s.ρ r,(ht a t).1,⟨o,es,ep,(ht a t).2 _ e,q⟩,v.mono s⟩
 | sdict kvs=>obtain ⟨a,ps,r,t,⟨o,es,ep,e,q⟩,v⟩:=x; exact ⟨a,ps,em s.ρ r,(ht a t).1,⟨o,es,ep,(ht a t).2 _ e,q⟩,v.mono s⟩
 | inst C fs=>obtain ⟨x,dx,es,n,r,t1,t2,e1,e2,v⟩:=x; exact ⟨x,dx,es,n,em s.ρ r,(ht x t1).1,(ht dx t2).1,(ht x t1).2 _ e1,(ht dx t2).2 _ e2,v.mono s⟩
 | gone=>trivial
variable (B : Heap)
structure bJ (h : Heap) (G : Gh) (M : List ah) : Prop where
 base : ∀ b o,B.get? b = some o → G.tag b = .base ∧ h.get? b = some o
 live : ∀ a,G.tag a = .free ∨ ∃ o,h.get? a = some o
 len : G.ρ.length = M.length
 muts : ∀ i o,M[i]? = some o → MAt prog w h G i o
 size : B.objs.size ≤ h.objs.size
variable {prog w B}
theorem bJ.free {h : Heap} {G : Gh} {M : List ah} (c : bJ prog w B h G M) : G.tag h.objs.size = .free:=by
 rcases c.live h.objs.size with e | ⟨o,e⟩
 ·exact e
 ·exact absurd (Heap.lt_size e) (Nat.lt_irrefl _)
theorem bJ.freeAt {h : Heap} {G : Gh} {M : List ah} (c : bJ prog w B h G M) {a : Addr} (ha : h.objs.size ≤ a) : G.tag a = .free:=by
 rcases c.live a with e | ⟨o,e⟩
 ·exact e
 ·exact absurd (Heap.lt_size e) (Nat.not_lt.mpr ha)
end
end Mine
end
section
namespace Mine
section
variable {prog : Program} {w : World} {B : Heap} {h h' : Heap} {G G' : Gh} {M : List ah}
structure ml (h : Heap) (G : Gh) (h' : Heap) (G' : Gh) : Prop where
 all : ∀ a,G.tag a ≠ .free → G'.tag a = G.tag a ∧ ∀ o,h.get? a = some o → h'.get? a = some o
 ρ : G.ρ <+: G'.ρ
 size : h.objs.size ≤ h'.objs.size
 live : ∀ a,G'.tag a = .free ∨ ∃ o,h'.get? a = some o
theorem ir {t : Tag} (k : t.kept = true) : t ≠ .free:=by
 intro e
 subst e
 cases k
theorem ml.ext (g : ml h G h' G') : Ext h G h' G':=
 ⟨fun a k=>(g.all a (ir k)).1,fun a o k e=>(g.all a (ir k)).2 o e,g.ρ⟩
theorem bJ.grow (c : bJ prog w B h G M) (g : ml h G h' G') (hl : G'.ρ.length = M.length) : bJ prog w B h' G' M where
 base b o e:=by
  obtain ⟨t,e'⟩:=c.base b o e
  obtain ⟨t',k⟩:=g.all b (by rw [t]; exact fun x=>nomatch x)
  exact ⟨t'.trans t,k _ e'⟩
 live:=g.live
 len:=hl
 muts i o e:=(c.muts i o e).mono prog w g.ext.solid fun a t=>by
  obtain ⟨t',k⟩:=g.all a (by rw [t]; exact fun x=>nomatch x)
  exact ⟨t'.trans t,k⟩
 size:=Nat.le_trans c.size g.size
theorem bJ.growM {mo : ah} (c : bJ prog w B h G M) (g : ml h G h' G') (hl : G'.ρ.length = M.length + 1) (hm : MAt prog w h' G' M.length mo) : bJ prog w B h' G' (M ++ [mo]) where
 base b o e:=by
  obtain ⟨t,e'⟩:=c.base b o e
  obtain ⟨t',k⟩:=g.all b (by rw [t]; exact fun x=>nomatch x)
  exact ⟨t'.trans t,k _ e'⟩
 live:=g.live
 len:=by rw [hl,List.length_append]; rfl
 muts i o e:=by
  by_cases hi : i < M.length
  ·rw [List.getElem?_append_left hi] at e
   refine (c.muts i o e).mono prog w g.ext.solid fun a t=>?_
   obtain ⟨t',k⟩:=g.all a (by rw [t]; exact fun x=>nomatch x)
   exact ⟨t'.trans t,k⟩
  ·obtain ⟨hi2,_⟩:=List.getElem?_eq_some_iff.mp e
   rw [List.length_append] at hi2
   have : i = M.length:=by simp at hi2; exact Dn hi hi2
   subst this
   rw [List.getElem?_append_right (Nat.le_refl _),Nat.sub_self] at e
   cases e
   exact hm
 size:=Nat.le_trans c.size g.size
theorem bJ.grow_push (c : bJ prog w B h G M) (o : Obj) (t : Tag) (hf : o.isFreed = false) : ml h G (h.push o) (G.put h.objs.size t) where
 all a k:=by
  have hne : a ≠ h.objs.size:=fun e=>k (e ▸ c.free)
  exact ⟨G.put_ne t hne,fun o' e=>Heap.get?_push_of_some o e⟩
 ρ:=List.prefix_refl _
 size:=by rw [Heap.size_push]; exact Nat.le_succ _
 live a:=by
  by_cases e : a = h.objs.size
  ·subst e; exact .inr ⟨o,Heap.get?_push_size _ hf⟩
  ·rw [G.put_ne t e]
   exact (c.live a).imp id fun ⟨o',e'⟩=>⟨o',Heap.get?_push_of_some o e'⟩
theorem bJ.push (c : bJ prog w B h G M) (o : Obj) (t : Tag) (hf : o.isFreed = false:=by rfl) : bJ prog w B (h.push o) (G.put h.objs.size t) M:=c.grow (c.grow_push o t hf) c.len
theorem bJ.push_ext (c : bJ prog w B h G M) (o : Obj) (t : Tag) (hf : o.isFreed = false:=by rfl) : Ext h G (h.push o) (G.put h.objs.size t):=(c.grow_push o t hf).ext
noncomputable def Gh.add (G : Gh) (a : Addr) : Gh:={ tag:=(G.put a (.mut G.ρ.length)).tag,ρ:=G.ρ ++ [a] }
theorem bJ.grow_pushM (c : bJ prog w B h G M) (o : Obj) (hf : o.isFreed = false) : ml h G (h.push o) (G.add h.objs.size) where
 all:=(c.grow_push o (.mut G.ρ.length) hf).all
 ρ:=List.prefix_append _ _
 size:=(c.grow_push o (.mut G.ρ.length) hf).size
 live:=(c.grow_push o (.mut G.ρ.length) hf).live
theorem Gh.add_tag (G : Gh) (a : Addr) : (G.add a).tag a = .mut G.ρ.length:=by simp [Gh.add,Gh.put]
theorem Gh.add_ρ (G : Gh) (a : Addr) : (G.add a).ρ[G.ρ.length]? = some a:=by simp [Gh.add]
theorem bJ.pushM {o : Obj} {mo : ah} (c : bJ prog w B h G M) (hf : o.isFreed = false) (hm : MAt prog w (h.push o) (G.add h.objs.size) M.length mo) : bJ prog w B (h.push o) (G.add h.objs.size) (M ++ [mo]):=
 c.growM (c.grow_pushM o hf) (by simp [Gh.add,c.len]) hm
theorem bJ.pushM_ext (c : bJ prog w B h G M) (o : Obj) (hf : o.isFreed = false:=by rfl) : Ext h G (h.push o) (G.add h.objs.size):=(c.grow_pushM o hf).ext
theorem bJ.turn {i : Nat} {a : Addr} {mo : ah} (c : bJ prog w B h G M) (ta : G.tag a = .mut i) (hs : Heap.SameBut a h h') (hlv : ∃ o,h'.get? a = some o) (hm : MAt prog w h' G i mo) : bJ prog w B h' G (M.set i mo) where
 base b o e:=by
  obtain ⟨t,e'⟩:=c.base b o e
  exact ⟨t,(hs.2 b (fun x=>by rw [x,ta] at t; cases t)).trans e'⟩
 live b:=by
  by_cases e : b = a
  ·subst e; exact .inr hlv
  ·exact (c.live b).imp id fun ⟨o,e'⟩=>⟨o,(hs.2 b e).trans e'⟩
 len:=by rw [List.length_set]; exact c.len
 muts j o e:=by
  rw [List.getElem?_set] at e
  by_cases hj : i = j
  ·subst hj
   rw [if_pos rfl] at e
   split at e
   ·cases e; exact hm
   ·cases e
  ·rw [if_neg hj] at e
   refine (c.muts j o e).mono prog w ⟨fun b k=>k,fun b o k e'=>(hs.2 b (fun x=>by rw [x,ta] at k; cases k)).trans e',List.prefix_refl _⟩ fun b t=>⟨t,fun o e'=>(hs.2 b (fun x=>?_)).trans e'⟩
   rw [x,ta] at t
   cases t; exact hj rfl
 size:=by rw [hs.1]; exact c.size
theorem fx {i : Nat} {a : Addr} (ta : G.tag a = .mut i) (hs : Heap.SameBut a h h') : Ext h G h' G:=
 ⟨fun _ _=>rfl,fun b o k e=>(hs.2 b (fun x=>by rw [x,ta] at k; cases k)).trans e,List.prefix_refl _⟩
theorem f8 {i : Nat} {a : Addr} (ta : G.tag a = .mut i) (hs : Heap.SameBut a h h') : eN h G h' G:=(fx ta hs).solid
noncomputable def Gh.freeze (G : Gh) (i : Nat) : Gh:={ G with tag:=fun b=>match G.tag b with | .mut j=>if j = i then .froz else .mut j | t=>t }
theorem Gh.freeze_kept (G : Gh) (i : Nat) (a : Addr) (k : (G.tag a).kept = true) : (G.freeze i).tag a = G.tag a:=by
 unfold Gh.freeze; dsimp only; cases e : G.tag a <;> first | rfl | (rw [e] at k; cases k)
theorem Gh.freeze_self (G : Gh) (i : Nat) (a : Addr) (k : G.tag a = .mut i) : (G.freeze i).tag a = .froz:=by
 unfold Gh.freeze; dsimp only; rw [k]; simp
theorem Gh.freeze_ne (G : Gh) {i j : Nat} (a : Addr) (k : G.tag a = .mut j) (h : j ≠ i) : (G.freeze i).tag a = .mut j:=by
 unfold Gh.freeze; dsimp only; rw [k]; simp [h]
theorem Gh.freeze_free (G : Gh) (i : Nat) (a : Addr) (k : (G.freeze i).tag a ≠ .free) : G.tag a ≠ .free:=by
 intro e; apply k; unfold Gh.freeze; dsimp only; rw [e]
theorem g9 (h : Heap) (G : Gh) (i : Nat) : Ext h G h (G.freeze i):=⟨fun a k=>G.freeze_kept i a k,fun _ _ _ e=>e,List.prefix_refl _⟩
theorem bJ.freeze (c : bJ prog w B h G M) (i : Nat) : bJ prog w B h (G.freeze i) (M.set i .gone) where
 base b o e:=by
  obtain ⟨t,e'⟩:=c.base b o e
  exact ⟨by rw [G.freeze_kept i b (by rw [t]; rfl)]; exact t,e'⟩
 live b:=by
  rcases c.live b with e | e
  ·left; unfold Gh.freeze; dsimp only; rw [e]
  ·exact .inr e
 len:=by rw [List.length_set]; exact c.len
 muts j o e:=by
  rw [List.getElem?_set] at e
  by_cases hj : i = j
  ·rw [if_pos hj] at e
   split at e
   ·cases e; trivial
   ·cases e
  ·rw [if_neg hj] at e
   exact (c.muts j o e).mono prog w (g9 h G i).solid fun b t=>⟨G.freeze_ne b t (Ne.symm hj),fun _ e=>e⟩
 size:=c.size
noncomputable def froz : ah → Option ae
 | .lst vs=>some (.lst vs)
 | .inst C fs=>some (.inst C fs)
 | _=>none
theorem bJ.frozen {i : Nat} {mo : ah} {a : ae} {x : Value} (c : bJ prog w B h G M) (e : M[i]? = some mo) (ef : froz mo = some a) (hx : bO h G x (.mref i)) : bO h (G.freeze i) x a:=by
 have hm:=c.muts i mo e
 have s:=(g9 h G i).solid
 cases hx with
 | mref r=>
  cases mo with
  | lst vs=>
   cases ef
   obtain ⟨b,items,n,r',t,e',v⟩:=hm
   rw [r] at r'; cases r'
   exact .lst (by rw [G.freeze_self i _ t]; rfl) ⟨_,e',rfl,n,rfl⟩ (v.mono s)
  | inst C fs=>
   cases ef
   obtain ⟨b,dx,es,n,r',t1,t2,e1,e2,v⟩:=hm
   rw [r] at r'; cases r'
   exact .inst (by rw [G.freeze_self i _ t1]; rfl) (by rw [G.freeze_self i _ t2]; rfl) e1 e2 (v.mono s)
  | _=>cases ef
end
structure Frm where
 env : Env
 names : List Str
 own : List Addr
noncomputable abbrev Frm.L (Φ : Frm) : Addr:=Φ.env.locals
noncomputable def Gh.putAll (G : Gh) (as : List Addr) (t : Tag) : Gh:={ G with tag:=fun b=>if b ∈ as then t else G.tag b }
theorem Gh.putAll_in (G : Gh) {as : List Addr} {a : Addr} (t : Tag) (h : a ∈ as) : (G.putAll as t).tag a = t:=by simp [Gh.putAll,h]
theorem Gh.putAll_out (G : Gh) {as : List Addr} {a : Addr} (t : Tag) (h : a ∉ as) : (G.putAll as t).tag a = G.tag a:=by simp [Gh.putAll,h]
noncomputable def Frm.low (Φ : Frm) (G : Gh) : Gh:=G.putAll Φ.own .below
noncomputable def Frm.high (Φ : Frm) (G : Gh) : Gh:=G.putAll Φ.own .frame
structure Frm.Ok (Φ : Frm) : Prop where
 kind : Φ.env.scope.kind = .function
 glob : Φ.env.globals = mainGlobals
 blt : Φ.env.builtins = builtinsNs
 nd : Φ.names.Nodup
 kinds : ∀ x ∈ Φ.names,Φ.env.kindOf x = some .local ∨ (Φ.env.kindOf x = some .cell ∧ ∃ c,Φ.env.cells.lookup x = some c)
 Lown : Φ.L ∈ Φ.own
 apart : ∀ x c,Φ.env.cells.lookup x = some c → c ≠ Φ.L
 inj : ∀ x y c,Φ.env.cells.lookup x = some c → Φ.env.cells.lookup y = some c → x = y
noncomputable def Frm.Has (Φ : Frm) (h : Heap) (mm : Str → Option Value) (x : Str) (v : Value) : Prop:=
 (Φ.env.kindOf x = some .local ∧ mm x = some v) ∨ (∃ c,Φ.env.kindOf x = some .cell ∧ Φ.env.cells.lookup x = some c ∧ h.IsCell c (some v))
noncomputable def Frm.Place (Φ : Frm) (a : Addr) : Prop:=a ∈ Φ.own ∨ ∃ x,Φ.env.cells.lookup x = some a
noncomputable abbrev Loc:=List (Option ae)
structure St (prog : Program) (w : World) (B : Heap) (Φ : Frm) (h : Heap) (G : Gh) (mm : Str → Option Value) (loc : Loc) (M : List ah) : Prop where
 core : bJ prog w B h G M
 ns : h.Ns Φ.L mm
 own : ∀ a ∈ Φ.own,G.tag a = .frame ∧ ∃ o,h.get? a = some o
 cell : ∀ x c,Φ.env.cells.lookup x = some c → (∃ v,h.IsCell c v) ∧ (c ∈ Φ.own ∨ G.tag c = .below)
 above : B.objs.size ≤ Φ.L
 ok : Φ.Ok
 loc : ∀ (i : Nat) (x : Str) (a : ae),Φ.names[i]? = some x → loc[i]? = some (some a) → ∃ v,Φ.Has h mm x v ∧ bO h G v a
section
variable {prog : Program} {w : World} {B : Heap} {h h' : Heap} {G G' : Gh} {M M' : List ah} {Φ : Frm} {mm : Str → Option Value} {loc : Loc}
theorem Ns.at_ {h h' : Heap} {L : Addr} {m : Str → Option Value} (x : h.Ns L m) (k : ∀ o,h.get? L = some o → h'.get? L = some o) : h'.Ns L m:=
 let ⟨o,a1,a2,hL,a3⟩:=x; ⟨o,a1,a2,k _ hL,a3⟩
theorem IsCell.at_ {h h' : Heap} {c : Addr} {v : Option Value} (x : h.IsCell c v) (k : ∀ o,h.get? c = some o → h'.get? c = some o) : h'.IsCell c v:=
 let ⟨o,e,r⟩:=x; ⟨o,k _ e,r⟩
theorem St.fr (S : St prog w B Φ h G mm loc M) : Fr B Φ.L h mm:=⟨S.ns,fun b o e=>(S.core.base b o e).2,S.above⟩
theorem St.keep (S : St prog w B Φ h G mm loc M) : ∀ b o,B.get? b = some o → h.get? b = some o:=fun b o e=>(S.core.base b o e).2
theorem St.tL (S : St prog w B Φ h G mm loc M) : G.tag Φ.L = .frame:=(S.own _ S.ok.Lown).1
theorem St.place (S : St prog w B Φ h G mm loc M) {a : Addr} (p : Φ.Place a) : G.tag a = .frame ∨ G.tag a = .below:=by
 rcases p with p | ⟨x,p⟩
 ·exact .inl (S.own a p).1
 ·rcases (S.cell x a p).2 with q | q
  ·exact .inl (S.own a q).1
  ·exact .inr q
theorem Frm.Has.at_ {v : Value} {x : Str} (q : Φ.Has h mm x v) (k : ∀ a,Φ.Place a → ∀ o,h.get? a = some o → h'.get? a = some o) : Φ.Has h' mm x v:=by
 rcases q with q | ⟨c,k1,k2,k3⟩
 ·exact .inl q
 ·exact .inr ⟨c,k1,k2,IsCell.at_ k3 (k c (.inr ⟨x,k2⟩))⟩
theorem St.move (S : St prog w B Φ h G mm loc M) (c : bJ prog w B h' G' M') (sol : eN h G h' G') (k : ∀ a,Φ.Place a → G'.tag a = G.tag a ∧ ∀ o,h.get? a = some o → h'.get? a = some o) : St prog w B Φ h' G' mm loc M' where
 core:=c
 ns:=Ns.at_ S.ns (k _ (.inl S.ok.Lown)).2
 own a ha:=by
  obtain ⟨t,o,e⟩:=S.own a ha
  obtain ⟨t',e'⟩:=k a (.inl ha)
  exact ⟨t'.trans t,o,e' o e⟩
 cell x a e:=by
  obtain ⟨⟨v,q⟩,r⟩:=S.cell x a e
  obtain ⟨t',e'⟩:=k a (.inr ⟨x,e⟩)
  exact ⟨⟨v,IsCell.at_ q e'⟩,r.imp id fun r=>t'.trans r⟩
 above:=S.above
 ok:=S.ok
 loc i x a e1 e2:=by
  obtain ⟨v,hv,r⟩:=S.loc i x a e1 e2
  exact ⟨v,hv.at_ fun a p=>(k a p).2,r.mono sol⟩
theorem St.grow (S : St prog w B Φ h G mm loc M) (c : bJ prog w B h' G' M') (g : ml h G h' G') : St prog w B Φ h' G' mm loc M':=
 S.move c g.ext.solid fun a p=>g.all a fun e=>by rcases S.place p with q | q <;> rw [q] at e <;> cases e
theorem fU {as : List Addr} {t : Tag} (hL : ∀ a ∈ as,(G.tag a).solid = false) : eN h G h (G.putAll as t):=by
 refine ⟨fun a k=>?_,fun a o _ e=>e,List.prefix_refl _⟩
 by_cases e : a ∈ as
 ·rw [hL a e] at k; cases k
 ·rw [G.putAll_out _ e]; exact k
theorem bJ.retag (c : bJ prog w B h G M) {as : List Addr} {t t' : Tag} (hL : ∀ a ∈ as,G.tag a = t) (h1 : t ≠ .base) (h2 : ∀ i,t ≠ .mut i) (h3 : t.solid = false) (hlive : ∀ a ∈ as,∃ o,h.get? a = some o) : bJ prog w B h (G.putAll as t') M where
 base b o e:=by
  obtain ⟨tb,e'⟩:=c.base b o e
  refine ⟨?_,e'⟩
  rw [G.putAll_out _ (fun x=>h1 (by rw [← hL b x,tb]))]
  exact tb
 live b:=by
  by_cases e : b ∈ as
  ·exact .inr (hlive b e)
  ·rw [G.putAll_out _ e]; exact c.live b
 len:=c.len
 muts i o e:=(c.muts i o e).mono prog w (fU fun a ha=>by rw [hL a ha]; exact h3) fun a ta=>⟨by rw [G.putAll_out _ (fun x=>h2 i (by rw [← hL a x,ta]))]; exact ta,fun _ e=>e⟩
 size:=c.size
theorem St.lower (S : St prog w B Φ h G mm loc M) : bJ prog w B h (Φ.low G) M:=
 S.core.retag (fun a ha=>(S.own a ha).1) (fun e=>nomatch e) (fun _ e=>nomatch e) rfl fun a ha=>(S.own a ha).2
theorem St.low_solid (S : St prog w B Φ h G mm loc M) : eN h G h (Φ.low G):=fU fun a ha=>by rw [(S.own a ha).1]; rfl
theorem St.lower_val (S : St prog w B Φ h G mm loc M) {v : Value} {a : ae} (r : bO h G v a) : bO h (Φ.low G) v a:=r.mono S.low_solid
theorem St.lower_vals (S : St prog w B Φ h G mm loc M) {v : List Value} {a : List ae} (r : bf h G v a) : bf h (Φ.low G) v a:=r.mono S.low_solid
theorem St.low_place (S : St prog w B Φ h G mm loc M) {a : Addr} (p : Φ.Place a) : (Φ.low G).tag a = .below:=by
 by_cases q : a ∈ Φ.own
 ·exact G.putAll_in _ q
 ·show (G.putAll _ _).tag a = _
  rw [G.putAll_out _ q]
  rcases p with p | ⟨x,p⟩
  ·exact absurd p q
  ·exact ((S.cell x a p).2).resolve_left q
theorem St.tag_back (S : St prog w B Φ h G mm loc M) (x : Ext h (Φ.low G) h' G') {a : Addr} (p : Φ.Place a) : G'.tag a = .below:=by
 rw [x.tag a (by rw [S.low_place p]; rfl),S.low_place p]
theorem St.back_solid (S : St prog w B Φ h G mm loc M) (x : Ext h (Φ.low G) h' G') : eN h' G' h' (Φ.high G'):=fU fun a ha=>by rw [S.tag_back x (.inl ha)]; rfl
theorem St.back_ext (S : St prog w B Φ h G mm loc M) (x : Ext h (Φ.low G) h' G') : Ext h G h' (Φ.high G'):=by
 have no : ∀ a,(G.tag a).kept = true → a ∉ Φ.own:=fun a k e=>by rw [(S.own a e).1] at k; cases k
 refine ⟨fun a k=>?_,fun a o k e=>?_,x.ρ⟩
 ·show (G'.putAll _ _).tag a = _
  have e1 : (Φ.low G).tag a = G.tag a:=G.putAll_out _ (no a k)
  rw [G'.putAll_out _ (no a k),x.tag a (by rw [e1]; exact k),e1]
 ·exact x.obj a o (by rw [show (Φ.low G).tag a = G.tag a from G.putAll_out _ (no a k)]; exact k) e
theorem St.back_val (S : St prog w B Φ h G mm loc M) (x : Ext h (Φ.low G) h' G') {v : Value} {a : ae} (r : bO h' G' v a) : bO h' (Φ.high G') v a:=r.mono (S.back_solid x)
theorem St.back (S : St prog w B Φ h G mm loc M) (x : Ext h (Φ.low G) h' G') (c : bJ prog w B h' G' M') : St prog w B Φ h' (Φ.high G') mm loc M':=by
 have ob : ∀ a,Φ.Place a → ∀ o,h.get? a = some o → h'.get? a = some o:=fun a p o e=>x.obj a o (by rw [S.low_place p]; rfl) e
 refine S.move ?_ (S.back_ext x).solid fun a p=>⟨?_,ob a p⟩
 ·refine c.retag (fun a ha=>S.tag_back x (.inl ha)) (fun e=>nomatch e) (fun _ e=>nomatch e) rfl fun a ha=>?_
  obtain ⟨o,e⟩:=(S.own a ha).2
  exact ⟨o,ob a (.inl ha) o e⟩
 ·by_cases q : a ∈ Φ.own
  ·rw [(S.own a q).1]; exact G'.putAll_in _ q
  ·show (G'.putAll _ _).tag a = _
   rw [G'.putAll_out _ q,S.tag_back x p]
   rcases p with p | ⟨y,p⟩
   ·exact absurd p q
   ·exact (((S.cell y a p).2).resolve_left q).symm
theorem oX (ok : Φ.Ok) {i j : Nat} {x : Str} (e1 : Φ.names[i]? = some x) (e2 : Φ.names[j]? = some x) : i = j:=by
 obtain ⟨l1,g1⟩:=List.getElem?_eq_some_iff.mp e1
 obtain ⟨l2,g2⟩:=List.getElem?_eq_some_iff.mp e2
 exact (List.getElem_inj ok.nd).mp (g1.trans g2.symm)
theorem St.turnOwn (S : St prog w B Φ h G mm loc M) {p : Addr} (hp : p ∈ Φ.own) (hs : Heap.SameBut p h h') (hlv : ∃ o,h'.get? p = some o) : bJ prog w B h' G M ∧ Ext h G h' G:=by
 have tp:=(S.own p hp).1
 have ne : ∀ b,(G.tag b) ≠ .frame → b ≠ p:=fun b k e=>k (e ▸ tp)
 have X : Ext h G h' G:=⟨fun _ _=>rfl,fun b o k e=>(hs.2 b (ne b fun t=>by rw [t] at k; cases k)).trans e,List.prefix_refl _⟩
 refine ⟨⟨fun b o e=>?_,fun b=>?_,S.core.len,fun j o e=>?_,by rw [hs.1]; exact S.core.size⟩,X⟩
 ·obtain ⟨t,e'⟩:=S.core.base b o e
  exact ⟨t,(hs.2 b (ne b (by rw [t]; exact fun x=>nomatch x))).trans e'⟩
 ·by_cases e : b = p
  ·subst e; exact .inr hlv
  ·exact (S.core.live b).imp id fun ⟨o,e'⟩=>⟨o,(hs.2 b e).trans e'⟩
 ·exact (S.core.muts j o e).mono prog w X.solid fun b t=>⟨t,fun o e'=>(hs.2 b (ne b (by rw [t]; exact fun x=>nomatch x))).trans e'⟩
theorem St.store (S : St prog w B Φ h G mm loc M) {i : Nat} {x : Str} {v : Value} {a : ae} (hi : Φ.names[i]? = some x) (hk : Φ.env.kindOf x = some .local) (r : bO h G v a) (hn : h'.Ns Φ.L (fun y=>if y = x then some v else mm y)) (hs : Heap.SameBut Φ.L h h') :
  St prog w B Φ h' G (fun y=>if y = x then some v else mm y) (loc.set i (some a)) M ∧ Ext h G h' G:=by
 have hlv : ∃ o,h'.get? Φ.L = some o:=let ⟨o,a1,a2,hL,a3⟩:=hn; ⟨o,hL⟩
 obtain ⟨c,X⟩:=S.turnOwn S.ok.Lown hs hlv
 refine ⟨⟨c,hn,fun b hb=>?_,fun y c e=>?_,S.above,S.ok,fun j y b e1 e2=>?_⟩,X⟩
 ·obtain ⟨t,o,e⟩:=S.own b hb
  refine ⟨t,?_⟩
  by_cases q : b = Φ.L
  ·subst q; exact hlv
  ·exact ⟨o,(hs.2 b q).trans e⟩
 ·obtain ⟨⟨v,q⟩,r⟩:=S.cell y c e
  exact ⟨⟨v,IsCell.at_ q fun o e'=>(hs.2 c (S.ok.apart y c e)).trans e'⟩,r⟩
 ·rw [List.getElem?_set] at e2
  by_cases hj : i = j
  ·subst hj
   rw [hi] at e1; cases e1
   rw [if_pos rfl] at e2
   split at e2
   ·cases e2; exact ⟨v,.inl ⟨hk,by simp⟩,r.mono X.solid⟩
   ·cases e2
  ·rw [if_neg hj] at e2
   obtain ⟨u,hu,q⟩:=S.loc j y b e1 e2
   refine ⟨u,?_,q.mono X.solid⟩
   have hne : y ≠ x:=fun e=>hj (oX S.ok hi (e ▸ e1))
   rcases hu with ⟨k1,k2⟩ | ⟨c,k1,k2,k3⟩
   ·exact .inl ⟨k1,by simp [hne,k2]⟩
   ·exact .inr ⟨c,k1,k2,IsCell.at_ k3 fun o e'=>(hs.2 c (S.ok.apart y c k2)).trans e'⟩
theorem St.storeC (S : St prog w B Φ h G mm loc M) {i : Nat} {x : Str} {c : Addr} {v : Value} {a : ae} (hi : Φ.names[i]? = some x) (hk : Φ.env.kindOf x = some .cell) (hc : Φ.env.cells.lookup x = some c) (ho : c ∈ Φ.own) (r : bO h G v a) (hv : h'.IsCell c (some v)) (hs : Heap.SameBut c h h') :
  St prog w B Φ h' G mm (loc.set i (some a)) M ∧ Ext h G h' G:=by
 have hlv : ∃ o,h'.get? c = some o:=let ⟨o,e,_⟩:=hv; ⟨o,e⟩
 obtain ⟨C,X⟩:=S.turnOwn ho hs hlv
 have hLc:=S.ok.apart x c hc
 refine ⟨⟨C,Ns.at_ S.ns fun o e=>(hs.2 _ (Ne.symm hLc)).trans e,fun b hb=>?_,fun y c' e=>?_,S.above,S.ok,fun j y b e1 e2=>?_⟩,X⟩
 ·obtain ⟨t,o,e⟩:=S.own b hb
  refine ⟨t,?_⟩
  by_cases q : b = c
  ·subst q; exact hlv
  ·exact ⟨o,(hs.2 b q).trans e⟩
 ·obtain ⟨⟨u,q⟩,r⟩:=S.cell y c' e
  refine ⟨?_,r⟩
  by_cases z : c' = c
  ·subst z; exact ⟨_,hv⟩
  ·exact ⟨u,IsCell.at_ q fun o e'=>(hs.2 c' z).trans e'⟩
 ·rw [List.getElem?_set] at e2
  by_cases hj : i = j
  ·subst hj
   rw [hi] at e1; cases e1
   rw [if_pos rfl] at e2
   split at e2
   ·cases e2; exact ⟨v,.inr ⟨c,hk,hc,hv⟩,r.mono X.solid⟩
   ·cases e2
  ·rw [if_neg hj] at e2
   obtain ⟨u,hu,q⟩:=S.loc j y b e1 e2
   refine ⟨u,?_,q.mono X.solid⟩
   have hne : y ≠ x:=fun e=>hj (oX S.ok hi (e ▸ e1))
   rcases hu with q' | ⟨c',k1,k2,k3⟩
   ·exact .inl q'
   ·refine .inr ⟨c',k1,k2,IsCell.at_ k3 fun o e'=>(hs.2 c' fun z=>hne ?_).trans e'⟩
    exact S.ok.inj _ _ _ k2 (z ▸ hc)
end
end Mine
end
section
namespace Mine
noncomputable abbrev Mo (α : Type):=List ah → Option (α × List ah)
noncomputable def ret {α : Type} (a : α) : Mo α:=fun M=>some (a,M)
noncomputable def bnd {α β : Type} (m : Mo α) (f : α → Mo β) : Mo β:=fun M=>match m M with
 | none=>none
 | some (a,M')=>f a M'
noncomputable def dK {α : Type} : Mo α:=fun _=>none
theorem aL {α β : Type} {m : Mo α} {f : α → Mo β} {M : List ah} {r : β × List ah} (e : bnd m f M = some r) : ∃ a M',m M = some (a,M') ∧ f a M' = some r:=by
 unfold bnd at e
 split at e
 ·cases e
 ·rename_i h; exact ⟨a,M',h,e⟩
theorem q6 {α β : Type} {m : Mo α} {f : α → Mo β} {M M' : List ah} {a : α} (h : m M = some (a,M')) : bnd m f M = f a M':=by
 unfold bnd; rw [h]
structure eZ (A : Around) (b : Nat) : Prop where
 hd : A.handled = none
 dp : A.depth + b < recursionLimit
 un : A.units + 8 * b < cLine
theorem eZ.mono {A : Around} {b b' : Nat} (r : eZ A b) (h : b' ≤ b) : eZ A b':=⟨r.hd,Nat.lt_of_le_of_lt (Nat.add_le_add_left h _) r.dp,Nat.lt_of_le_of_lt (Nat.add_le_add_left (Nat.mul_le_mul_left 8 h) _) r.un⟩
section
variable (prog : Program) (w : World) (B : Heap)
noncomputable def gK (A : Around) (t : Sem Value) (s : Shared) (G : Gh) (r : ae) (M' : List ah) : Prop:=
 ∀ (Q : Value → Shared → Prop) (E : Value → Shared → Prop),
  (∀ h' tk' G' x,bJ prog w B h' G' M' → Ext s.heap G h' G' → bO h' G' x r → Q x { s with heap:=h',toks:=tk' }) → wpAny (model prog w) A t Q E s
noncomputable def tw (Φ : Frm) (mm : Str → Option Value) (loc : Loc) (A : Around) (t : Sem Value) (s : Shared) (G : Gh) (r : ae) (M' : List ah) : Prop:=
 ∀ (Q : Value → Shared → Prop) (E : Value → Shared → Prop),
  (∀ h' tk' G' x,St prog w B Φ h' G' mm loc M' → Ext s.heap G h' G' → bO h' G' x r → Q x { s with heap:=h',toks:=tk' }) → wpAny (model prog w) A t Q E s
structure Sg where
 scope : Scope
 names : List Str
noncomputable def Frm.Of (Φ : Frm) (sg : Sg) : Prop:=Φ.env.scope = sg.scope ∧ Φ.names = sg.names
noncomputable def Frm.OfS (Φ : Frm) (sg : Sg) : Prop:=Φ.Of sg ∧ ∀ x c,Φ.env.cells.lookup x = some c → c ∈ Φ.own
noncomputable def bT (b : Nat) (sg : Sg) (e : Expr) (m : Loc → Mo ae) : Prop:=
 ∀ (A : Around) (Φ : Frm) (s : Shared) (G : Gh) (mm : Str → Option Value) (loc : Loc) (M : List ah) (r : ae) (M' : List ah),
  eZ A b → Φ.Of sg → St prog w B Φ s.heap G mm loc M → m loc M = some (r,M') → tw prog w B Φ mm loc A (eval e Φ.env) s G r M'
noncomputable def iS (b : Nat) (sg : Sg) (es : List Expr) (m : Loc → Mo (List ae)) : Prop:=
 ∀ (A : Around) (Φ : Frm) (pos : Pos) (s : Shared) (G : Gh) (mm : Str → Option Value) (loc : Loc) (M : List ah) (r : List ae) (M' : List ah),
  eZ A b → Φ.Of sg → St prog w B Φ s.heap G mm loc M → m loc M = some (r,M') →
  ∀ (Q : List Value → Shared → Prop) (E : Value → Shared → Prop),
   (∀ h' tk' G' x,St prog w B Φ h' G' mm loc M' → Ext s.heap G h' G' → bf h' G' x r → Q x { s with heap:=h',toks:=tk' }) →
   wpAny (model prog w) A (spliced (backTo pos (starEach es Φ.env))) Q E s
noncomputable def lq (b : Nat) (sg : Sg) (e : Expr) (m : Loc → Mo Bool) : Prop:=
 ∀ (A : Around) (Φ : Frm) (s : Shared) (G : Gh) (mm : Str → Option Value) (loc : Loc) (M : List ah) (r : Bool) (M' : List ah),
  eZ A b → Φ.Of sg → St prog w B Φ s.heap G mm loc M → m loc M = some (r,M') →
  ∀ (Q : Bool → Shared → Prop) (E : Value → Shared → Prop),
   (∀ h' tk' G',St prog w B Φ h' G' mm loc M' → Ext s.heap G h' G' → Q r { s with heap:=h',toks:=tk' }) →
   wpAny (model prog w) A (isTrue e Φ.env (eval e Φ.env)) Q E s
inductive Fl where
 | next | brk
 | ret (v : ae)
inductive yG (h : Heap) (G : Gh) : Flow → Fl → Prop
 | next : yG h G .next .next
 | brk : yG h G .brk .brk
 | ret {v : Value} {a : ae} : bO h G v a → yG h G (.ret v) (.ret a)
noncomputable def BC (Φ : Frm) (A : Around) (t : Sem Flow) (s : Shared) (G : Gh) (r : Fl) (loc' : Loc) (M' : List ah) : Prop:=
 ∀ (Q : Flow → Shared → Prop) (E : Value → Shared → Prop),
  (∀ h' tk' G' mm' x,St prog w B Φ h' G' mm' loc' M' → Ext s.heap G h' G' → yG h' G' x r → Q x { s with heap:=h',toks:=tk' }) → wpAny (model prog w) A t Q E s
noncomputable def hA (b : Nat) (sg : Sg) (st : Stmt) (m : Loc → Mo (Fl × Loc)) : Prop:=
 ∀ (A : Around) (Φ : Frm) (s : Shared) (G : Gh) (mm : Str → Option Value) (loc : Loc) (M : List ah) (r : Fl) (loc' : Loc) (M' : List ah),
  eZ A b → Φ.OfS sg → St prog w B Φ s.heap G mm loc M → m loc M = some ((r,loc'),M') → BC prog w B Φ A (exec st Φ.env) s G r loc' M'
noncomputable def cy (b : Nat) (sg : Sg) (st : List Stmt) (m : Loc → Mo (Fl × Loc)) : Prop:=
 ∀ (A : Around) (Φ : Frm) (s : Shared) (G : Gh) (mm : Str → Option Value) (loc : Loc) (M : List ah) (r : Fl) (loc' : Loc) (M' : List ah),
  eZ A b → Φ.OfS sg → St prog w B Φ s.heap G mm loc M → m loc M = some ((r,loc'),M') → BC prog w B Φ A (execs st Φ.env) s G r loc' M'
noncomputable def pE (b : Nat) (t : Value → Sem Value) (f : ae → Mo ae) : Prop:=
 ∀ (A : Around) (s : Shared) (G : Gh) (M : List ah) (x : Value) (a r : ae) (M' : List ah),
  eZ A b → bJ prog w B s.heap G M → bO s.heap G x a → f a M = some (r,M') → gK prog w B A (t x) s G r M'
noncomputable def cG (b : Nat) (t : Value → Value → Sem Value) (f : ae → ae → Mo ae) : Prop:=
 ∀ (A : Around) (s : Shared) (G : Gh) (M : List ah) (x y : Value) (a c r : ae) (M' : List ah),
  eZ A b → bJ prog w B s.heap G M → bO s.heap G x a → bO s.heap G y c → f a c M = some (r,M') → gK prog w B A (t x y) s G r M'
noncomputable def il (b : Nat) (f : Value) (F : List ae → Mo ae) : Prop:=
 ∀ (A : Around) (s : Shared) (G : Gh) (M : List ah) (xs : List Value) (as : List ae) (r : ae) (M' : List ah),
  eZ A b → bJ prog w B s.heap G M → bf s.heap G xs as → F as M = some (r,M') → gK prog w B A (call f xs) s G r M'
end
section
variable {prog : Program} {w : World} {B : Heap} {b : Nat} {sg : Sg}
theorem gK.lift {Φ : Frm} {mm : Str → Option Value} {loc : Loc} {A : Around} {t : Sem Value} {s : Shared} {G : Gh} {r : ae} {M M' : List ah}
  (S : St prog w B Φ s.heap G mm loc M) (x : gK prog w B A t s (Φ.low G) r M') : tw prog w B Φ mm loc A t s G r M':=fun Q E h=>
 x Q E fun h' tk' G' v c e r=>h h' tk' _ v (S.back e c) (S.back_ext e) (S.back_val e r)
theorem tw.bind {Φ : Frm} {mm : Str → Option Value} {loc : Loc} {A : Around} {t : Sem Value} {s : Shared} {G : Gh} {r : ae} {M' : List ah} {Q : Value → Shared → Prop} {E : Value → Shared → Prop}
  (x : tw prog w B Φ mm loc A t s G r M') (h : ∀ h' tk' G' v,St prog w B Φ h' G' mm loc M' → Ext s.heap G h' G' → bO h' G' v r → Q v { s with heap:=h',toks:=tk' }) : wpAny (model prog w) A t Q E s:=x Q E h
noncomputable def af (i : Nat) : Loc → Mo ae:=fun loc M=>match loc[i]? with
 | some (some v)=>some (v,M)
 | _=>none
theorem EH {i : Nat} {x : Str} {pos : Pos} (hi : sg.names[i]? = some x) (hd : (x == ("__debug__" : Str)) = false:=by decide) : bT prog w B b sg (.Name x pos) (af i):=by
 intro A Φ s G mm loc M r M' _ hΦ S e Q E h
 unfold af at e
 split at e
 ·rename_i hv
  cases e
  have hi' : Φ.names[i]? = some x:=by rw [hΦ.2]; exact hi
  obtain ⟨u,hu,q⟩:=S.loc i x _ hi' hv
  have fin:=h s.heap s.toks G u S (Ext.refl _ _) q
  rcases hu with ⟨k1,k2⟩ | ⟨c,k1,k2,k3⟩
  ·exact wpAny_Name (wpAny_loadName_local S.ok.kind k1 S.ns k2 fin) hd
  ·exact wpAny_Name (wpAny_loadName_cell S.ok.kind k1 k2 k3 fin) hd
 ·cases e
noncomputable def ar (a : ae) : Loc → Mo ae:=fun _=>ret a
theorem aJ {i : Int} {k : Nat} {pos : Pos} : bT prog w B b sg (.Constant (.int i) k pos) (ar (.int i)):=by
 intro A Φ s G mm loc M r M' _ hΦ S e Q E h
 cases e
 exact wpAny_Constant_int (h s.heap _ G _ S (Ext.refl _ _) (.int ..))
theorem aW {x : Str} {k : Nat} {pos : Pos} : bT prog w B b sg (.Constant (.str x) k pos) (ar (.str x)):=by
 intro A Φ s G mm loc M r M' _ hΦ S e Q E h
 cases e
 exact wpAny_Constant_str (h s.heap _ G _ S (Ext.refl _ _) (.str ..))
theorem db {k : Nat} {pos : Pos} : bT prog w B b sg (.Constant .none k pos) (ar .none):=by
 intro A Φ s G mm loc M r M' _ hΦ S e Q E h
 cases e
 exact wpAny_Constant_none (h s.heap s.toks G _ S (Ext.refl _ _) .none)
theorem iV {v : Bool} {k : Nat} {pos : Pos} : bT prog w B b sg (.Constant (.bool v) k pos) (ar (.bool v)):=by
 intro A Φ s G mm loc M r M' _ hΦ S e Q E h
 cases e
 exact wpAny_Constant_bool (h s.heap s.toks G _ S (Ext.refl _ _) (.bool ..))
noncomputable def aE (f : ae → ae → Mo ae) (l r : Loc → Mo ae) : Loc → Mo ae:=fun loc=>bnd (l loc) fun a=>bnd (r loc) fun c=>f a c
theorem j8 {l r : Loc → Mo ae} {f : ae → ae → Mo ae} {el er : Expr} {t : Value → Value → Sem Value} (hl : bT prog w B b sg el l) (hr : bT prog w B b sg er r) (ho : cG prog w B b t f)
  {A : Around} {Φ : Frm} {s : Shared} {G : Gh} {mm : Str → Option Value} {loc : Loc} {M M' : List ah} {v : ae} (R : eZ A b) (hΦ : Φ.Of sg) (S : St prog w B Φ s.heap G mm loc M) (e : aE f l r loc M = some (v,M')) {Q : Value → Shared → Prop} {E : Value → Shared → Prop}
  (h : ∀ h' tk' G' x,St prog w B Φ h' G' mm loc M' → Ext s.heap G h' G' → bO h' G' x v → Q x { s with heap:=h',toks:=tk' }) :
  wpAny (model prog w) A (eval el Φ.env) (fun a s₁=>wpAny (model prog w) A (eval er Φ.env) (fun c s₂=>wpAny (model prog w) A (t a c) Q E s₂) E s₁) E s:=by
 obtain ⟨a,M1,e1,e⟩:=aL e
 obtain ⟨c,M2,e2,e⟩:=aL e
 refine hl A Φ s G mm loc M a M1 R hΦ S e1 _ _ fun h1 tk1 G1 x S1 X1 r1=>?_
 refine hr A Φ _ G1 mm loc M1 c M2 R hΦ S1 e2 _ _ fun h2 tk2 G2 y S2 X2 r2=>?_
 refine gK.lift (s:={ s with heap:=h2,toks:=tk2 }) S2 (ho A _ _ M2 x y a c v M' R S2.lower (S2.lower_val (r1.mono X2.solid)) (S2.lower_val r2) e) _ _ fun h3 tk3 G3 z S3 X3 r3=>?_
 exact h h3 tk3 G3 z S3 (X1.trans (X2.trans X3)) r3
theorem cx {op : Operator} {el er : Expr} {pos : Pos} {l r : Loc → Mo ae} {f : ae → ae → Mo ae} (hl : bT prog w B b sg el l) (hr : bT prog w B b sg er r) (ho : cG prog w B b (binaryOp op) f) : bT prog w B b sg (.BinOp el op er pos) (aE f l r):=by
 intro A Φ s G mm loc M v M' R hΦ S e Q E h
 exact wpAny_BinOp (j8 hl hr ho R hΦ S e h)
theorem ss {op : CmpOp} {el er : Expr} {pos : Pos} {l r : Loc → Mo ae} {f : ae → ae → Mo ae} (hl : bT prog w B b sg el l) (hr : bT prog w B b sg er r) (ho : cG prog w B b (compareOp op) f) (hm : behindInMarks op er = false:=by rfl) : bT prog w B b sg (.Compare el [op] [er] pos) (aE f l r):=by
 intro A Φ s G mm loc M v M' R hΦ S e Q E h
 exact wpAny_Compare1 (j8 hl hr ho R hΦ S e h) hm
noncomputable def aS (f : ae → Mo ae) (l : Loc → Mo ae) : Loc → Mo ae:=fun loc=>bnd (l loc) f
theorem ts {l : Loc → Mo ae} {f : ae → Mo ae} {el : Expr} {t : Value → Sem Value} (hl : bT prog w B b sg el l) (ho : pE prog w B b t f)
  {A : Around} {Φ : Frm} {s : Shared} {G : Gh} {mm : Str → Option Value} {loc : Loc} {M M' : List ah} {v : ae} (R : eZ A b) (hΦ : Φ.Of sg) (S : St prog w B Φ s.heap G mm loc M) (e : aS f l loc M = some (v,M')) {Q : Value → Shared → Prop} {E : Value → Shared → Prop}
  (h : ∀ h' tk' G' x,St prog w B Φ h' G' mm loc M' → Ext s.heap G h' G' → bO h' G' x v → Q x { s with heap:=h',toks:=tk' }) :
  wpAny (model prog w) A (eval el Φ.env) (fun a s₁=>wpAny (model prog w) A (t a) Q E s₁) E s:=by
 obtain ⟨a,M1,e1,e⟩:=aL e
 refine hl A Φ s G mm loc M a M1 R hΦ S e1 _ _ fun h1 tk1 G1 x S1 X1 r1=>?_
 refine gK.lift (s:={ s with heap:=h1,toks:=tk1 }) S1 (ho A _ _ M1 x a v M' R S1.lower (S1.lower_val r1) e) _ _ fun h3 tk3 G3 z S3 X3 r3=>?_
 exact h h3 tk3 G3 z S3 (X1.trans X3) r3
theorem Bu {op : UnaryOp} {el : Expr} {pos : Pos} {l : Loc → Mo ae} {f : ae → Mo ae} (hl : bT prog w B b sg el l) (ho : pE prog w B b (unaryOp op) f) : bT prog w B b sg (.UnaryOp op el pos) (aS f l):=by
 intro A Φ s G mm loc M v M' R hΦ S e Q E h
 exact wpAny_UnaryOp (ts hl ho R hΦ S e h)
theorem aG {x : Str} {el : Expr} {pos : Pos} {l : Loc → Mo ae} {f : ae → Mo ae} (hl : bT prog w B b sg el l) (ho : pE prog w B b (fun v=>getAttr v x true) f)
  (he : ∀ env,attributeBase el x env (eval el env) = eval el env:=by intro _; rfl) : bT prog w B b sg (.Attribute el x pos) (aS f l):=by
 intro A Φ s G mm loc M v M' R hΦ S e Q E h
 refine Attribute_any_ (ts hl ho R hΦ S e h) ?_
 rw [← he Φ.env]
 rfl
theorem bC {el er : Expr} {pos : Pos} {l r : Loc → Mo ae} {f : ae → ae → Mo ae} (hl : bT prog w B b sg el l) (hr : bT prog w B b sg er r) (ho : cG prog w B b (subscriptTail el er) f) : bT prog w B b sg (.Subscript el er pos) (aE f l r):=by
 intro A Φ s G mm loc M v M' R hΦ S e Q E h
 exact Subscript_ (j8 hl hr ho R hΦ S e h)
noncomputable def aD (l : Loc → Mo ae) : Loc → Mo ae:=fun loc=>bnd (l loc) fun a=>match a with
 | .mref i=>fun M=>match M[i]? with
  | some mo=>(match Mine.froz mo with
   | some v=>some (v,M.set i .gone)
   | none=>none)
  | none=>none
 | _=>dK
theorem aH {el : Expr} {l : Loc → Mo ae} (hl : bT prog w B b sg el l) : bT prog w B b sg el (aD l):=by
 intro A Φ s G mm loc M v M' R hΦ S e Q E h
 obtain ⟨a,M1,e1,e⟩:=aL e
 refine hl A Φ s G mm loc M a M1 R hΦ S e1 _ _ fun h1 tk1 G1 x S1 X1 r1=>?_
 cases a with
 | mref i=>
  dsimp only at e
  split at e
  ·rename_i hmo
   split at e
   ·rename_i hfv
    cases e
    have X2:=g9 h1 G1 i
    refine h h1 tk1 (G1.freeze i) x (S1.move (S1.core.freeze i) X2.solid fun a p=>⟨?_,fun o e=>e⟩) (X1.trans X2) (S1.core.frozen hmo hfv r1)
    rcases S1.place p with q | q
    ·rw [q]; unfold Gh.freeze; dsimp only; rw [q]
    ·rw [q]; unfold Gh.freeze; dsimp only; rw [q]
   ·cases e
  ·cases e
 | _=>cases e
noncomputable def am : Loc → Mo (List ae):=fun _=>ret []
noncomputable def ab (l : Loc → Mo ae) (ls : Loc → Mo (List ae)) : Loc → Mo (List ae):=fun loc=>bnd (l loc) fun a=>bnd (ls loc) fun as=>ret (a :: as)
theorem ak : iS prog w B b sg [] am:=by
 intro A Φ pos s G mm loc M r M' R hΦ S e Q E h
 cases e
 exact wpAny_items_nil (h s.heap s.toks G [] S (Ext.refl _ _) .nil)
theorem aa {el : Expr} {rest : List Expr} {l : Loc → Mo ae} {ls : Loc → Mo (List ae)} (hl : bT prog w B b sg el l) (hs : iS prog w B b sg rest ls)
  (he : ∀ env,starEach (el :: rest) env = (false,eval el env) :: starEach rest env:=by intro _; rfl) : iS prog w B b sg (el :: rest) (ab l ls):=by
 intro A Φ pos s G mm loc M r M' R hΦ S e Q E h
 obtain ⟨a,M1,e1,e⟩:=aL e
 obtain ⟨as,M2,e2,e⟩:=aL e
 cases e
 refine wpAny_items_cons ?_ (he _)
 refine hl A Φ s G mm loc M a M1 R hΦ S e1 _ _ fun h1 tk1 G1 x S1 X1 r1=>?_
 refine hs A Φ pos _ G1 mm loc M1 as _ R hΦ S1 e2 _ _ fun h2 tk2 G2 xs S2 X2 r2=>?_
 exact h h2 tk2 G2 (x :: xs) S2 (X1.trans X2) (.cons (r1.mono X2.solid) r2)
noncomputable def Cp (b : ae) : Option Bool:=match b with
 | .bool v=>some v
 | _=>none
noncomputable def a6 (l : Loc → Mo ae) : Loc → Mo Bool:=fun loc=>bnd (l loc) fun a=>match Cp a with
 | some v=>ret v
 | none=>dK
theorem bh {op : CmpOp} {el er : Expr} {pos : Pos} {l r : Loc → Mo ae} {f : ae → ae → Mo ae} (hl : bT prog w B b sg el l) (hr : bT prog w B b sg er r) (ho : cG prog w B b (compareOp op) f) (hm : behindInMarks op er = false:=by rfl) : lq prog w B b sg (.Compare el [op] [er] pos) (a6 (aE f l r)):=by
 intro A Φ s G mm loc M v M' R hΦ S e Q E h
 obtain ⟨a,M1,e1,e⟩:=aL e
 cases a with
 | bool u=>
  cases e
  refine wpAny_isTrue_Compare1 ?_ hm
  refine j8 hl hr ho R hΦ S e1 fun h1 tk1 G1 x S1 X1 r1=>?_
  cases r1
  exact wpAny_truthy_bool (h h1 tk1 G1 S1 X1)
 | _=>cases e
noncomputable def w4 : Expr → Bool
 | .Name .. | .Attribute .. | .Call .. | .Subscript .. | .Constant ..=>true
 | _=>false
theorem fo {el : Expr} {l : Loc → Mo ae} (hl : bT prog w B b sg el l) (hp : w4 el = true:=by rfl) : lq prog w B b sg el (a6 l):=by
 intro A Φ s G mm loc M v M' R hΦ S e Q E h
 obtain ⟨a,M1,e1,e⟩:=aL e
 cases a with
 | bool u=>
  cases e
  refine wpAny_isTrue_value ?_ (by cases el <;> first | rfl | cases hp)
  refine hl A Φ s G mm loc M _ _ R hΦ S e1 _ _ fun h1 tk1 G1 x S1 X1 r1=>?_
  cases r1
  exact wpAny_truthy_bool (h h1 tk1 G1 S1 X1)
 | _=>cases e
noncomputable def tO (l : Loc → Mo Bool) : Loc → Mo Bool:=fun loc=>bnd (l loc) fun a=>ret (!a)
theorem Eu {el : Expr} {pos : Pos} {l : Loc → Mo Bool} (hl : lq prog w B b sg el l) : lq prog w B b sg (.UnaryOp .Not el pos) (tO l):=by
 intro A Φ s G mm loc M v M' R hΦ S e Q E h
 obtain ⟨a,M1,e1,e⟩:=aL e
 cases e
 exact wpAny_isTrue_Not (hl A Φ s G mm loc M a _ R hΦ S e1 _ _ h)
noncomputable def ki (l r : Loc → Mo Bool) : Loc → Mo Bool:=fun loc=>bnd (l loc) fun a=>if a then r loc else ret false
noncomputable def tOr (l r : Loc → Mo Bool) : Loc → Mo Bool:=fun loc=>bnd (l loc) fun a=>if a then ret true else r loc
noncomputable def jt (prog : Program) (w : World) (B : Heap) (b : Nat) (sg : Sg) (op : BoolOp) (es : List Expr) (m : Loc → Mo Bool) : Prop:=
 ∀ (A : Around) (Φ : Frm) (s : Shared) (G : Gh) (mm : Str → Option Value) (loc : Loc) (M : List ah) (r : Bool) (M' : List ah),
  eZ A b → Φ.Of sg → St prog w B Φ s.heap G mm loc M → m loc M = some (r,M') →
  ∀ (Q : Bool → Shared → Prop) (E : Value → Shared → Prop),
   (∀ h' tk' G',St prog w B Φ h' G' mm loc M' → Ext s.heap G h' G' → Q r { s with heap:=h',toks:=tk' }) →
   wpAny (model prog w) A (allTrue op es Φ.env) Q E s
theorem gy {op : BoolOp} {es : List Expr} {pos : Pos} {l : Loc → Mo Bool} (hl : jt prog w B b sg op es l) : lq prog w B b sg (.BoolOp op es pos) l:=by
 intro A Φ s G mm loc M v M' R hΦ S e Q E h
 exact wpAny_isTrue_BoolOp (hl A Φ s G mm loc M v M' R hΦ S e Q E h)
theorem gT {el : Expr} {l : Loc → Mo Bool} (hl : lq prog w B b sg el l) : jt prog w B b sg .And [el] l:=by
 intro A Φ s G mm loc M v M' R hΦ S e Q E h
 refine wpAny_allTrue_And_cons (hl A Φ s G mm loc M v M' R hΦ S e _ _ fun h' tk' G' S' X'=>?_)
 cases v
 ·exact h h' tk' G' S' X'
 ·exact wpAny_allTrue_And_nil (h h' tk' G' S' X')
theorem h8 {el : Expr} {es : List Expr} {l ls : Loc → Mo Bool} (hl : lq prog w B b sg el l) (hs : jt prog w B b sg .And es ls) : jt prog w B b sg .And (el :: es) (ki l ls):=by
 intro A Φ s G mm loc M v M' R hΦ S e Q E h
 obtain ⟨a,M1,e1,e⟩:=aL e
 refine wpAny_allTrue_And_cons (hl A Φ s G mm loc M a M1 R hΦ S e1 _ _ fun h' tk' G' S' X'=>?_)
 cases a
 ·cases e; exact h h' tk' G' S' X'
 ·exact hs A Φ { s with heap:=h',toks:=tk' } G' mm loc M1 v M' R hΦ S' e _ _ fun h2 tk2 G2 S2 X2=>h h2 tk2 G2 S2 (X'.trans X2)
theorem mJ {el : Expr} {l : Loc → Mo Bool} (hl : lq prog w B b sg el l) : jt prog w B b sg .Or [el] l:=by
 intro A Φ s G mm loc M v M' R hΦ S e Q E h
 refine wpAny_allTrue_Or_cons (hl A Φ s G mm loc M v M' R hΦ S e _ _ fun h' tk' G' S' X'=>?_)
 cases v
 ·exact wpAny_allTrue_Or_nil (h h' tk' G' S' X')
 ·exact h h' tk' G' S' X'
theorem p8 {el : Expr} {es : List Expr} {l ls : Loc → Mo Bool} (hl : lq prog w B b sg el l) (hs : jt prog w B b sg .Or es ls) : jt prog w B b sg .Or (el :: es) (tOr l ls):=by
 intro A Φ s G mm loc M v M' R hΦ S e Q E h
 obtain ⟨a,M1,e1,e⟩:=aL e
 refine wpAny_allTrue_Or_cons (hl A Φ s G mm loc M a M1 R hΦ S e1 _ _ fun h' tk' G' S' X'=>?_)
 cases a
 ·exact hs A Φ { s with heap:=h',toks:=tk' } G' mm loc M1 v M' R hΦ S' e _ _ fun h2 tk2 G2 S2 X2=>h h2 tk2 G2 S2 (X'.trans X2)
 ·cases e; exact h h' tk' G' S' X'
noncomputable def eIf (t : Loc → Mo Bool) (l r : Loc → Mo ae) : Loc → Mo ae:=fun loc=>bnd (t loc) fun c=>if c then l loc else r loc
theorem y3 {et el er : Expr} {pos : Pos} {t : Loc → Mo Bool} {l r : Loc → Mo ae} (ht : lq prog w B b sg et t) (hl : bT prog w B b sg el l) (hr : bT prog w B b sg er r) : bT prog w B b sg (.IfExp et el er pos) (eIf t l r):=by
 intro A Φ s G mm loc M v M' R hΦ S e Q E h
 obtain ⟨c,M1,e1,e⟩:=aL e
 refine wpAny_IfExp (ht A Φ s G mm loc M c M1 R hΦ S e1 _ _ fun h' tk' G' S' X'=>?_)
 cases c
 ·exact hr A Φ { s with heap:=h',toks:=tk' } G' mm loc M1 v M' R hΦ S' e _ _ fun h2 tk2 G2 x S2 X2 r2=>h h2 tk2 G2 x S2 (X'.trans X2) r2
 ·exact hl A Φ { s with heap:=h',toks:=tk' } G' mm loc M1 v M' R hΦ S' e _ _ fun h2 tk2 G2 x S2 X2 r2=>h h2 tk2 G2 x S2 (X'.trans X2) r2
end
end Mine
end
section
namespace Mine
section
variable {prog : Program} {w : World} {B : Heap} {b : Nat} {sg : Sg}
noncomputable def bD : Loc → Mo (Fl × Loc):=fun loc=>ret (.next,loc)
noncomputable def au (m ms : Loc → Mo (Fl × Loc)) : Loc → Mo (Fl × Loc):=fun loc=>bnd (m loc) fun r=>match r.1 with
 | .next=>ms r.2
 | f=>ret (f,r.2)
theorem bz : cy prog w B b sg [] bD:=by
 intro A Φ s G mm loc M r loc' M' R hΦ S e Q E h
 cases e
 exact wpAny_execs_nil (h s.heap s.toks G mm .next S (Ext.refl _ _) .next)
theorem ap {st : Stmt} {rest : List Stmt} {m ms : Loc → Mo (Fl × Loc)} (h1 : hA prog w B b sg st m) (h2 : cy prog w B b sg rest ms) : cy prog w B b sg (st :: rest) (au m ms):=by
 intro A Φ s G mm loc M r loc' M' R hΦ S e Q E h
 obtain ⟨⟨f,loc1⟩,M1,e1,e⟩:=aL e
 refine wpAny_execs_cons ?_
 refine h1 A Φ s G mm loc M f loc1 M1 R hΦ S e1 _ _ fun h' tk' G' mm' x S' X' r'=>?_
 cases r' with
 | next=>exact h2 A Φ { s with heap:=h',toks:=tk' } G' mm' loc1 M1 r loc' M' R hΦ S' e _ _ fun h2 tk2 G2 mm2 x2 S2 X2 r2=>h h2 tk2 G2 mm2 x2 S2 (X'.trans X2) r2
 | brk=>cases e; exact h h' tk' G' mm' _ S' X' .brk
 | ret q=>cases e; exact h h' tk' G' mm' _ S' X' (.ret q)
noncomputable def KD (m : Loc → Mo (Fl × Loc)) : Loc → Mo (Fl × Loc):=m
theorem aN {st : Stmt} {m : Loc → Mo (Fl × Loc)} (h1 : hA prog w B b sg st m) : cy prog w B b sg [st] m:=by
 intro A Φ s G mm loc M r loc' M' R hΦ S e Q E h
 refine wpAny_execs_cons ?_
 refine h1 A Φ s G mm loc M r loc' M' R hΦ S e _ _ fun h' tk' G' mm' x S' X' r'=>?_
 cases r' with
 | next=>exact wpAny_execs_nil (h h' tk' G' mm' _ S' X' .next)
 | brk=>exact h h' tk' G' mm' _ S' X' .brk
 | ret q=>exact h h' tk' G' mm' _ S' X' (.ret q)
theorem tm {Φ : Frm} (ok : Φ.Ok) : interactive Φ.env = false:=by
 unfold interactive
 have : Φ.env.scope.kind = .function:=ok.kind
 rw [this]; rfl
noncomputable def bx (l : Loc → Mo ae) : Loc → Mo (Fl × Loc):=fun loc=>bnd (l loc) fun _=>ret (.next,loc)
theorem bS {el : Expr} {pos : Pos} {l : Loc → Mo ae} (hl : bT prog w B b sg el l) (hs : ∀ env,swapsWith el none pos.line env = pure false:=by intro _; rfl) : hA prog w B b sg (.Expr el pos) (bx l):=by
 intro A Φ s G mm loc M r loc' M' R hΦ S e Q E h
 obtain ⟨a,M1,e1,e⟩:=aL e
 cases e
 refine wpAny_Expr_any ?_ (tm S.ok) (hs _)
 exact hl A Φ s G mm _ M a _ R hΦ.1 S e1 _ _ fun h' tk' G' x S' X' _=>h h' tk' G' mm _ S' X' .next
noncomputable def a7 (i : Nat) (l : Loc → Mo ae) : Loc → Mo (Fl × Loc):=fun loc=>bnd (l loc) fun a=>ret (.next,loc.set i (some a))
theorem iR {Φ : Frm} {A : Around} {s : Shared} {G : Gh} {mm : Str → Option Value} {loc : Loc} {M : List ah} {i : Nat} {x : Str} {v : Value} {a : ae} (hΦ : Φ.OfS sg) (hi : sg.names[i]? = some x) (S : St prog w B Φ s.heap G mm loc M) (r : bO s.heap G v a) {Q : Unit → Shared → Prop} {E : Value → Shared → Prop}
  (h : ∀ h' tk' mm',St prog w B Φ h' G mm' (loc.set i (some a)) M → Ext s.heap G h' G → Q () { s with heap:=h',toks:=tk' }) : wpAny (model prog w) A (storeName Φ.env x v) Q E s:=by
 have hi' : Φ.names[i]? = some x:=by rw [hΦ.1.2]; exact hi
 rcases S.ok.kinds x (List.mem_of_getElem? hi') with hk | ⟨hk,c,hc⟩
 ·refine wpAny_storeName_local hk S.ns (fun h' hn hs=>?_) ?_
  ·obtain ⟨S',X'⟩:=S.store hi' hk r hn hs
   exact h h' _ _ S' X'
  ·have : Φ.env.scope.kind = .function:=S.ok.kind
   rw [this]; rfl
 ·obtain ⟨v₀,hv₀⟩:=(S.cell x c hc).1
  refine wpAny_storeName_cell S.ok.kind hk hc hv₀ fun h' hv hs=>?_
  obtain ⟨S',X'⟩:=S.storeC hi' hk hc (hΦ.2 x c hc) r hv hs
  exact h h' s.toks _ S' X'
theorem aC {el : Expr} {i : Nat} {x : Str} {xp pos : Pos} {l : Loc → Mo ae} (hi : sg.names[i]? = some x) (hl : bT prog w B b sg el l) (hs : ∀ env,swapsWith el (some (.Name x xp)) pos.line env = pure false:=by intro _; rfl) : hA prog w B b sg (.Assign [.Name x xp] el pos) (a7 i l):=by
 intro A Φ s G mm loc M r loc' M' R hΦ S e Q E h
 obtain ⟨a,M1,e1,e⟩:=aL e
 cases e
 refine wpAny_Assign_Name ?_ (hs _)
 refine hl A Φ s G mm loc M a _ R hΦ.1 S e1 _ _ fun h' tk' G' v S' X' r'=>?_
 exact iR (s:={ s with heap:=h',toks:=tk' }) hΦ hi S' r' fun h2 tk2 mm2 S2 X2=>h h2 tk2 G' mm2 _ S2 (X'.trans X2) .next
noncomputable def zh (prog : Program) (w : World) (B : Heap) (b : Nat) (t : Value → Value → Sem Unit) (f : ae → ae → Mo Unit) : Prop:=
 ∀ (A : Around) (s : Shared) (G : Gh) (M : List ah) (x y : Value) (a c : ae) (M' : List ah),
  eZ A b → bJ prog w B s.heap G M → bO s.heap G x a → bO s.heap G y c → f a c M = some ((),M') →
  ∀ (Q : Unit → Shared → Prop) (E : Value → Shared → Prop),(∀ h' tk' G',bJ prog w B h' G' M' → Ext s.heap G h' G' → Q () { s with heap:=h',toks:=tk' }) → wpAny (model prog w) A (t x y) Q E s
noncomputable def xX (prog : Program) (w : World) (B : Heap) (b : Nat) (t : Value → Value → Value → Sem Unit) (f : ae → ae → ae → Mo Unit) : Prop:=
 ∀ (A : Around) (s : Shared) (G : Gh) (M : List ah) (x y z : Value) (a c d : ae) (M' : List ah),
  eZ A b → bJ prog w B s.heap G M → bO s.heap G x a → bO s.heap G y c → bO s.heap G z d → f a c d M = some ((),M') →
  ∀ (Q : Unit → Shared → Prop) (E : Value → Shared → Prop),(∀ h' tk' G',bJ prog w B h' G' M' → Ext s.heap G h' G' → Q () { s with heap:=h',toks:=tk' }) → wpAny (model prog w) A (t x y z) Q E s
noncomputable def bk (f : ae → ae → Mo Unit) (o l : Loc → Mo ae) : Loc → Mo (Fl × Loc):=fun loc=>bnd (l loc) fun v=>bnd (o loc) fun ov=>bnd (f ov v) fun _=>ret (.next,loc)
theorem aZ {eo el : Expr} {x : Str} {xp pos : Pos} {o l : Loc → Mo ae} {f : ae → ae → Mo Unit} (ho : bT prog w B b sg eo o) (hl : bT prog w B b sg el l) (hw : zh prog w B b (fun ov v=>setAttr ov x v) f) (hs : ∀ env,swapsWith el (some (.Attribute eo x xp)) pos.line env = pure false:=by intro _; rfl) : hA prog w B b sg (.Assign [.Attribute eo x xp] el pos) (bk f o l):=by
 intro A Φ s G mm loc M r loc' M' R hΦ S e Q E h
 obtain ⟨a,M1,e1,e⟩:=aL e
 obtain ⟨c,M2,e2,e⟩:=aL e
 obtain ⟨u,M3,e3,e⟩:=aL e
 cases e
 refine plainObj_wpAny_Assign_Attribute ?_ (hs _)
 refine hl A Φ s G mm _ M a M1 R hΦ.1 S e1 _ _ fun h1 tk1 G1 v S1 X1 r1=>?_
 refine ho A Φ { s with heap:=h1,toks:=tk1 } G1 mm _ M1 c M2 R hΦ.1 S1 e2 _ _ fun h2 tk2 G2 ov S2 X2 r2=>?_
 refine hw A { s with heap:=h2,toks:=tk2 } _ M2 ov v c a _ R S2.lower (S2.lower_val r2) (S2.lower_val (r1.mono X2.solid)) e3 _ _ fun h3 tk3 G3 C3 X3=>?_
 exact h h3 tk3 _ mm _ (S2.back X3 C3) (X1.trans (X2.trans (S2.back_ext X3))) .next
noncomputable def gC (f : ae → ae → ae → Mo Unit) (o k l : Loc → Mo ae) : Loc → Mo (Fl × Loc):=fun loc=>bnd (l loc) fun v=>bnd (o loc) fun ov=>bnd (k loc) fun kv=>bnd (f ov kv v) fun _=>ret (.next,loc)
theorem lw {eo ek el : Expr} {xp pos : Pos} {o k l : Loc → Mo ae} {f : ae → ae → ae → Mo Unit} (ho : bT prog w B b sg eo o) (hk : bT prog w B b sg ek k) (hl : bT prog w B b sg el l) (hw : xX prog w B b setItem f) (hs : ∀ env,swapsWith el (some (.Subscript eo ek xp)) pos.line env = pure false:=by intro _; rfl) : hA prog w B b sg (.Assign [.Subscript eo ek xp] el pos) (gC f o k l):=by
 intro A Φ s G mm loc M r loc' M' R hΦ S e Q E h
 obtain ⟨a,M1,e1,e⟩:=aL e
 obtain ⟨c,M2,e2,e⟩:=aL e
 obtain ⟨d,M3,e3,e⟩:=aL e
 obtain ⟨u,M4,e4,e⟩:=aL e
 cases e
 refine wpAny_Assign_Subscript ?_ (hs _)
 refine hl A Φ s G mm _ M a M1 R hΦ.1 S e1 _ _ fun h1 tk1 G1 v S1 X1 r1=>?_
 refine ho A Φ { s with heap:=h1,toks:=tk1 } G1 mm _ M1 c M2 R hΦ.1 S1 e2 _ _ fun h2 tk2 G2 ov S2 X2 r2=>?_
 refine hk A Φ { s with heap:=h2,toks:=tk2 } G2 mm _ M2 d M3 R hΦ.1 S2 e3 _ _ fun h3 tk3 G3 kv S3 X3 r3=>?_
 refine hw A { s with heap:=h3,toks:=tk3 } _ M3 ov kv v c d a _ R S3.lower (S3.lower_val (r2.mono X3.solid)) (S3.lower_val r3) (S3.lower_val (r1.mono (X2.trans X3).solid)) e4 _ _ fun h4 tk4 G4 C4 X4=>?_
 exact h h4 tk4 _ mm _ (S3.back X4 C4) (X1.trans (X2.trans (X3.trans (S3.back_ext X4)))) .next
noncomputable def eQ (g : ae → ae → Mo ae) (p : ae → ae → Mo ae) (f : ae → ae → ae → Mo Unit) (o k l : Loc → Mo ae) : Loc → Mo (Fl × Loc):=fun loc=>
 bnd (o loc) fun ov=>bnd (k loc) fun kv=>bnd (g ov kv) fun old=>bnd (l loc) fun v=>bnd (p old v) fun new=>bnd (f ov kv new) fun _=>ret (.next,loc)
theorem pg {eo ek el : Expr} {op : Operator} {xp pos : Pos} {o k l : Loc → Mo ae} {g p : ae → ae → Mo ae} {f : ae → ae → ae → Mo Unit} (ho : bT prog w B b sg eo o) (hk : bT prog w B b sg ek k) (hg : cG prog w B b getItem g) (hl : bT prog w B b sg el l) (hp : cG prog w B b (inplaceOp op) p) (hw : xX prog w B b setItem f)
  (hi : ∀ ov iv new,augStore ek ov iv new = (do holding [new,ov,iv] (setItem ov iv new); release [new,ov,iv] []; pure .next):=by intros; rfl) : hA prog w B b sg (.AugAssign (.Subscript eo ek xp) op el pos) (eQ g p f o k l):=by
 intro A Φ s G mm loc M r loc' M' R hΦ S e Q E h
 obtain ⟨c,M1,e1,e⟩:=aL e
 obtain ⟨d,M2,e2,e⟩:=aL e
 obtain ⟨old,M3,e3,e⟩:=aL e
 obtain ⟨v,M4,e4,e⟩:=aL e
 obtain ⟨new,M5,e5,e⟩:=aL e
 obtain ⟨u,M6,e6,e⟩:=aL e
 cases e
 refine wpAny_AugAssign_SubscriptAny ?_ hi
 refine ho A Φ s G mm _ M c M1 R hΦ.1 S e1 _ _ fun h1 tk1 G1 ov S1 X1 r1=>?_
 refine hk A Φ { s with heap:=h1,toks:=tk1 } G1 mm _ M1 d M2 R hΦ.1 S1 e2 _ _ fun h2 tk2 G2 kv S2 X2 r2=>?_
 refine gK.lift (s:={ s with heap:=h2,toks:=tk2 }) S2 (hg A _ _ M2 ov kv c d old M3 R S2.lower (S2.lower_val (r1.mono X2.solid)) (S2.lower_val r2) e3) _ _ fun h3 tk3 G3 ol S3 X3 r3=>?_
 refine hl A Φ { s with heap:=h3,toks:=tk3 } G3 mm _ M3 v M4 R hΦ.1 S3 e4 _ _ fun h4 tk4 G4 y S4 X4 r4=>?_
 refine gK.lift (s:={ s with heap:=h4,toks:=tk4 }) S4 (hp A _ _ M4 ol y old v new M5 R S4.lower (S4.lower_val (r3.mono X4.solid)) (S4.lower_val r4) e5) _ _ fun h5 tk5 G5 z S5 X5 r5=>?_
 have X35:=X3.trans (X4.trans X5)
 refine hw A { s with heap:=h5,toks:=tk5 } _ M5 ov kv z c d new _ R S5.lower (S5.lower_val (r1.mono (X2.trans X35).solid)) (S5.lower_val (r2.mono X35.solid)) (S5.lower_val r5) e6 _ _ fun h6 tk6 G6 C6 X6=>?_
 exact h h6 tk6 _ mm _ (S5.back X6 C6) (X1.trans (X2.trans (X35.trans (S5.back_ext X6)))) .next
noncomputable def sS (g : ae → Mo ae) (p : ae → ae → Mo ae) (f : ae → ae → Mo Unit) (o l : Loc → Mo ae) : Loc → Mo (Fl × Loc):=fun loc=>
 bnd (o loc) fun ov=>bnd (g ov) fun old=>bnd (l loc) fun v=>bnd (p old v) fun new=>bnd (f ov new) fun _=>ret (.next,loc)
theorem wU {eo el : Expr} {x : Str} {op : Operator} {xp pos : Pos} {o l : Loc → Mo ae} {g : ae → Mo ae} {p : ae → ae → Mo ae} {f : ae → ae → Mo Unit} (ho : bT prog w B b sg eo o) (hg : pE prog w B b (fun v=>getAttr v x true) g) (hl : bT prog w B b sg el l) (hp : cG prog w B b (inplaceOp op) p) (hw : zh prog w B b (fun ov v=>setAttr ov x v) f) : hA prog w B b sg (.AugAssign (.Attribute eo x xp) op el pos) (sS g p f o l):=by
 intro A Φ s G mm loc M r loc' M' R hΦ S e Q E h
 obtain ⟨c,M1,e1,e⟩:=aL e
 obtain ⟨old,M3,e3,e⟩:=aL e
 obtain ⟨v,M4,e4,e⟩:=aL e
 obtain ⟨new,M5,e5,e⟩:=aL e
 obtain ⟨u,M6,e6,e⟩:=aL e
 cases e
 refine wpAny_AugAssign_AttributeAny ?_
 refine ho A Φ s G mm _ M c M1 R hΦ.1 S e1 _ _ fun h1 tk1 G1 ov S1 X1 r1=>?_
 refine gK.lift (s:={ s with heap:=h1,toks:=tk1 }) S1 (hg A _ _ M1 ov c old M3 R S1.lower (S1.lower_val r1) e3) _ _ fun h3 tk3 G3 ol S3 X3 r3=>?_
 refine hl A Φ { s with heap:=h3,toks:=tk3 } G3 mm _ M3 v M4 R hΦ.1 S3 e4 _ _ fun h4 tk4 G4 y S4 X4 r4=>?_
 refine gK.lift (s:={ s with heap:=h4,toks:=tk4 }) S4 (hp A _ _ M4 ol y old v new M5 R S4.lower (S4.lower_val (r3.mono X4.solid)) (S4.lower_val r4) e5) _ _ fun h5 tk5 G5 z S5 X5 r5=>?_
 have X35:=X3.trans (X4.trans X5)
 refine hw A { s with heap:=h5,toks:=tk5 } _ M5 ov z c new _ R S5.lower (S5.lower_val (r1.mono X35.solid)) (S5.lower_val r5) e6 _ _ fun h6 tk6 G6 C6 X6=>?_
 exact h h6 tk6 _ mm _ (S5.back X6 C6) (X1.trans (X35.trans (S5.back_ext X6))) .next
noncomputable def sIf (t : Loc → Mo Bool) (m n : Loc → Mo (Fl × Loc)) : Loc → Mo (Fl × Loc):=fun loc=>bnd (t loc) fun c=>if c then m loc else n loc
theorem ce {et : Expr} {body orelse : List Stmt} {pos : Pos} {t : Loc → Mo Bool} {m n : Loc → Mo (Fl × Loc)} (ht : lq prog w B b sg et t) (h1 : cy prog w B b sg body m) (h2 : cy prog w B b sg orelse n) : hA prog w B b sg (.If et body orelse pos) (sIf t m n):=by
 intro A Φ s G mm loc M r loc' M' R hΦ S e Q E h
 obtain ⟨c,M1,e1,e⟩:=aL e
 refine wpAny_If (ht A Φ s G mm loc M c M1 R hΦ.1 S e1 _ _ fun h' tk' G' S' X'=>?_)
 cases c
 ·exact h2 A Φ { s with heap:=h',toks:=tk' } G' mm loc M1 r loc' M' R hΦ S' e _ _ fun h2 tk2 G2 mm2 x S2 X2 r2=>h h2 tk2 G2 mm2 x S2 (X'.trans X2) r2
 ·exact h1 A Φ { s with heap:=h',toks:=tk' } G' mm loc M1 r loc' M' R hΦ S' e _ _ fun h2 tk2 G2 mm2 x S2 X2 r2=>h h2 tk2 G2 mm2 x S2 (X'.trans X2) r2
noncomputable def bL (l : Loc → Mo ae) : Loc → Mo (Fl × Loc):=fun loc=>bnd (l loc) fun a=>ret (.ret a,loc)
theorem bl {el : Expr} {pos : Pos} {l : Loc → Mo ae} (hl : bT prog w B b sg el l) : hA prog w B b sg (.Return (some el) pos) (bL l):=by
 intro A Φ s G mm loc M r loc' M' R hΦ S e Q E h
 obtain ⟨a,M1,e1,e⟩:=aL e
 cases e
 exact wpAny_Return_some (hl A Φ s G mm _ M a _ R hΦ.1 S e1 _ _ fun h' tk' G' x S' X' r'=>h h' tk' G' mm _ S' X' (.ret r'))
noncomputable def v5 : Loc → Mo (Fl × Loc):=fun loc=>ret (.ret .none,loc)
theorem Cs {pos : Pos} : hA prog w B b sg (.Return none pos) v5:=by
 intro A Φ s G mm loc M r loc' M' R hΦ S e Q E h
 cases e
 exact wpAny_Return_none (h s.heap s.toks G mm _ S (Ext.refl _ _) (.ret .none))
noncomputable def yr : Loc → Mo (Fl × Loc):=fun loc=>ret (.brk,loc)
theorem Fu {pos : Pos} : hA prog w B b sg (.Break pos) yr:=by
 intro A Φ s G mm loc M r loc' M' R hΦ S e Q E h
 cases e
 exact wpAny_Break (h s.heap s.toks G mm _ S (Ext.refl _ _) .brk)
noncomputable def dy (t : Loc → Mo Bool) (m : Loc → Mo (Fl × Loc)) : Nat → Loc → Mo (Fl × Loc)
 | 0,_=>dK
 | n + 1,loc=>bnd (t loc) fun c=>if c then bnd (m loc) fun r=>(match r.1 with
   | .next=>dy t m n r.2
   | .brk=>ret (.next,r.2)
   | .ret v=>ret (.ret v,r.2)) else ret (.next,loc)
inductive WhI (prog : Program) (w : World) (B : Heap) (Φ : Frm) (s : Shared) (G : Gh) (t : Loc → Mo Bool) (m : Loc → Mo (Fl × Loc)) (o : (Fl × Loc) × List ah) (n : Nat) (s' : Shared) : Prop
 | mk (h' : Heap) (tk' : Nat) (G' : Gh) (mm' : Str → Option Value) (loc1 : Loc) (M1 : List ah) (es : s' = { s with heap:=h',toks:=tk' }) (S : St prog w B Φ h' G' mm' loc1 M1) (X : Ext s.heap G h' G') (e : dy t m n loc1 M1 = some o)
theorem jc (fuel : Nat) {et : Expr} {body : List Stmt} {pos : Pos} {t : Loc → Mo Bool} {m : Loc → Mo (Fl × Loc)} (ht : lq prog w B b sg et t) (h1 : cy prog w B b sg body m) : hA prog w B b sg (.While et body [] pos) (dy t m fuel):=by
 intro A Φ s G mm loc M r loc' M' R hΦ S e Q E h
 refine wpAny_While (codeAny_whileLoop (WhI prog w B Φ s G t m ((r,loc'),M')) (fun n s' hI=>?_) fuel ⟨s.heap,s.toks,G,mm,loc,M,rfl,S,Ext.refl _ _,e⟩)
 clear e
 obtain ⟨h',tk',G',mm',loc1,M1,rfl,S1,X1,e⟩:=hI
 cases n with
 | zero=>cases e
 | succ n=>
  obtain ⟨c,M2,e1,e⟩:=aL e
  refine ht A Φ _ G' mm' loc1 M1 c M2 R hΦ.1 S1 e1 _ _ fun h2 tk2 G2 S2 X2=>?_
  cases c with
  | false=>
   cases e
   exact wpAny_execs_nil (h h2 tk2 G2 mm' _ S2 (X1.trans X2) .next)
  | true=>
   obtain ⟨⟨f,loc3⟩,M3,e3,e⟩:=aL (show bnd (m loc1) _ M2 = _ from e)
   refine h1 A Φ { s with heap:=h2,toks:=tk2 } G2 mm' loc1 M2 f loc3 M3 R hΦ S2 e3 _ _ fun h3 tk3 G3 mm3 x S3 X3 r3=>?_
   have X:=X1.trans (X2.trans X3)
   cases r3 with
   | next=>exact ⟨n,Nat.lt_succ_self n,h3,tk3,G3,mm3,loc3,M3,rfl,S3,X,e⟩
   | brk=>cases e; exact h h3 tk3 G3 mm3 _ S3 X .next
   | ret q=>cases e; exact h h3 tk3 G3 mm3 _ S3 X (.ret q)
structure k9 (prog : Program) (w : World) (it : Addr) (P : Heap → Gh → List ae → Prop) : Prop where
 keep : ∀ h G h' G' as,G.tag it = .below → P h G as → Ext h G h' G' → P h' G' as
 live : ∀ h G as,P h G as → ∃ o,h.get? it = some o
 nocell : ∀ h G as,P h G as → ∀ v,¬ h.IsCell it v
 keepBut : ∀ h h' G q as,(G.tag q).solid = false → q ≠ it → P h G as → Heap.SameBut q h h' → P h' G as
 next : ∀ (A : Around) (s : Shared) (G : Gh) (a : ae) (as : List ae),G.tag it = .below → P s.heap G (a :: as) → ∀ (Q : Option Value → Shared → Prop) (E : Value → Shared → Prop),
  (∀ h' tk' x,Heap.SameBut it s.heap h' → P h' G as → bO h' G x a → Q (some x) { s with heap:=h',toks:=tk' }) → wpAny (model prog w) A (pyNext (.ref it)) Q E s
 done : ∀ (A : Around) (s : Shared) (G : Gh),A.handled = none → P s.heap G [] → ∀ (Q : Option Value → Shared → Prop) (E : Value → Shared → Prop),
  (∀ h',Heap.ExtBut it s.heap h' → Q none { s with heap:=h' }) → wpAny (model prog w) A (pyNext (.ref it)) Q E s
theorem St.notPlace {Φ : Frm} {h : Heap} {G : Gh} {mm : Str → Option Value} {loc : Loc} {M : List ah} {it : Addr} (S : St prog w B Φ h G mm loc M) (ti : G.tag it = .below) (nc : ∀ v,¬ h.IsCell it v) {a : Addr} (p : Φ.Place a) : a ≠ it:=by
 intro e
 subst e
 rcases p with p | ⟨x,p⟩
 ·rw [(S.own a p).1] at ti; cases ti
 ·obtain ⟨v,q⟩:=(S.cell x a p).1; exact nc v q
theorem St.iter_step {Φ : Frm} {h h' : Heap} {G : Gh} {mm : Str → Option Value} {loc : Loc} {M : List ah} {it : Addr} (S : St prog w B Φ h G mm loc M) (ti : G.tag it = .below) (nc : ∀ v,¬ h.IsCell it v) (hs : Heap.SameBut it h h') (hl : ∃ o,h'.get? it = some o) : St prog w B Φ h' G mm loc M:=by
 have ne : ∀ a,G.tag a ≠ .below → a ≠ it:=fun a k e=>k (e ▸ ti)
 have sol : eN h G h' G:=⟨fun _ k=>k,fun a o k e=>(hs.2 a (ne a (by intro t; rw [t] at k; cases k))).trans e,List.prefix_refl _⟩
 refine S.move ⟨fun b o e=>?_,fun b=>?_,S.core.len,fun i o e=>?_,by rw [hs.1]; exact S.core.size⟩ sol fun a p=>⟨rfl,fun o e=>(hs.2 a (S.notPlace ti nc p)).trans e⟩
 ·obtain ⟨t,e'⟩:=S.core.base b o e
  exact ⟨t,(hs.2 b (ne b (by rw [t]; exact fun x=>nomatch x))).trans e'⟩
 ·by_cases e : b = it
  ·subst e; exact .inr hl
  ·exact (S.core.live b).imp id fun ⟨o,e'⟩=>⟨o,(hs.2 b e).trans e'⟩
 ·exact (S.core.muts i o e).mono prog w sol fun a t=>⟨t,fun o e=>(hs.2 a (ne a (by rw [t]; exact fun x=>nomatch x))).trans e⟩
theorem St.iter_end {Φ : Frm} {h h' : Heap} {G : Gh} {mm : Str → Option Value} {loc : Loc} {M : List ah} {it : Addr} (S : St prog w B Φ h G mm loc M) (ti : G.tag it = .below) (nc : ∀ v,¬ h.IsCell it v) (hs : Heap.ExtBut it h h') : St prog w B Φ h' (G.put it .free) mm loc M:=by
 have ne : ∀ a,G.tag a ≠ .below → a ≠ it:=fun a k e=>k (e ▸ ti)
 have sol : eN h G h' (G.put it .free):=⟨fun a k=>by rw [G.put_ne _ (ne a (by intro t; rw [t] at k; cases k))]; exact k,fun a o k e=>hs a o (ne a (by intro t; rw [t] at k; cases k)) e,List.prefix_refl _⟩
 refine S.move ⟨fun b o e=>?_,fun b=>?_,S.core.len,fun i o e=>?_,?_⟩ sol fun a p=>⟨G.put_ne _ (S.notPlace ti nc p),fun o e=>hs a o (S.notPlace ti nc p) e⟩
 ·obtain ⟨t,e'⟩:=S.core.base b o e
  have n:=ne b (by rw [t]; exact fun x=>nomatch x)
  exact ⟨by rw [G.put_ne _ n]; exact t,hs b o n e'⟩
 ·by_cases e : b = it
  ·subst e; left; exact G.put_same _ _
  ·rw [G.put_ne _ e]
   exact (S.core.live b).imp id fun ⟨o,e'⟩=>⟨o,hs b o e e'⟩
 ·refine (S.core.muts i o e).mono prog w sol fun a t=>?_
  have n:=ne a (by rw [t]; exact fun x=>nomatch x)
  exact ⟨by rw [G.put_ne _ n]; exact t,fun o e=>hs a o n e⟩
 ·obtain ⟨o,e⟩:=(S.own _ S.ok.Lown).2
  exact Nat.le_trans S.above (Nat.le_of_lt (Heap.lt_size (hs _ _ (S.notPlace ti nc (.inl S.ok.Lown)) e)))
theorem Ext.past {h h1 h' : Heap} {G0 G : Gh} {it : Addr} (x : Ext h G0 h1 G) (t0 : (G0.tag it).kept = false) (hs : Heap.ExtBut it h1 h') : Ext h G0 h' G:=
 ⟨x.tag,fun a o k e=>hs a o (fun q=>by subst q; rw [t0] at k; cases k) (x.obj a o k e),x.ρ⟩
theorem Ext.past_free {h h1 : Heap} {G0 G : Gh} {it : Addr} {t : Tag} (x : Ext h G0 h1 G) (t0 : (G0.tag it).kept = false) : Ext h G0 h1 (G.put it t):=
 ⟨fun a k=>by rw [G.put_ne _ (fun q=>by subst q; rw [t0] at k; cases k)]; exact x.tag a k,x.obj,x.ρ⟩
noncomputable def dU (i : Nat) (m : Loc → Mo (Fl × Loc)) : List ae → Loc → Mo (Fl × Loc)
 | [],loc=>ret (.next,loc)
 | a :: as,loc=>bnd (m (loc.set i (some a))) fun r=>match r.1 with
   | .next=>dU i m as r.2
   | .brk=>ret (.next,r.2)
   | .ret v=>ret (.ret v,r.2)
inductive IP (prog : Program) (w : World) (B : Heap) (Φ : Frm) (it : Addr) (P : Heap → Gh → List ae → Prop) (s : Shared) (s₀ : Heap) (G₀ : Gh) (i : Nat) (m : Loc → Mo (Fl × Loc)) (o : (Fl × Loc) × List ah) (n : Nat) (s' : Shared) : Prop
 | mk (h' : Heap) (tk' : Nat) (G' : Gh) (mm' : Str → Option Value) (loc1 : Loc) (M1 : List ah) (as1 : List ae) (es : s' = { s with heap:=h',toks:=tk' }) (en : n = as1.length) (S : St prog w B Φ h' G' mm' loc1 M1) (ti : G'.tag it = .below) (X : Ext s₀ G₀ h' G') (p : P h' G' as1) (e : dU i m as1 loc1 M1 = some o)
theorem nY {it : Addr} {P : Heap → Gh → List ae → Prop} (hP : k9 prog w it P) {i : Nat} {x : Str} {xp : Pos} {body : List Stmt} {m : Loc → Mo (Fl × Loc)} (hi : sg.names[i]? = some x) (hb : cy prog w B b sg body m)
  {A : Around} {Φ : Frm} {s₀ : Heap} {s : Shared} {G₀ G : Gh} {mm : Str → Option Value} {loc loc' : Loc} {M M' : List ah} {as : List ae} {r : Fl} (R : eZ A b) (hΦ : Φ.OfS sg) (S : St prog w B Φ s.heap G mm loc M)
  (ti : G.tag it = .below) (t0 : (G₀.tag it).kept = false) (X0 : Ext s₀ G₀ s.heap G) (p : P s.heap G as) (e : dU i m as loc M = some ((r,loc'),M')) {Rs : Result → Shared → Prop}
  (h : ∀ h' tk' G' mm' fl,St prog w B Φ h' G' mm' loc' M' → Ext s₀ G₀ h' G' → yG h' G' fl r → Rs (.ok fl) { s with heap:=h',toks:=tk' }) :
  codeAny (model prog w) A (.forLoop (.Name x xp) (.ref it) body [] Φ.env) Rs s:=by
 refine codeAny_forLoop (IP prog w B Φ it P s s₀ G₀ i m ((r,loc'),M')) (fun n s' hI=>?_) as.length ⟨s.heap,s.toks,G,mm,loc,M,as,rfl,rfl,S,ti,X0,p,e⟩
 clear S ti X0 p e
 obtain ⟨h',tk',G',mm',loc1,M1,as1,rfl,rfl,S1,ti1,X1,p1,e⟩:=hI
 cases as1 with
 | nil=>
  cases e
  refine hP.done A _ G' R.hd p1 _ _ fun h2 hs=>?_
  exact wpAny_execs_nil (h h2 tk' _ mm' _ (S1.iter_end ti1 (hP.nocell _ _ _ p1) hs) ((X1.past t0 hs).past_free t0) .next)
 | cons a as1=>
  obtain ⟨⟨f,loc3⟩,M3,e3,e⟩:=aL e
  refine hP.next A _ G' a as1 ti1 p1 _ _ fun h2 tk2 v hs p2 r2=>?_
  have S2:=S1.iter_step ti1 (hP.nocell _ _ _ p1) hs (hP.live _ _ _ p2)
  have X2:=X1.past t0 hs.extBut
  refine wpAny_assign_Name (iR (s:={ s with heap:=h2,toks:=tk2 }) hΦ hi S2 r2 fun h3 tk3 mm3 S3 X3=>?_)
  refine hb A Φ { s with heap:=h3,toks:=tk3 } G' mm3 _ M1 f loc3 M3 R hΦ S3 e3 _ _ fun h4 tk4 G4 mm4 fl S4 X4 r4=>?_
  have X:=X2.trans (X3.trans X4)
  cases r4 with
  | next=>exact ⟨as1.length,Nat.lt_succ_self _,h4,tk4,G4,mm4,loc3,M3,as1,rfl,rfl,S4,(X3.trans X4).tag it (by rw [ti1]; rfl) ▸ ti1,X,hP.keep _ _ _ _ _ ti1 p2 (X3.trans X4),e⟩
  | brk=>cases e; exact h h4 tk4 G4 mm4 _ S4 X .next
  | ret q=>cases e; exact h h4 tk4 G4 mm4 _ S4 X (.ret q)
end
end Mine
end
section
namespace Mine
section
variable {prog : Program} {w : World} {B : Heap} {b : Nat} {sg : Sg}
theorem St.push {Φ : Frm} {h : Heap} {G : Gh} {mm : Str → Option Value} {loc : Loc} {M : List ah} (S : St prog w B Φ h G mm loc M) (o : Obj) (t : Tag) (hf : o.isFreed = false:=by rfl) : St prog w B Φ (h.push o) (G.put h.objs.size t) mm loc M:=
 S.grow (S.core.push o t hf) (S.core.grow_push o t hf)
noncomputable def kM (a b c : Int) : List ae:=(List.range (Builtin.Range.rangeSize a b c).toNat).map fun (k : Nat)=>ae.int (a + k * c)
inductive E1 (it : Addr) (h : Heap) (G : Gh) (as : List ae) : Prop
 | mk (l : Addr) (items : List Value) (i : Nat) (k : (G.tag l).solid = true) (p1 : h.IsListIter it l i) (p2 : h.IsList l (List.toArray items)) (p3 : bf h G (items.drop i) as)
theorem fj {h h' : Heap} {a : Addr} {items : Array Value} (x : h.IsList a items) (e : ∀ o,h.get? a = some o → h'.get? a = some o) : h'.IsList a items:=let ⟨o,ho,r⟩:=x; ⟨o,e o ho,r⟩
theorem iG {h h' : Heap} {a l : Addr} {i : Nat} (x : h.IsListIter a l i) (e : ∀ o,h.get? a = some o → h'.get? a = some o) : h'.IsListIter a l i:=let ⟨o,ho,r⟩:=x; ⟨o,e o ho,r⟩
theorem ww {α : Type} {items : List α} {i : Nat} {v : α} {vs : List α} (e : items.drop i = v :: vs) : items[i]? = some v ∧ items.drop (i + 1) = vs:=by
 refine ⟨?_,?_⟩
 ·have:=congrArg (·[0]?) e
  simpa using this
 ·rw [← List.drop_drop,e]; rfl
theorem yh {G : Gh} {it l : Addr} (ti : G.tag it = .below) (hl : (G.tag l).solid = true) : l ≠ it:=fun e=>by rw [e,ti] at hl; cases hl
theorem ip {G : Gh} {it : Addr} {h h' : Heap} (ti : G.tag it = .below) (hs : Heap.SameBut it h h') : eN h G h' G:=
 ⟨fun _ k=>k,fun _ o k e=>(hs.2 _ (yh ti k)).trans e,List.prefix_refl _⟩
theorem oW {G : Gh} {q : Addr} {h h' : Heap} (hq : (G.tag q).solid = false) (hs : Heap.SameBut q h h') : eN h G h' G:=
 ⟨fun _ k=>k,fun a o k e=>(hs.2 a (fun z=>by rw [z,hq] at k; cases k)).trans e,List.prefix_refl _⟩
theorem lK (it : Addr) : k9 prog w it (E1 it) where
 keep h G h' G' as ti:=by
  rintro ⟨l,items,i,k,p1,p2,p3⟩ X
  exact ⟨l,items,i,X.solid.tag l k,iG p1 fun o e=>X.obj it o (by rw [ti]; rfl) e,fj p2 fun o e=>X.solid.obj l o k e,p3.mono X.solid⟩
 live h G as:=by
  rintro ⟨l,items,i,k,⟨o,ho,_⟩,p2,p3⟩
  exact ⟨o,ho⟩
 keepBut h h' G q as hq hn:=by
  rintro ⟨l,items,i,k,p1,p2,p3⟩ hs
  have sol:=oW hq hs
  exact ⟨l,items,i,k,iG p1 fun o e=>(hs.2 it (Ne.symm hn)).trans e,fj p2 fun o e=>sol.obj l o k e,p3.mono sol⟩
 nocell h G as:=by
  rintro ⟨l,items,i,k,⟨o,ho,_,hd⟩,p2,p3⟩ v ⟨o',ho',hd'⟩
  rw [ho] at ho'; cases ho'; rw [hd] at hd'; cases hd'
 next A s G a as ti:=by
  rintro ⟨l,items,i,k,p1,p2,p3⟩ Q E hq
  generalize hd : items.drop i = ds at p3
  cases p3 with
  | cons r rs=>
   obtain ⟨e1,e2⟩:=ww hd
   refine wpAny_pyNext_list_item p1 p2 (by simpa using e1) fun h' hi hs=>?_
   have sol:=ip ti hs
   exact hq h' s.toks _ hs ⟨l,items,i + 1,k,hi,fj p2 fun o e=>sol.obj l o k e,by rw [e2]; exact rs.mono sol⟩ (r.mono sol)
 done A s G hh:=by
  rintro ⟨l,items,i,k,p1,p2,p3⟩ Q E hq
  generalize hd : items.drop i = ds at p3
  cases p3 with
  | nil=>
   refine wpAny_pyNext_list_end hh p1 p2 ?_ hq
   simp only [List.getElem?_toArray]
   rw [List.getElem?_eq_none_iff]
   exact List.drop_eq_nil_iff.mp hd
inductive DK (it : Addr) (h : Heap) (G : Gh) (as : List ae) : Prop
 | mk (x st : Int) (n : Nat) (p : IsRangeIter h it x (Int.ofNat n) st) (e : as = (List.range n).map fun (k : Nat)=>ae.int (x + k * st))
theorem j7 (it : Addr) : k9 prog w it (DK it) where
 keep h G h' G' as ti:=by
  rintro ⟨x,st,n,p,e⟩ X
  exact ⟨x,st,n,X.obj it _ (by rw [ti]; rfl) p,e⟩
 live h G as:=by
  rintro ⟨x,st,n,p,e⟩
  exact ⟨_,p⟩
 keepBut h h' G q as hq hn:=by
  rintro ⟨x,st,n,p,e⟩ hs
  exact ⟨x,st,n,(hs.2 it (Ne.symm hn)).trans p,e⟩
 nocell h G as:=by
  rintro ⟨x,st,n,p,e⟩ v ⟨o',ho',hd'⟩
  have p' : h.get? it = some _:=p
  rw [p'] at ho'; cases ho'; cases hd'
 next A s G a as ti:=by
  rintro ⟨x,st,n,p,e⟩ Q E hq
  cases n with
  | zero=>cases e
  | succ n=>
   rw [List.range_succ_eq_map,List.map_cons,List.map_map] at e
   injection e with e1 e2
   subst e1 e2
   refine wpAny_pyNext_range_item p (by show (0 : Int) < ((n + 1 : Nat) : Int); exact HT) fun h' hi hs=>?_
   refine hq h' _ _ hs ⟨x + st,st,n,?_,?_⟩ (by
    have : x + ((0 : Nat) : Int) * st = x:=by simp
    rw [this]; exact .int ..)
   ·have : (Int.ofNat (n + 1)) - 1 = Int.ofNat n:=by show ((n + 1 : Nat) : Int) - 1 = (n : Int); exact FM
    rw [this] at hi; exact hi
   ·refine List.map_congr_left fun k _=>?_
    show ae.int (x + ((k + 1 : Nat) : Int) * st) = ae.int (x + st + k * st)
    congr 1
    rw [Int.natCast_add,Int.add_mul]; simp; exact Hq
 done A s G hh:=by
  rintro ⟨x,st,n,p,e⟩ Q E hq
  cases n with
  | zero=>exact wpAny_pyNext_range_end hh p (Int.le_refl _) hq
  | succ n=>rw [List.range_succ_eq_map] at e; cases e
inductive J9 (it : Addr) (h : Heap) (G : Gh) (as : List ae) : Prop
 | mk (l : Addr) (items : List Value) (i : Nat) (k : (G.tag l).solid = true) (hi : i ≤ items.length) (p1 : h.IsRevIter it l (Int.ofNat i - 1)) (p2 : h.IsList l (List.toArray items)) (p3 : bf h G (items.take i).reverse as)
theorem ut (it : Addr) : k9 prog w it (J9 it) where
 keep h G h' G' as ti:=by
  rintro ⟨l,items,i,k,hi,p1,p2,p3⟩ X
  exact ⟨l,items,i,X.solid.tag l k,hi,p1.at fun o e=>X.obj it o (by rw [ti]; rfl) e,fj p2 fun o e=>X.solid.obj l o k e,p3.mono X.solid⟩
 live h G as:=by
  rintro ⟨l,items,i,k,hi,⟨o,ho,_⟩,p2,p3⟩
  exact ⟨o,ho⟩
 keepBut h h' G q as hq hn:=by
  rintro ⟨l,items,i,k,hi,p1,p2,p3⟩ hs
  have sol:=oW hq hs
  exact ⟨l,items,i,k,hi,p1.at fun o e=>(hs.2 it (Ne.symm hn)).trans e,fj p2 fun o e=>sol.obj l o k e,p3.mono sol⟩
 nocell h G as:=by
  rintro ⟨l,items,i,k,hi,⟨o,ho,_,hd⟩,p2,p3⟩ v ⟨o',ho',hd'⟩
  rw [ho] at ho'; cases ho'; rw [hd] at hd'; cases hd'
 next A s G a as ti:=by
  rintro ⟨l,items,i,k,hi,p1,p2,p3⟩ Q E hq
  cases i with
  | zero=>cases p3
  | succ i=>
   have hlt : i < items.length:=hi
   have e0 : items.take (i + 1) = items.take i ++ [items[i]]:=by rw [List.take_succ_eq_append_getElem hlt]
   rw [e0,List.reverse_append] at p3
   cases p3 with
   | cons r rs=>
    have ei : (Int.ofNat (i + 1) - 1) = (i : Int):=by show ((i + 1 : Nat) : Int) - 1 = _; exact FM
    rw [ei] at p1
    refine wpAny_pyNext_rev_item p1 p2 (x:=items[i]) (by simp [hlt]) fun h' hi' hs=>?_
    have sol:=ip ti hs
    exact hq h' s.toks _ hs ⟨l,items,i,k,Nat.le_of_lt hlt,hi',fj p2 fun o e=>sol.obj l o k e,rs.mono sol⟩ (r.mono sol)
 done A s G hh:=by
  rintro ⟨l,items,i,k,hi,p1,p2,p3⟩ Q E hq
  cases i with
  | zero=>exact wpAny_pyNext_rev_end hh p1 hq
  | succ i=>
   exfalso
   have:=p3.length
   rw [List.length_reverse,List.length_take,List.length_nil] at this
   exact absurd ((Nat.min_eq_left hi).symm.trans this) (Nat.succ_ne_zero _)
theorem gU (a b c : Int) : 0 ≤ Builtin.Range.rangeSize a b c:=by
 unfold Builtin.Range.rangeSize
 split
 ·split
  ·exact Int.le_add_one (Int.ediv_nonneg (HL (by assumption)) (Ka (by assumption)))
  ·exact Int.le_refl _
 ·split
  ·exact Int.le_add_one (Int.ediv_nonneg (Kh (by assumption)) (Hv (by assumption)))
  ·exact Int.le_refl _
noncomputable def cR : ae → Option (List ae)
 | .lst vs=>some vs
 | .rng a b c=>if Builtin.Range.small a b c then some (kM a b c) else none
 | _=>none
noncomputable def dW (i : Nat) (l : Loc → Mo ae) (m : Loc → Mo (Fl × Loc)) : Loc → Mo (Fl × Loc):=fun loc=>bnd (l loc) fun a=>match cR a with
 | some as=>dU i m as loc
 | none=>dK
theorem Ext.start {h : Heap} {G : Gh} {o : Obj} {t : Tag} (hs : G.tag h.objs.size = .free) : Ext h G (h.push o) (G.put h.objs.size t):=
 ⟨fun a k=>G.put_ne _ (fun e=>by rw [e,hs] at k; cases k),fun a o' k e=>Heap.get?_push_of_some _ e,List.prefix_refl _⟩
theorem dk {i : Nat} {x : Str} {xp pos : Pos} {el : Expr} {body : List Stmt} {l : Loc → Mo ae} {m : Loc → Mo (Fl × Loc)} (hi : sg.names[i]? = some x) (hl : bT prog w B b sg el l) (hb : cy prog w B b sg body m)
  (hs : ∀ env x,foldedSetIterable el env x = pure x:=by intro _ _; rfl) : hA prog w B b sg (.For (.Name x xp) el body [] pos) (dW i l m):=by
 intro A Φ s G mm loc M r loc' M' R hΦ S e Q E h
 obtain ⟨a,M1,e1,e⟩:=aL e
 refine wpAny_For ?_ (hs _)
 refine hl A Φ s G mm loc M a M1 R hΦ.1 S e1 _ _ fun h1 tk1 G1 v S1 X1 r1=>?_
 cases r1 with
 | @lst ad items vs k p rs=>
  refine wpAny_pyIter_list p ?_
  have f:=S1.core.free
  have S2:=S1.push { cls:=.type "list_iterator",data:=.fields #[.ref ad,.int 0 0] } .below
  have X2:=Ext.start (o:={ cls:=.type "list_iterator",data:=.fields #[.ref ad,.int 0 0] }) (t:=.below) f
  refine nY (lK h1.objs.size) hi hb (s:={ s with heap:=_,toks:=tk1 }) (G₀:=G1) (s₀:=h1) R hΦ S2 (Gh.put_same ..) (by rw [f]; rfl) X2 ⟨_,_,0,X2.solid.tag _ k,⟨_,Heap.get?_push_size _ rfl,rfl,rfl⟩,p.push _,by rw [List.drop_zero]; exact rs.mono X2.solid⟩ e fun h3 tk3 G3 mm3 fl S3 X3 r3=>?_
  exact h h3 tk3 G3 mm3 fl S3 (X1.trans X3) r3
 | @rng ad lo hi' st t u v k p=>
  by_cases hsm : Builtin.Range.small lo hi' st = true
  ·simp only [cR,hsm,if_true] at e
   refine wpAny_pyIter_range p hsm ?_
   have f:=S1.core.free
   have S2:=S1.push { cls:=.type "range_iterator",data:=.fields #[rawInt lo,rawInt (Builtin.Range.rangeSize lo hi' st),rawInt st] } .below
   have X2:=Ext.start (o:={ cls:=.type "range_iterator",data:=.fields #[rawInt lo,rawInt (Builtin.Range.rangeSize lo hi' st),rawInt st] }) (t:=.below) f
   refine nY (j7 h1.objs.size) hi hb (s:={ s with heap:=_,toks:=tk1 }) (G₀:=G1) (s₀:=h1) R hΦ S2 (Gh.put_same ..) (by rw [f]; rfl) X2 ⟨lo,st,(Builtin.Range.rangeSize lo hi' st).toNat,?_,rfl⟩ e fun h3 tk3 G3 mm3 fl S3 X3 r3=>?_
   ·have : Int.ofNat (Builtin.Range.rangeSize lo hi' st).toNat = Builtin.Range.rangeSize lo hi' st:=Int.toNat_of_nonneg (gU ..)
    rw [this]
    exact Heap.get?_push_size _ rfl
   ·exact h h3 tk3 G3 mm3 fl S3 (X1.trans X3) r3
  ·simp only [cR,hsm] at e
   cases e
 | _=>cases e
end
end Mine
end
section
namespace Mine
structure Gl (K : Frag) (B : Heap) (p : Program) (loose : List Str) (mg mb : Str → Option Value) : Prop where
 X : K.In B
 T : TopRead p loose mg mb B
section
variable (prog : Program) (w : World) (B : Heap)
noncomputable def cu (b : Nat) (f : Value) (F : List ae → Mo ae) : Prop:=
 ∀ (A : Around) (s : Shared) (G : Gh) (M : List ah) (xs : List Value) (as : List ae) (r : ae) (M' : List ah),
  eZ A b → bJ prog w B s.heap G M → bf s.heap G xs as → F as M = some (r,M') → ∀ (R : Result → Shared → Prop),
  (∀ h' tk' G' x,bJ prog w B h' G' M' → Ext s.heap G h' G' → bO h' G' x r → R (.ok (.ret x)) { s with heap:=h',toks:=tk' }) → codeAny (model prog w) A (.call f ⟨xs,[]⟩) R s
end
section
variable {prog : Program} {w : World} {B : Heap} {b : Nat} {sg : Sg} {K : Frag} {p : Program} {loose : List Str} {mg mb : Str → Option Value}
theorem cu.mono {b' : Nat} {f : Value} {F : List ae → Mo ae} (x : cu prog w B b f F) (h : b ≤ b') : cu prog w B b' f F:=
 fun A s G M xs as r M' R=>x A s G M xs as r M' (R.mono h)
theorem cu.call {f : Value} {F : List ae → Mo ae} (x : cu prog w B b f F) : il prog w B b f F:=by
 intro A s G M xs as r M' R C rs e Q E h
 exact wpAny_call (x A s G M xs as r M' R C rs e _ fun h' tk' G' v C' X' r'=>h h' tk' G' v C' X' r')
theorem il.mono {b' : Nat} {f : Value} {F : List ae → Mo ae} (x : il prog w B b f F) (h : b ≤ b') : il prog w B b' f F:=
 fun A s G M xs as r M' R=>x A s G M xs as r M' (R.mono h)
theorem bJ.inK (Γ : Gl K B p loose mg mb) {h : Heap} {G : Gh} {M : List ah} (C : bJ prog w B h G M) : K.In h:=Γ.X.keeps fun b o e=>(C.base b o e).2
theorem B4 (Γ : Gl K B p loose mg mb) {Φ : Frm} {A : Around} {s : Shared} {G : Gh} {mm : Str → Option Value} {loc : Loc} {M : List ah} (S : St prog w B Φ s.heap G mm loc M) (hΦ : Φ.Of sg) {x : Str} {pos : Pos} {v : Value} {Q E : Value → Shared → Prop}
  (hx : nsIn K mainGlobals x = some (some v)) (h : Q v s) (hsc : sg.scope.names.lookup x = some .globalImplicit) (hd : (x == ("__debug__" : Str)) = false) : wpAny (model prog w) A (eval (.Name x pos) Φ.env) Q E s:=by
 refine Name_function_global S.ok.kind (by show Φ.env.scope.names.lookup x = _; rw [hΦ.1]; exact hsc) (loadGlobal_global (mg:=mg) ?_ (mg_of Γ.X Γ.T.g hx) h) hd
 rw [S.ok.glob]
 exact Γ.T.g.keeps S.keep
theorem yJ (Γ : Gl K B p loose mg mb) {Φ : Frm} {A : Around} {s : Shared} {G : Gh} {mm : Str → Option Value} {loc : Loc} {M : List ah} (S : St prog w B Φ s.heap G mm loc M) (hΦ : Φ.Of sg) {x : Str} {pos : Pos} {v : Value} {Q E : Value → Shared → Prop}
  (hx : nsIn K mainGlobals x = some none) (hb : bootBuiltins x = some v) (hn : x ≠ "__name__") (h : Q v s) (hsc : sg.scope.names.lookup x = some .globalImplicit) (hd : (x == ("__debug__" : Str)) = false) : wpAny (model prog w) A (eval (.Name x pos) Φ.env) Q E s:=by
 refine Name_function_global S.ok.kind (by show Φ.env.scope.names.lookup x = _; rw [hΦ.1]; exact hsc) (loadGlobal_builtin (mg:=mg) (mb:=mb) ?_ (mg_none_of Γ.X Γ.T.g hx) ?_ ((Γ.T.builtins x hn).trans hb) h) hd
 ·rw [S.ok.glob]
  exact Γ.T.g.keeps S.keep
 ·rw [S.ok.blt]
  exact Γ.T.b.keeps S.keep
noncomputable def aq (F : List ae → Mo ae) (ms : Loc → Mo (List ae)) : Loc → Mo ae:=fun loc=>bnd (ms loc) F
theorem fV {f : Value} {F : List ae → Mo ae} (hc : il prog w B b f F) {Φ : Frm} {A : Around} {s : Shared} {G : Gh} {mm : Str → Option Value} {loc : Loc} {M M' : List ah} {xs : List Value} {as : List ae} {r : ae} (R : eZ A b)
  (S : St prog w B Φ s.heap G mm loc M) (rs : bf s.heap G xs as) (e : F as M = some (r,M')) : tw prog w B Φ mm loc A (call f xs) s G r M':=
 gK.lift S (hc A s _ M xs as r M' R S.lower (S.lower_vals rs) e)
theorem az (Γ : Gl K B p loose mg mb) {x : Str} {xp pos : Pos} {a : Addr} {e1 : Expr} {rest : List Expr} {ms : Loc → Mo (List ae)} {F : List ae → Mo ae}
  (hx : nsIn K mainGlobals x = some (some (.ref a))) (hk : keepIn K (.ref a) = true) (hes : iS prog w B b sg (e1 :: rest) ms) (hc : il prog w B b (.ref a) F)
  (hsc : sg.scope.names.lookup x = some .globalImplicit:=by kernel_rfl) (hd : (x == ("__debug__" : Str)) = false:=by kernel_rfl)
  (he : ∀ env,starEach (e1 :: rest) env = (false,eval e1 env) :: starEach rest env:=by intro _; rfl) (hplain : ∀ env,(backTo pos (starEach rest env)).any (·.1) = false:=by intro _; rfl) :
  bT prog w B b sg (.Call (.Name x xp) (e1 :: rest) [] pos) (aq F ms):=by
 intro A Φ s G mm loc M v M' R hΦ S e Q E h
 obtain ⟨as,M1,e1',e⟩:=aL e
 refine Call_ ?_
 refine B4 Γ S hΦ hx ?_ hsc hd
 refine callWith_K Γ.X hk ?_ (he _) (hplain _)
 refine hes A Φ pos s G mm loc M as M1 R hΦ S e1' _ _ fun h1 tk1 G1 xs S1 X1 r1=>⟨S1.core.inK Γ,?_⟩
 exact fV (s:={ s with heap:=h1,toks:=tk1 }) hc R S1 r1 e _ _ fun h2 tk2 G2 y S2 X2 r2=>h h2 tk2 G2 y S2 (X1.trans X2) r2
theorem AO (Γ : Gl K B p loose mg mb) {x : Str} {xp pos : Pos} {a : Addr} {F : List ae → Mo ae}
  (hx : nsIn K mainGlobals x = some (some (.ref a))) (hk : keepIn K (.ref a) = true) (hc : il prog w B b (.ref a) F)
  (hsc : sg.scope.names.lookup x = some .globalImplicit:=by kernel_rfl) (hd : (x == ("__debug__" : Str)) = false:=by kernel_rfl) :
  bT prog w B b sg (.Call (.Name x xp) [] [] pos) (aq F am):=by
 intro A Φ s G mm loc M v M' R hΦ S e Q E h
 refine Call_ ?_
 refine B4 Γ S hΦ hx ?_ hsc hd
 refine callWith_K0 (S.core.inK Γ) hk ?_
 exact fV hc R S .nil e _ _ fun h2 tk2 G2 y S2 X2 r2=>h h2 tk2 G2 y S2 X2 r2
theorem c9 (Γ : Gl K B p loose mg mb) {x : Str} {xp pos : Pos} {id : String} {e1 : Expr} {rest : List Expr} {ms : Loc → Mo (List ae)} {F : List ae → Mo ae}
  (hx : nsIn K mainGlobals x = some none) (hb : bootBuiltins x = some (.builtin id)) (hn : x ≠ "__name__") (hes : iS prog w B b sg (e1 :: rest) ms) (hc : il prog w B b (.builtin id) F)
  (hsc : sg.scope.names.lookup x = some .globalImplicit:=by kernel_rfl) (hd : (x == ("__debug__" : Str)) = false:=by kernel_rfl)
  (he : ∀ env,starEach (e1 :: rest) env = (false,eval e1 env) :: starEach rest env:=by intro _; rfl) (hplain : ∀ env,(backTo pos (starEach rest env)).any (·.1) = false:=by intro _; rfl) :
  bT prog w B b sg (.Call (.Name x xp) (e1 :: rest) [] pos) (aq F ms):=by
 intro A Φ s G mm loc M v M' R hΦ S e Q E h
 obtain ⟨as,M1,e1',e⟩:=aL e
 refine Call_ ?_
 refine yJ Γ S hΦ hx hb hn ?_ hsc hd
 refine PyProof.Rows.callWith_builtin1 ?_ (he _) (hplain _)
 refine hes A Φ pos s G mm loc M as M1 R hΦ S e1' _ _ fun h1 tk1 G1 xs S1 X1 r1=>?_
 exact fV (s:={ s with heap:=h1,toks:=tk1 }) hc R S1 r1 e _ _ fun h2 tk2 G2 y S2 X2 r2=>h h2 tk2 G2 y S2 (X1.trans X2) r2
theorem ee (Γ : Gl K B p loose mg mb) {x : Str} {xp pos : Pos} {id : String} {e1 : Expr} {rest : List Expr} {ms : Loc → Mo (List ae)} {F : List ae → Mo ae}
  (hx : nsIn K mainGlobals x = some none) (hb : bootBuiltins x = some (.type id)) (hn : x ≠ "__name__") (hes : iS prog w B b sg (e1 :: rest) ms) (hc : il prog w B b (.type id) F)
  (hsc : sg.scope.names.lookup x = some .globalImplicit:=by kernel_rfl) (hd : (x == ("__debug__" : Str)) = false:=by kernel_rfl)
  (he : ∀ env,starEach (e1 :: rest) env = (false,eval e1 env) :: starEach rest env:=by intro _; rfl) (hplain : ∀ env,(backTo pos (starEach rest env)).any (·.1) = false:=by intro _; rfl) :
  bT prog w B b sg (.Call (.Name x xp) (e1 :: rest) [] pos) (aq F ms):=by
 intro A Φ s G mm loc M v M' R hΦ S e Q E h
 obtain ⟨as,M1,e1',e⟩:=aL e
 refine Call_ ?_
 refine yJ Γ S hΦ hx hb hn ?_ hsc hd
 refine PyProof.Rows.callWith_type1 ?_ (he _) (hplain _)
 refine hes A Φ pos s G mm loc M as M1 R hΦ S e1' _ _ fun h1 tk1 G1 xs S1 X1 r1=>?_
 exact fV (s:={ s with heap:=h1,toks:=tk1 }) hc R S1 r1 e _ _ fun h2 tk2 G2 y S2 X2 r2=>h h2 tk2 G2 y S2 (X1.trans X2) r2
noncomputable def vZ (a : ae) : Mo Unit:=fun M=>match a with
 | .mref i=>(match M[i]? with
  | some (.lst _)=>some ((),M)
  | _=>none)
 | _=>none
noncomputable def bF (F : List ae → Mo ae) (o : Loc → Mo ae) (ms : Loc → Mo (List ae)) : Loc → Mo ae:=fun loc=>bnd (o loc) fun a=>bnd (vZ a) fun _=>bnd (ms loc) fun as=>F (a :: as)
theorem oj {a : ae} {M M' : List ah} {u : Unit} (e : vZ a M = some (u,M')) : ∃ i vs,a = .mref i ∧ M[i]? = some (.lst vs) ∧ M' = M:=by
 unfold vZ at e
 split at e
 ·split at e
  ·rename_i h; cases e; exact ⟨i,vs,rfl,h,rfl⟩
  ·cases e
 ·cases e
noncomputable abbrev rI (o : Expr) (name : Str) (apos pos : Pos) (args : List Expr) (env : Env) : Prop:=∃ pl : Sem Bool,eval (.Call (.Attribute o name apos) args [] pos) env = (do
   let ov ← eval o env
   standAt apos.atName
   let (f,first) ← holding [ov] (getMethod ov name pl)
   callWith pos f first (backTo pos (starEach args env)) [])
noncomputable def pq (es : List Expr) : Prop:=match es with
 | []=>True
 | e1 :: rest=>∀ (pos : Pos) (env : Env),starEach (e1 :: rest) env = (false,eval e1 env) :: starEach rest env ∧ (backTo pos (starEach rest env)).any (·.1) = false
theorem rH (prog : Program) (w : World) {pos : Pos} {id : String} {first : List Value} {es : List Expr} {ms : Loc → Mo (List ae)} (hes : iS prog w B b sg es ms)
  {Φ : Frm} {A : Around} {s : Shared} {G : Gh} {mm : Str → Option Value} {loc : Loc} {M M' : List ah} {as : List ae} (R : eZ A b) (hΦ : Φ.Of sg) (S : St prog w B Φ s.heap G mm loc M) (e : ms loc M = some (as,M'))
  (hplain : pq es) {Q : Value → Shared → Prop} {E : Value → Shared → Prop}
  (h : ∀ h' tk' G' xs,St prog w B Φ h' G' mm loc M' → Ext s.heap G h' G' → bf h' G' xs as → wpAny (model prog w) A (call (.builtin id) (first ++ xs)) Q E { s with heap:=h',toks:=tk' }) :
  wpAny (model prog w) A (callWith pos (.builtin id) first (backTo pos (starEach es Φ.env)) []) Q E s:=by
 have k:=hes A Φ pos s G mm loc M as M' R hΦ S e _ E h
 cases es with
 | nil=>
  refine callWith_method0 ?_
  have k' : wpAny (model prog w) A (call (.builtin id) (first ++ [])) Q E s:=fun Γ p hΓ=>(show wpAny (model prog w) A (call (.builtin id) (first ++ [])) Q E s from k Γ p hΓ) Γ p hΓ
  simpa using k'
 | cons e1 rest=>exact callWith_method1 k (hplain pos _).1 (hplain pos _).2
theorem cj {o : Expr} {name : Str} {id : String} {apos pos : Pos} {es : List Expr} {lo : Loc → Mo ae} {ms : Loc → Mo (List ae)} {F : List ae → Mo ae} (ho : bT prog w B b sg o lo) (hes : iS prog w B b sg es ms)
  (hc : il prog w B b (.builtin id) F) (slot : Slot "list" name id) (hty : typeOf (.builtin id) = pure (.type "method_descriptor"))
  (ht : ∀ env,rI o name apos pos es env:=by intro _; exact ⟨_,rfl⟩) (hplain : pq es:=by first | exact trivial | (intro _ _; exact ⟨rfl,rfl⟩)) :
  bT prog w B b sg (.Call (.Attribute o name apos) es [] pos) (bF F lo ms):=by
 intro A Φ s G mm loc M v M' R hΦ S e Q E h
 obtain ⟨a,M1,e1,f1⟩:=aL e
 obtain ⟨u,M2,e2,f2⟩:=aL f1
 obtain ⟨as,M3,e3,f3⟩:=aL f2
 obtain ⟨i,vs,rfl,hi,rfl⟩:=oj e2
 obtain ⟨pl,he⟩:=ht Φ.env
 refine MethodCall_ (pl:=pl) ?_ he
 refine ho A Φ s G mm loc M _ _ R hΦ S e1 _ _ fun h1 tk1 G1 x S1 X1 r1=>?_
 cases r1 with
 | @mref _ ad r=>
  obtain ⟨a',items,n,r',t,o',rv⟩:=S1.core.muts i _ hi
  rw [r] at r'; cases r'
  refine getMethod_list_of slot hty ⟨_,o',rfl,n,rfl⟩ ⟨_,o',rfl⟩ ?_
  refine rH prog w hes (s:={ s with heap:=h1,toks:=tk1 }) R hΦ S1 e3 hplain fun h2 tk2 G2 xs S2 X2 r2=>?_
  exact fV (s:={ s with heap:=h2,toks:=tk2 }) hc R S2 (.cons (.mref (em X2.ρ r)) r2) f3 _ _ fun h3 tk3 G3 y S3 X3 r3=>h h3 tk3 G3 y S3 (X1.trans (X2.trans X3)) r3
noncomputable def nm (a : ae) (M : List ah) : Option (Addr × List (Str × ae)):=match a with
 | .mref i=>(match M[i]? with
  | some (.inst C fs)=>some (C,fs)
  | _=>none)
 | .inst C fs=>some (C,fs)
 | _=>none
noncomputable def mq (x : Str) : List (Str × ae) → Option ae
 | []=>none
 | (k,a) :: r=>if k == x then some a else mq x r
noncomputable def pe (C : Addr) (x : Str) (a : ae) : Mo Unit:=fun M=>match nm a M with
 | some (D,fs)=>if D = C ∧ mq x fs = none then some ((),M) else none
 | none=>none
noncomputable def ew (C : Addr) (x : Str) (F : List ae → Mo ae) (o : Loc → Mo ae) (ms : Loc → Mo (List ae)) : Loc → Mo ae:=fun loc=>bnd (o loc) fun a=>bnd (pe C x a) fun _=>bnd (ms loc) fun as=>F (a :: as)
theorem vg {h : Heap} {G : Gh} {M : List ah} {v : Value} {a : ae} {C : Addr} {fs : List (Str × ae)} (c : bJ prog w B h G M) (r : bO h G v a) (e : nm a M = some (C,fs)) :
  ∃ x dx es n,v = .ref x ∧ h.get? x = some (instObj C dx) ∧ h.get? dx = some (dictOf es n) ∧ dm h G es fs:=by
 cases r with
 | @mref i ad r=>
  unfold nm at e
  dsimp only at e
  split at e
  ·rename_i hm
   cases e
   obtain ⟨x,dx,es,n,r',t1,t2,o1,o2,q⟩:=c.muts i _ hm
   rw [r] at r'; cases r'
   exact ⟨_,dx,es,n,rfl,o1,o2,q⟩
  ·cases e
 | @inst x dx D es n fs' k1 k2 o1 o2 q=>cases e; exact ⟨x,dx,es,n,rfl,o1,o2,q⟩
 | _=>cases e
theorem D3 (k x : Str) (t : Tok) : (Value.str k t).isStr x = (k == x):=rfl
theorem mC {h : Heap} {G : Gh} {x : Str} {es : List DictEntry} {fs : List (Str × ae)} (rs : dm h G es fs) :
  (∀ a,mq x fs = some a → ∃ v,getL x es = some (some v) ∧ bO h G v a) ∧ (mq x fs = none → getL x es = some none):=
 dm.ind (P:=fun es fs=>(∀ a,mq x fs = some a → ∃ v,getL x es = some (some v) ∧ bO h G v a) ∧ (mq x fs = none → getL x es = some none)) ⟨fun a e=>(nomatch e),fun _=>rfl⟩ (fun hs k t v a es fs r _ ih=>by
  have ref : (⟨hs,.str k t,v⟩ : DictEntry).refKey = false:=rfl
  unfold mq getL
  rw [List.find?_cons]
  by_cases hk : (k == x) = true
  ·have e1 : (⟨hs,.str k t,v⟩ : DictEntry).key.isStr x = true:=hk
   rw [e1,if_pos hk]
   exact ⟨fun b e=>by cases e; exact ⟨v,rfl,r⟩,fun e=>(nomatch e)⟩
  ·have hk' : (k == x) = false:=by simpa using hk
   have e1 : (⟨hs,.str k t,v⟩ : DictEntry).key.isStr x = false:=hk'
   rw [e1,if_neg hk,List.any_cons,ref,Bool.false_or]
   exact ih) rs
theorem eX (Γ : Gl K B p loose mg mb) {o : Expr} {name : Str} {C f : Addr} {apos pos : Pos} {e1 : Expr} {rest : List Expr} {lo : Loc → Mo ae} {ms : Loc → Mo (List ae)} {F : List ae → Mo ae} (ho : bT prog w B b sg o lo) (hes : iS prog w B b sg (e1 :: rest) ms)
  (hc : il prog w B b (.ref f) F) (hg : plainGet K C name = true) (hf : findIn K (.ref C) name = some (some (.ref f))) (hfn : isFn K (.ref f) = true) (hk : keepIn K (.ref f) = true)
  (ht : ∀ env,rI o name apos pos (e1 :: rest) env:=by intro _; exact ⟨_,rfl⟩)
  (he : ∀ env,starEach (e1 :: rest) env = (false,eval e1 env) :: starEach rest env:=by intro _; rfl) (hplain : ∀ env,(backTo pos (starEach rest env)).any (·.1) = false:=by intro _; rfl) :
  bT prog w B b sg (.Call (.Attribute o name apos) (e1 :: rest) [] pos) (ew C name F lo ms):=by
 intro A Φ s G mm loc M v M' R hΦ S e Q E h
 obtain ⟨a,M1,ea,f1⟩:=aL e
 obtain ⟨u,M2,e2,f2⟩:=aL f1
 obtain ⟨as,M3,e3,f3⟩:=aL f2
 have hcl : ∃ fs,nm a M1 = some (C,fs) ∧ mq name fs = none ∧ M2 = M1:=by
  unfold pe at e2
  split at e2
  ·rename_i hD
   split at e2
   ·rename_i q; cases e2; obtain ⟨rfl,q⟩:=q; exact ⟨fs,hD,q,rfl⟩
   ·cases e2
  ·cases e2
 obtain ⟨fs,h1c,hno,rfl⟩:=hcl
 obtain ⟨pl,hm⟩:=ht Φ.env
 refine MethodCall_ (pl:=pl) ?_ hm
 refine ho A Φ s G mm loc M a _ R hΦ S ea _ _ fun h1 tk1 G1 x S1 X1 r1=>?_
 obtain ⟨xa,dx,es,n,rfl,o1,o2,q⟩:=vg S1.core r1 h1c
 refine method_inst S1.fr Γ.X ⟨o1,rfl,rfl,o2⟩ hg hf hfn ((mC q).2 hno) ?_
 refine callWith_K Γ.X hk ?_ (he _) (hplain _)
 refine hes A Φ pos { s with heap:=h1,toks:=tk1 } G1 mm loc M2 as M3 R hΦ S1 e3 _ _ fun h2 tk2 G2 xs S2 X2 r2=>⟨S2.core.inK Γ,?_⟩
 exact fV (s:={ s with heap:=h2,toks:=tk2 }) hc R S2 (.cons (r1.mono X2.solid) r2) f3 _ _ fun h3 tk3 G3 y S3 X3 r3=>h h3 tk3 G3 y S3 (X1.trans (X2.trans X3)) r3
noncomputable def BG (m : Loc → Mo (Fl × Loc)) (loc : Loc) : Mo ae:=bnd (m loc) fun r=>match r.1 with
 | .ret v=>ret v
 | _=>ret .none
structure FI (sg : Sg) (ps : List Str) : Prop where
 nd : sg.names.Nodup
 loc : ∀ x ∈ sg.names,sg.scope.names.lookup x = some .local
 kind : sg.scope.kind = .function
 co : sg.scope.isCoroutine = false
 gen : sg.scope.isGenerator = false
 cell : ∀ x ∈ sg.scope.names,x.2 ≠ .cell
 pre : ps <+: sg.names
noncomputable def y5 (sg : Sg) (ps : List Str) : Bool:=decide sg.names.Nodup && sg.names.all (fun x=>sg.scope.names.lookup x == some .local) && (sg.scope.kind == .function) && !sg.scope.isCoroutine && !sg.scope.isGenerator && sg.scope.names.all (fun x=>x.2 != .cell) && ps.isPrefixOf sg.names
theorem bt {sg : Sg} {ps : List Str} (h : y5 sg ps = true) : FI sg ps:=by
 unfold y5 at h
 simp only [Bool.and_eq_true,decide_eq_true_eq,List.all_eq_true,beq_iff_eq,Bool.not_eq_true',bne_iff_ne,ne_eq] at h
 obtain ⟨⟨⟨⟨⟨⟨h1,h2⟩,h3⟩,h4⟩,h5⟩,h6⟩,h7⟩:=h
 exact ⟨h1,h2,h3,h4,h5,h6,List.isPrefixOf_iff_prefix.mp h7⟩
theorem ve {ps : List Str} : ∀ {vs : List Value} {i : Nat} {x : Str} {v : Value},ps.Nodup → ps[i]? = some x → vs[i]? = some v → (ps.zip vs).lookup x = some v:=by
 induction ps with
 | nil=>intro vs i x v _ e; simp at e
 | cons q ps ih=>
  intro vs i x v nd e1 e2
  cases vs with
  | nil=>simp at e2
  | cons y vs=>
   rw [List.nodup_cons] at nd
   cases i with
   | zero=>simp at e1 e2; subst e1 e2; simp
   | succ i=>
    simp at e1 e2
    have hne : x ≠ q:=fun e=>nd.1 (e ▸ List.mem_of_getElem? e1)
    rw [List.zip_cons_cons,List.lookup_cons,beq_eq_false_iff_ne.mpr hne]
    exact ih nd.2 e1 e2
theorem uH {l : List (Str × Value)} {x : Str} {v : Value} (nd : (l.map (·.1)).Nodup) (e : l.lookup x = some v) : l.reverse.lookup x = some v:=by
 induction l with
 | nil=>cases e
 | cons q l ih=>
  rw [List.map_cons,List.nodup_cons] at nd
  rw [List.lookup_cons] at e
  rw [List.reverse_cons,List.lookup_append]
  by_cases hx : (x == q.1) = true
  ·rw [hx] at e
   have hn : l.reverse.lookup x = none:=by
    rw [List.lookup_eq_none_iff]
    intro r hr
    refine bne_iff_ne.mpr fun q'=>nd.1 ?_
    rw [← beq_iff_eq.mp hx,q']
    exact List.mem_map_of_mem (List.mem_reverse.mp hr)
   rw [hn,List.lookup_cons,hx]
   exact e
  ·have : (x == q.1) = false:=by simpa using hx
   rw [this] at e
   rw [ih nd.2 e]; rfl
noncomputable def fR (n : Nat) (as : List ae) : Loc:=as.map some ++ List.replicate (n - as.length) none
noncomputable def aO (k : Nat) (n : Nat) (dfl : List ae) (m : Loc → Mo (Fl × Loc)) (as : List ae) : Mo ae:=
 if as.length + dfl.length < k ∨ k < as.length then dK else BG m (fR n (as ++ dfl.drop (dfl.length - (k - as.length))))
theorem lP {n : Nat} {as : List ae} {i : Nat} {a : ae} (e : (fR n as)[i]? = some (some a)) : as[i]? = some a:=by
 unfold fR at e
 by_cases h : i < as.length
 ·rw [List.getElem?_append_left (by simpa using h)] at e
  rw [List.getElem?_map] at e
  cases q : as[i]? with
  | none=>rw [q] at e; cases e
  | some b=>rw [q] at e; cases e; rfl
 ·rw [List.getElem?_append_right (by simpa using h)] at e
  exfalso
  have:=List.mem_of_getElem? e
  rw [List.mem_replicate] at this
  cases this.2
theorem cn (Γ : Gl K B p loose mg mb) {name qual : Str} {params : Arguments} {body : List Stmt} {dV kV doc pm cdv ct oc : Value} {an od : Option Addr} {osl : Array (Option Value)} {f : Addr} {ps : List Str} {dfl : List ae} {m : Loc → Mo (Fl × Loc)}
  (ho : K.lookup f = some ⟨oc,od,.func (fnOf name qual params body sg.scope dV kV doc pm an cdv ct),osl⟩) (hcd : codeIn K cdv qual = true) (ok : FI sg ps)
  (hbind : ∀ (s : Shared) (xs : List Value),K.In s.heap → ps.length ≤ xs.length + dfl.length → xs.length ≤ ps.length → ∃ ds,(∀ h G,bf h G ds (dfl.drop (dfl.length - (ps.length - xs.length)))) ∧ BindsTo s (fnOf name qual params body sg.scope dV kV doc pm an cdv ct) ⟨xs,[]⟩ (ps.zip (xs ++ ds)))
  (hb : cy prog w B b sg body m) : cu prog w B (b + 1) (.ref f) (aO ps.length sg.names.length dfl m):=by
 intro A s G M xs as r M' R C rs e Rs h
 unfold aO at e
 split at e
 ·cases e
 rename_i hlen
 have hl:=rs.length
 have X:=C.inK Γ
 obtain ⟨ds,hds,hB⟩:=hbind s xs X (Iz hlen hl) (Ij hlen hl)
 have hps : ps.Nodup:=by
  obtain ⟨t,ht⟩:=ok.pre
  have:=ok.nd; rw [← ht] at this
  exact (List.nodup_append.mp this).1
 have hdl:=(hds s.heap G).length
 refine codeAny_call_def (fd:=fnOf name qual params body sg.scope dV kV doc pm an cdv ct) (body:=body) (binds:=ps.zip (xs ++ ds)) (Nat.lt_of_le_of_lt (Nat.le_add_right _ _) R.dp) (X _ _ ho) rfl (Γ.T.nolimit.keeps fun b o e=>(C.base b o e).2) (codeRec_of X hcd) rfl hB ok.cell (fun x hx=>?_) (fun h₁ hns hk₁=>?_) ok.co ok.gen ok.kind
 ·have : x.1 ∈ ps:=(List.of_mem_zip hx).1
  exact ok.loc _ (ok.pre.subset this)
 obtain ⟨⟨fl,locE⟩,ME,eb,e⟩:=aL e
 let Φ : Frm:=⟨callEnv (fnOf name qual params body sg.scope dV kV doc pm an cdv ct) s.heap.objs.size f,sg.names,[s.heap.objs.size]⟩
 have hLt : s.heap.objs.size < h₁.objs.size:=by
  obtain ⟨o,a1,a2,hL,a3⟩:=hns
  exact Heap.lt_size hL
 have gr : ml s.heap G h₁ (G.putAll [s.heap.objs.size] .frame):=by
  refine ⟨fun a k=>?_,List.prefix_refl _,Nat.le_of_lt hLt,fun a=>?_⟩
  ·exact ⟨G.putAll_out _ (fun q=>k (List.mem_singleton.mp q ▸ C.free)),fun o e=>hk₁ a o e⟩
  ·by_cases q : a = s.heap.objs.size
   ·subst q; obtain ⟨o,a1,a2,hL,a3⟩:=hns; exact .inr ⟨o,hL⟩
   ·rw [G.putAll_out _ (fun z=>q (List.mem_singleton.mp z))]; exact (C.live a).imp id fun ⟨o,e⟩=>⟨o,hk₁ a o e⟩
 have hzl : (xs ++ ds).length = ps.length:=by
  rw [List.length_append,hdl,List.length_drop]; exact GV hlen hl
 have S : St prog w B Φ h₁ (G.putAll [s.heap.objs.size] .frame) (fun x=>(ps.zip (xs ++ ds)).reverse.lookup x) (fR sg.names.length (as ++ dfl.drop (dfl.length - (ps.length - as.length)))) M:=by
  refine ⟨C.grow gr C.len,hns,fun a ha=>?_,fun x c e=>(nomatch e),C.size,⟨ok.kind,rfl,rfl,ok.nd,fun x hx=>.inl (ok.loc x hx),List.mem_singleton.mpr rfl,fun x c e=>(nomatch e),fun x y c e=>(nomatch e)⟩,fun i x a e1 e2=>?_⟩
  ·obtain rfl:=List.mem_singleton.mp ha
   exact ⟨G.putAll_in _ ha,by obtain ⟨o,a1,a2,hL,a3⟩:=hns; exact ⟨o,hL⟩⟩
  have e3:=lP e2
  have rr : bf h₁ (G.putAll [s.heap.objs.size] .frame) (xs ++ ds) (as ++ dfl.drop (dfl.length - (ps.length - as.length))):=(rs.mono gr.ext.solid).append (by rw [← hl]; exact hds _ _)
  obtain ⟨v,hv,q⟩:=rr.get e3
  refine ⟨v,.inl ⟨ok.loc x (List.mem_of_getElem? e1),?_⟩,q⟩
  have hip : i < ps.length:=hzl ▸ (List.getElem?_eq_some_iff.mp hv).1
  have e4 : ps[i]? = some x:=by
   obtain ⟨t,ht⟩:=ok.pre
   have e1' : sg.names[i]? = some x:=e1
   rw [← ht,List.getElem?_append_left hip] at e1'
   exact e1'
  refine uH ?_ (ve hps e4 hv)
  rw [List.map_fst_zip (o28 hzl)]
  exact hps
 refine hb (A.deeper Φ.env) Φ { s with heap:=h₁,toks:=_ } _ _ _ M fl locE ME ⟨R.hd,by have:=R.dp; show A.depth + 1 + b < _; exact Fb this,by have:=R.un; show A.units + 3 + 8 * b < _; exact FV this⟩ ⟨⟨rfl,rfl⟩,fun x c e=>(nomatch e)⟩ S eb _ _ fun h' tk' G' mm' x S' X' r'=>?_
 have XX:=gr.ext.trans X'
 cases r' with
 | ret q=>cases e; exact h h' tk' G' _ S'.core XX q
 | next=>cases e; exact h h' tk' G' _ S'.core XX .none
 | brk=>cases e; exact h h' tk' G' _ S'.core XX .none
structure BB (sg : Sg) (ps : List Str) : Prop where
 nd : sg.names.Nodup
 loc : ∀ x ∈ sg.names,sg.scope.names.lookup x = some .local ∨ (sg.scope.names.lookup x = some .cell ∧ x ∈ (cellsFrom 0 sg.scope.names []).map (·.1))
 kind : sg.scope.kind = .function
 co : sg.scope.isCoroutine = false
 gen : sg.scope.isGenerator = false
 cnd : ((cellsFrom 0 sg.scope.names []).map (·.1)).Nodup
 pre : ps <+: sg.names
noncomputable def vD (sg : Sg) (ps : List Str) : Bool:=decide sg.names.Nodup && sg.names.all (fun x=>sg.scope.names.lookup x == some .local || (sg.scope.names.lookup x == some .cell && ((cellsFrom 0 sg.scope.names []).map (·.1)).contains x)) && (sg.scope.kind == .function) && !sg.scope.isCoroutine && !sg.scope.isGenerator && decide ((cellsFrom 0 sg.scope.names []).map (·.1)).Nodup && ps.isPrefixOf sg.names
theorem jN {sg : Sg} {ps : List Str} (h : vD sg ps = true) : BB sg ps:=by
 unfold vD at h
 simp only [Bool.and_eq_true,decide_eq_true_eq,List.all_eq_true,beq_iff_eq,Bool.not_eq_true',Bool.or_eq_true,List.contains_iff_mem] at h
 obtain ⟨⟨⟨⟨⟨⟨h1,h2⟩,h3⟩,h4⟩,h5⟩,h6⟩,h7⟩:=h
 exact ⟨h1,h2,h3,h4,h5,h6,List.isPrefixOf_iff_prefix.mp h7⟩
theorem gB {cs : List (Str × Addr)} {x : Str} (h : x ∈ cs.map (·.1)) : ∃ c,cs.lookup x = some c:=by
 induction cs with
 | nil=>cases h
 | cons q cs ih=>
  rw [List.lookup_cons]
  cases hb : x == q.1 with
  | true=>exact ⟨_,rfl⟩
  | false=>
   rw [List.map_cons] at h
   rcases List.mem_cons.mp h with e | h
   ·rw [e] at hb; simp at hb
   ·exact ih h
theorem lH {kd : Str → Option NameKind} : ∀ {ps : List Str} {vs : List Value} {m : Str → Option Value} {x : Str},x ∉ ps → bindL kd (ps.zip vs) m x = m x
 | [],_,_,_,_=>rfl
 | _ :: _,[],_,_,_=>rfl
 | q :: ps,v :: vs,m,x,h=>by
  rw [List.zip_cons_cons]
  show bindL kd (ps.zip vs) _ x = _
  rw [lH (fun e=>h (List.mem_cons_of_mem _ e))]
  have hne : x ≠ q:=fun e=>h (e ▸ List.mem_cons_self)
  split <;> simp [hne]
theorem lD {kd : Str → Option NameKind} : ∀ {ps : List Str} {vs : List Value} {m : Str → Option Value} {x : Str},x ∉ ps → bindC kd (ps.zip vs) m x = m x
 | [],_,_,_,_=>rfl
 | _ :: _,[],_,_,_=>rfl
 | q :: ps,v :: vs,m,x,h=>by
  rw [List.zip_cons_cons]
  show bindC kd (ps.zip vs) _ x = _
  rw [lD (fun e=>h (List.mem_cons_of_mem _ e))]
  have hne : x ≠ q:=fun e=>h (e ▸ List.mem_cons_self)
  split <;> simp [hne]
theorem pi {kd : Str → Option NameKind} : ∀ {ps : List Str} {vs : List Value} {m : Str → Option Value} {i : Nat} {x : Str} {v : Value},ps.Nodup → ps[i]? = some x → vs[i]? = some v → kd x = some .local → bindL kd (ps.zip vs) m x = some v
 | [],_,_,i,_,_,_,e,_,_=>by simp at e
 | _ :: _,[],_,_,_,_,_,_,e,_=>by simp at e
 | q :: ps,u :: vs,m,0,x,v,nd,e1,e2,k=>by
  simp at e1 e2; subst e1 e2
  rw [List.nodup_cons] at nd
  rw [List.zip_cons_cons]
  show bindL kd (ps.zip vs) _ q = _
  rw [lH nd.1,if_pos k]; simp
 | q :: ps,u :: vs,m,i + 1,x,v,nd,e1,e2,k=>by
  simp at e1 e2
  rw [List.nodup_cons] at nd
  rw [List.zip_cons_cons]
  exact pi nd.2 e1 e2 k
theorem pn {kd : Str → Option NameKind} : ∀ {ps : List Str} {vs : List Value} {m : Str → Option Value} {i : Nat} {x : Str} {v : Value},ps.Nodup → ps[i]? = some x → vs[i]? = some v → kd x ≠ some .local → bindC kd (ps.zip vs) m x = some v
 | [],_,_,i,_,_,_,e,_,_=>by simp at e
 | _ :: _,[],_,_,_,_,_,_,e,_=>by simp at e
 | q :: ps,u :: vs,m,0,x,v,nd,e1,e2,k=>by
  simp at e1 e2; subst e1 e2
  rw [List.nodup_cons] at nd
  rw [List.zip_cons_cons]
  show bindC kd (ps.zip vs) _ q = _
  rw [lD nd.1,if_neg k]; simp
 | q :: ps,u :: vs,m,i + 1,x,v,nd,e1,e2,k=>by
  simp at e1 e2
  rw [List.nodup_cons] at nd
  rw [List.zip_cons_cons]
  exact pn nd.2 e1 e2 k
theorem pL (Γ : Gl K B p loose mg mb) {name qual : Str} {params : Arguments} {body : List Stmt} {dV kV doc pm cdv ct oc : Value} {an od : Option Addr} {osl : Array (Option Value)} {f : Addr} {ps : List Str} {m : Loc → Mo (Fl × Loc)}
  (ho : K.lookup f = some ⟨oc,od,.func (fnOf name qual params body sg.scope dV kV doc pm an cdv ct),osl⟩) (hcd : codeIn K cdv qual = true) (ok : BB sg ps)
  (hbind : ∀ (xs : List Value),xs.length = ps.length → bindArgs (fnOf name qual params body sg.scope dV kV doc pm an cdv ct) ⟨xs,[]⟩ = pure (ps.zip xs))
  (hb : cy prog w B b sg body m) : cu prog w B (b + 1) (.ref f) (aO ps.length sg.names.length [] m):=by
 intro A s G M xs as r M' R C rs e Rs h
 unfold aO at e
 split at e
 ·cases e
 rename_i hlen
 have hl:=rs.length
 have X:=C.inK Γ
 have hlp : xs.length = ps.length:=by simp at hlen; exact Is hl hlen
 have hps : ps.Nodup:=by
  obtain ⟨t,ht⟩:=ok.pre
  have:=ok.nd; rw [← ht] at this
  exact (List.nodup_append.mp this).1
 have keys : (cellsFrom (s.heap.objs.size + 1) sg.scope.names []).map (·.1) = (cellsFrom 0 sg.scope.names []).map (·.1):=cellsFrom_names _ _ _ _ _ rfl
 refine codeAny_call_cells (fd:=fnOf name qual params body sg.scope dV kV doc pm an cdv ct) (body:=body) (binds:=ps.zip xs) (Nat.lt_of_le_of_lt (Nat.le_add_right _ _) R.dp) (X _ _ ho) rfl (Γ.T.nolimit.keeps fun b o e=>(C.base b o e).2) (codeRec_of X hcd) rfl (hbind xs hlp) rfl (fun x hx=>?_) (fun s₁ Y=>?_) ok.co ok.gen ok.kind
 ·have : x.1 ∈ ps:=(List.of_mem_zip hx).1
  rcases ok.loc _ (ok.pre.subset this) with k | ⟨k,k2⟩
  ·exact .inl k
  ·refine .inr ⟨k,?_⟩
   obtain ⟨c,hc⟩:=gB (keys ▸ k2)
   show (List.lookup x.1 (cellsFrom (s.heap.objs.size + 1) sg.scope.names [])).isSome = true
   rw [hc]; rfl
 obtain ⟨h₁,tk,rfl,hk₁⟩:=Y.done
 obtain ⟨⟨fl,locE⟩,ME,eb,e⟩:=aL e
 have hns:=Y.toInCall.ns
 let cs:=cellsFrom (s.heap.objs.size + 1) sg.scope.names []
 let Φ : Frm:=⟨callEnvC (fnOf name qual params body sg.scope dV kV doc pm an cdv ct) s.heap.objs.size f,sg.names,s.heap.objs.size :: cs.map (·.2)⟩
 have hlk : ∀ c,c ∈ cs.map (·.2) → ∃ n,cs.lookup n = some c:=fun c hc=>by
  obtain ⟨q,hq,rfl⟩:=List.mem_map.mp hc
  exact ⟨q.1,lookup_of_mem_nodup (by show ((cellsFrom _ _ _).map (·.1)).Nodup; rw [keys]; exact ok.cnd) hq⟩
 have habove : ∀ a ∈ Φ.own,s.heap.objs.size ≤ a:=fun a ha=>by
  rcases List.mem_cons.mp ha with rfl | ha
  ·exact Nat.le_refl _
  ·obtain ⟨n,hn⟩:=hlk a ha
   exact Nat.le_of_lt (Y.above n a (mem_of_lookup hn))
 have hlive : ∀ a ∈ Φ.own,∃ o,h₁.get? a = some o:=fun a ha=>by
  rcases List.mem_cons.mp ha with rfl | ha
  ·obtain ⟨o,a1,a2,hL,a3⟩:=hns; exact ⟨o,hL⟩
  ·obtain ⟨n,hn⟩:=hlk a ha
   obtain ⟨o,e,_⟩:=Y.cell n a hn
   exact ⟨o,e⟩
 have hLt : s.heap.objs.size < h₁.objs.size:=by
  obtain ⟨o,a1,a2,hL,a3⟩:=hns
  exact Heap.lt_size hL
 have gr : ml s.heap G h₁ (G.putAll Φ.own .frame):=by
  refine ⟨fun a k=>?_,List.prefix_refl _,Nat.le_of_lt hLt,fun a=>?_⟩
  ·exact ⟨G.putAll_out _ (fun q=>k (C.freeAt (habove a q))),fun o e=>hk₁ a o e⟩
  ·by_cases q : a ∈ Φ.own
   ·exact .inr (hlive a q)
   ·rw [G.putAll_out _ q]; exact (C.live a).imp id fun ⟨o,e⟩=>⟨o,hk₁ a o e⟩
 have S : St prog w B Φ h₁ (G.putAll Φ.own .frame) (bindL Φ.env.kindOf (ps.zip xs) fun _=>none) (fR sg.names.length (as ++ ([] : List ae).drop (([] : List ae).length - (ps.length - as.length)))) M:=by
  refine ⟨C.grow gr C.len,hns,fun a ha=>⟨G.putAll_in _ ha,hlive a ha⟩,fun x c e=>⟨⟨_,Y.cell x c e⟩,.inl (List.mem_cons_of_mem _ (List.mem_map.mpr ⟨(x,c),mem_of_lookup e,rfl⟩))⟩,C.size,⟨ok.kind,rfl,rfl,ok.nd,fun x hx=>?_,List.mem_cons_self,fun x c e=>Nat.ne_of_gt (Y.above x c (mem_of_lookup e)),fun x y c e1 e2=>name_of_addr Y.apart (mem_of_lookup e1) (mem_of_lookup e2)⟩,fun i x a e1 e2=>?_⟩
  ·rcases ok.loc x hx with k | ⟨k,k2⟩
   ·exact .inl k
   ·exact .inr ⟨k,gB (keys ▸ k2)⟩
  have e3:=lP e2
  simp only [List.drop_nil,List.append_nil] at e3
  have rr : bf h₁ (G.putAll Φ.own .frame) xs as:=rs.mono gr.ext.solid
  obtain ⟨v,hv,q⟩:=rr.get e3
  refine ⟨v,?_,q⟩
  have hip : i < ps.length:=hlp ▸ (List.getElem?_eq_some_iff.mp hv).1
  have e4 : ps[i]? = some x:=by
   obtain ⟨t,ht⟩:=ok.pre
   have e1' : sg.names[i]? = some x:=e1
   rw [← ht,List.getElem?_append_left hip] at e1'
   exact e1'
  rcases ok.loc x (List.mem_of_getElem? e1) with k | ⟨k,k2⟩
  ·exact .inl ⟨k,pi hps e4 hv k⟩
  ·obtain ⟨c,hc⟩:=gB (keys ▸ k2)
   refine .inr ⟨c,k,hc,?_⟩
   have:=Y.cell x c hc
   rw [pn hps e4 hv (fun z=>by have z' : sg.scope.names.lookup x = some .local:=z; rw [k] at z'; cases z')] at this
   exact this
 refine hb (A.deeper Φ.env) Φ { s with heap:=h₁,toks:=tk } _ _ _ M fl locE ME ⟨R.hd,by have:=R.dp; show A.depth + 1 + b < _; exact Fb this,by have:=R.un; show A.units + 3 + 8 * b < _; exact FV this⟩ ⟨⟨rfl,rfl⟩,fun x c e=>List.mem_cons_of_mem _ (List.mem_map.mpr ⟨(x,c),mem_of_lookup e,rfl⟩)⟩ S eb _ _ fun h' tk' G' mm' x S' X' r'=>?_
 have XX:=gr.ext.trans X'
 cases r' with
 | ret q=>cases e; exact h h' tk' G' _ S'.core XX q
 | next=>cases e; exact h h' tk' G' _ S'.core XX .none
 | brk=>cases e; exact h h' tk' G' _ S'.core XX .none
noncomputable def gQ (C : Addr) (F : List ae → Mo ae) (as : List ae) : Mo ae:=fun M=>match F (.mref M.length :: as) (M ++ [.inst C []]) with
 | some (.none,M')=>some (.mref M.length,M')
 | _=>none
theorem lm (A : Around) (C : Addr) (rest : List Value) (kw : List (Str × Value)) : (A.under (.builtin "type.__call__" ⟨.ref C :: rest,kw⟩)).depth = A.depth + 1:=by
 first | rfl | simp [Around.under,Code.weight,Code.frames,Code.isFrame,Code.isCreation,Code.isGuard,Code.isCaller,guardIds]
theorem lp (A : Around) (C : Addr) (rest : List Value) (kw : List (Str × Value)) : (A.under (.builtin "type.__call__" ⟨.ref C :: rest,kw⟩)).units = A.units + 1:=by
 first | rfl | simp [Around.under,Code.cUnits,Code.frames,Code.isFrame]
theorem oZ (Γ : Gl K B p loose mg mb) {C f : Addr} {F : List ae → Mo ae} (hm : makesIn K C = true) (hi : findIn K (.ref C) "__init__" = some (some (.ref f))) (hf : typeIn K (.ref f) = some (.type "function"))
  (hc : cu prog w B b (.ref f) F) : cu prog w B (b + 1) (.ref C) (gQ C F):=by
 intro A s G M xs as r M' R Co rs e Rs h
 have X:=Co.inK Γ
 unfold gQ at e
 split at e
 ·rename_i e1
  cases e
  obtain ⟨hh,g,d,t,os⟩:=s
  refine make_core (makes_of X hm) (looks_findIn X hi) (fun self=>bind_fn X self hf) (.inl rfl) ?_
  let G1 : Gh:={ tag:=((G.put hh.objs.size (.mut G.ρ.length)).put (hh.objs.size + 1) (.mut G.ρ.length)).tag,ρ:=G.ρ ++ [hh.objs.size + 1] }
  have s1 : (hh.push emptyDict).objs.size = hh.objs.size + 1:=Heap.size_push ..
  have gr : ml hh G ((hh.push emptyDict).push (instObj C hh.objs.size)) G1:=by
   refine ⟨fun a k=>?_,List.prefix_append _ _,by rw [Heap.size_push,s1]; exact Hk,fun a=>?_⟩
   ·have n1 : a ≠ hh.objs.size:=fun q=>k (q ▸ Co.free)
    have n2 : a ≠ hh.objs.size + 1:=fun q=>k (Co.freeAt (by rw [q]; exact Nat.le_succ _))
    exact ⟨by show ((G.put _ _).put _ _).tag a = _; rw [Gh.put_ne _ _ n2,Gh.put_ne _ _ n1],fun o e=>Heap.get?_push_of_some _ (Heap.get?_push_of_some _ e)⟩
   ·by_cases q2 : a = hh.objs.size + 1
    ·subst q2; exact .inr ⟨_,by rw [← s1]; exact Heap.get?_push_size _ rfl⟩
    ·by_cases q1 : a = hh.objs.size
     ·subst q1; exact .inr ⟨_,Heap.get?_push_of_some _ (Heap.get?_push_size _ rfl)⟩
     ·show ((G.put _ _).put _ _).tag a = _ ∨ _
      rw [Gh.put_ne _ _ q2,Gh.put_ne _ _ q1]
      exact (Co.live a).imp id fun ⟨o,e⟩=>⟨o,Heap.get?_push_of_some _ (Heap.get?_push_of_some _ e)⟩
  have hr : G1.ρ[M.length]? = some (hh.objs.size + 1):=by
   show (G.ρ ++ [_])[M.length]? = _
   rw [← Co.len]; simp
  have C1 : bJ prog w B ((hh.push emptyDict).push (instObj C hh.objs.size)) G1 (M ++ [.inst C []]):=by
   refine Co.growM gr (by show (G.ρ ++ [_]).length = _; rw [List.length_append,Co.len]; rfl) ⟨hh.objs.size + 1,hh.objs.size,[],0,hr,?_,?_,?_,?_,.nil⟩
   ·show ((G.put _ _).put _ _).tag _ = _; rw [Gh.put_same,Co.len]
   ·show ((G.put _ _).put _ _).tag _ = _; rw [Gh.put_ne _ _ (Nat.ne_of_lt (Nat.lt_succ_self _)),Gh.put_same,Co.len]
   ·rw [← s1]; exact Heap.get?_push_size _ rfl
   ·exact Heap.get?_push_of_some _ (Heap.get?_push_size _ rfl)
  refine hc (A.under _) ⟨_,g,d,t,os⟩ G1 _ _ _ _ _ ⟨R.hd,?_,?_⟩ C1 (.cons (.mref hr) (rs.mono gr.ext.solid)) e1 _ fun h' tk' G' x C' X' r'=>?_
  ·rw [lm]; exact Nat.lt_of_le_of_lt (Nat.le_of_eq (Nat.succ_add _ _)) R.dp
  ·rw [lp]; exact Nat.lt_of_le_of_lt (Nat.le_trans (Nat.le_of_eq (Nat.add_right_comm _ _ _)) (Nat.add_le_add_left (show 1 ≤ 8 by decide) _)) R.un
  ·cases r'
   exact ⟨rfl,h h' tk' G' _ C' (gr.ext.trans X') (.mref (em X'.ρ hr))⟩
 ·cases e
end
end Mine
end
section
namespace Mine
section
variable {prog : Program} {w : World} {B : Heap} {b : Nat} {sg : Sg}
theorem bJ.same {A : Around} {t : Sem Value} {s : Shared} {G : Gh} {M : List ah} {r : ae} (C : bJ prog w B s.heap G M) {v : Value} {tk : Nat}
  (k : ∀ (Q E : Value → Shared → Prop),Q v { s with toks:=tk } → wpAny (model prog w) A t Q E s) (hv : bO s.heap G v r) : gK prog w B A t s G r M:=by
 intro Q E h
 exact k Q E (h s.heap tk G v C (Ext.refl _ _) hv)
noncomputable def i2i (f : Int → Int → Int) (ok : Int → Int → Bool) : ae → ae → Mo ae
 | .int a,.int c=>if ok a c then ret (.int (f a c)) else dK
 | _,_=>dK
noncomputable def i2b (f : Int → Int → Bool) : ae → ae → Mo ae
 | .int a,.int c=>ret (.bool (f a c))
 | _,_=>dK
theorem gF {α : Type} {a r : α} {M M' : List ah} (e : ret a M = some (r,M')) : r = a ∧ M' = M:=by cases e; exact ⟨rfl,rfl⟩
theorem iW {t : Value → Value → Sem Value} {f : Int → Int → Int} {ok : Int → Int → Bool}
  (k : ∀ (A : Around) (s : Shared) (a c : Int) (u v : Tok) (Q E : Value → Shared → Prop),ok a c = true → Q (.int (f a c) s.toks) { s with toks:=s.toks + 1 } → wpAny (model prog w) A (t (.int a u) (.int c v)) Q E s) : cG prog w B b t (i2i f ok):=by
 intro A s G M x y a c r M' R C hx hy e
 unfold i2i at e
 split at e
 ·cases hx; cases hy
  split at e
  ·rename_i hok
   obtain ⟨rfl,rfl⟩:=gF e
   exact C.same (fun Q E h=>k A s _ _ _ _ Q E hok h) (.int ..)
  ·cases e
 ·cases e
theorem x4 {t : Value → Value → Sem Value} {f : Int → Int → Bool}
  (k : ∀ (A : Around) (s : Shared) (a c : Int) (u v : Tok) (Q E : Value → Shared → Prop),Q (.bool (f a c)) s → wpAny (model prog w) A (t (.int a u) (.int c v)) Q E s) : cG prog w B b t (i2b f):=by
 intro A s G M x y a c r M' R C hx hy e
 unfold i2b at e
 split at e
 ·cases hx; cases hy
  obtain ⟨rfl,rfl⟩:=gF e
  exact C.same (tk:=s.toks) (fun Q E h=>k A s _ _ _ _ Q E h) (.bool ..)
 ·cases e
noncomputable def sV : Int → Int → Bool:=fun _ _=>true
noncomputable def fit (c : Int) : Bool:=decide (c.natAbs < 1073741824)
noncomputable def eF:=i2i (· + ·) sV
theorem fK : cG prog w B b (binaryOp .Add) eF:=iW fun A s a c u v Q E _ h=>P.add_int h
theorem zE : cG prog w B b (inplaceOp .Add) eF:=iW fun A s a c u v Q E _ h=>P.iadd_int h
noncomputable def kN:=i2i (· - ·) sV
theorem xJ : cG prog w B b (binaryOp .Sub) kN:=iW fun A s a c u v Q E _ h=>P.sub_int h
theorem Dj : cG prog w B b (inplaceOp .Sub) kN:=iW fun A s a c u v Q E _ h=>P.isub_int h
noncomputable def lk:=i2i (· * ·) fun a _=>fit a
theorem xP : cG prog w B b (binaryOp .Mult) lk:=iW fun A s a c u v Q E hok h=>P.mul_int h (IntMulOk.of_left (PyProof.Rows.intBits_le (Nat.lt_trans (of_decide_eq_true hok) (by decide))))
noncomputable def qY:=i2i Int.fdiv fun _ c=>decide (c ≠ 0) && fit c
theorem B0 : cG prog w B b (binaryOp .FloorDiv) qY:=iW fun A s a c u v Q E hok h=>by
 rw [Bool.and_eq_true] at hok
 exact PyProof.Rows.floordiv_int (of_decide_eq_true hok.1) h (.inl (PyProof.noPylong_small (of_decide_eq_true hok.2)))
noncomputable def tG:=i2i Int.fmod fun _ c=>decide (c ≠ 0)
theorem Bz : cG prog w B b (binaryOp .Mod) tG:=iW fun A s a c u v Q E hok h=>PyProof.Rows.mod_int' (of_decide_eq_true hok) h
noncomputable def mx:=i2i Builtin.bitAnd sV
theorem yp : cG prog w B b (binaryOp .BitAnd) mx:=iW fun A s a c u v Q E _ h=>PyProof.Rows.and_int h
noncomputable def oOr:=i2i Builtin.bitOr sV
theorem HE : cG prog w B b (binaryOp .BitOr) oOr:=iW fun A s a c u v Q E _ h=>PyProof.Rows.or_int h
noncomputable def Bd:=i2i (fun a n=>a * 2 ^ n.toNat) fun a n=>decide (0 ≤ n) && decide (n ≤ 1000000) && fit a
theorem Fd : cG prog w B b (binaryOp .LShift) Bd:=iW fun A s a c u v Q E hok h=>by
 rw [Bool.and_eq_true,Bool.and_eq_true] at hok
 have h3:=of_decide_eq_true hok.2
 exact PyProof.Rows.lshift_int_small (of_decide_eq_true hok.1.1) (of_decide_eq_true hok.1.2) (Nat.lt_trans h3 (by decide)) h
noncomputable def zY:=i2i (fun a n=>a.fdiv (2 ^ n.toNat)) fun _ n=>decide (0 ≤ n)
theorem Em : cG prog w B b (binaryOp .RShift) zY:=iW fun A s a c u v Q E hok h=>PyProof.Rows.rshift_int (of_decide_eq_true hok) h
noncomputable def oLt:=i2b fun a c=>decide (a < c)
theorem DF : cG prog w B b (compareOp .Lt) oLt:=x4 fun A s a c u v Q E h=>P.lt_int h
noncomputable def oGt:=i2b fun a c=>decide (a > c)
theorem DB : cG prog w B b (compareOp .Gt) oGt:=x4 fun A s a c u v Q E h=>P.gt_int h
noncomputable def oGe:=i2b fun a c=>decide (a ≥ c)
theorem CD : cG prog w B b (compareOp .GtE) oGe:=x4 fun A s a c u v Q E h=>P.ge_int h
noncomputable def wR : ae → Mo ae
 | .int a=>ret (.int (-a))
 | _=>dK
theorem wh : pE prog w B b (unaryOp .USub) wR:=by
 intro A s G M x a r M' R C hx e
 unfold wR at e
 split at e
 ·cases hx
  obtain ⟨rfl,rfl⟩:=gF e
  exact C.same (fun Q E h=>P.neg_int h) (.int ..)
 ·cases e
noncomputable def eu : ae → Bool
 | .none=>true
 | _=>false
theorem bO.beq_none {h : Heap} {G : Gh} {x : Value} {a : ae} (r : bO h G x a) : (x == Value.none) = eu a:=by
 cases r <;> rfl
noncomputable def oIs : ae → ae → Mo ae
 | a,.none=>ret (.bool (eu a))
 | _,_=>dK
noncomputable def iA : ae → ae → Mo ae
 | a,.none=>ret (.bool (!eu a))
 | _,_=>dK
theorem mY : cG prog w B b (compareOp .IsNot) iA:=by
 intro A s G M x y a c r M' R C hx hy e
 unfold iA at e
 split at e
 ·cases hy
  obtain ⟨rfl,rfl⟩:=gF e
  exact C.same (tk:=s.toks) (fun Q E h=>isNot_none (by rw [hx.beq_none]; exact h)) (.bool ..)
 ·cases e
end
end Mine
end
section
namespace Mine
section
variable {prog : Program} {w : World} {B : Heap} {b : Nat} {sg : Sg}
noncomputable def cz (a : ae) (M : List ah) : Option (List ae):=match a with
 | .lst vs=>some vs
 | .mref i=>(match M[i]? with
  | some (.lst vs)=>some vs
  | _=>none)
 | _=>none
theorem fN {h : Heap} {G : Gh} {M : List ah} {v : Value} {a : ae} {vs : List ae} (c : bJ prog w B h G M) (r : bO h G v a) (e : cz a M = some vs) :
  ∃ x items,v = .ref x ∧ h.IsList x (List.toArray items) ∧ bf h G items vs:=by
 cases r with
 | @mref i ad r=>
  unfold cz at e
  dsimp only at e
  split at e
  ·rename_i hm
   cases e
   obtain ⟨x,items,n,r',t,o,q⟩:=c.muts i _ hm
   rw [r] at r'; cases r'
   exact ⟨_,items,rfl,⟨_,o,rfl,n,rfl⟩,q⟩
  ·cases e
 | @lst ad items vs' k p rs=>cases e; exact ⟨_,items,rfl,p,rs⟩
 | _=>cases e
noncomputable def bW (n : Nat) : Bool:=decide (n ≤ 1000000)
theorem b8 {n : Nat} (h : bW n = true) : n ≤ sizeLine:=by rw [sizeLine_eq]; exact Nat.le_trans (of_decide_eq_true h) (by decide)
noncomputable def tz (vs : List ae) : Mo ae:=fun M=>some (.mref M.length,M ++ [.lst vs])
theorem dO {vs : List ae} {M M' : List ah} {r : ae} (e : tz vs M = some (r,M')) : r = .mref M.length ∧ M' = M ++ [.lst vs]:=by cases e; exact ⟨rfl,rfl⟩
theorem bJ.newList_val {h : Heap} {G : Gh} {M : List ah} (c : bJ prog w B h G M) : bO (h.push o) (G.add h.objs.size) (.ref h.objs.size) (.mref M.length):=.mref (by rw [← c.len]; exact G.add_ρ _)
noncomputable def fi : List ae → Mo ae
 | [a]=>fun M=>match cz a M with
  | some vs=>if bW vs.length then some (.int vs.length,M) else none
  | none=>none
 | _=>dK
theorem gG : il prog w B b (.builtin "len") fi:=by
 intro A s G M xs as r M' R C rs e
 unfold fi at e
 split at e
 ·cases rs with
  | cons r1 r2=>
   cases r2
   split at e
   ·rename_i hv
    split at e
    ·rename_i hs
     cases e
     obtain ⟨x,items,rfl,hl,q⟩:=fN C r1 hv
     have e1:=(List.size_toArray (as:=items)).trans q.length
     intro Q E h
     refine call_len_list hl ?_ ?_
     ·rw [e1]; exact Int.lt_of_le_of_lt (Int.ofNat_le.mpr (of_decide_eq_true hs)) (by decide)
     ·rw [e1]; exact h s.heap _ G _ C (Ext.refl _ _) (.int ..)
    ·cases e
   ·cases e
 ·cases e
theorem iY {items : List Value} {i : Nat} {x : Value} (e : items[i]? = some x) : (List.toArray items)[i]? = some x:=by simpa using e
noncomputable def pv (k : Int) (n : Nat) : Option Nat:=if 0 ≤ k then some k.toNat else if -(n : Int) ≤ k then some (k + n).toNat else none
noncomputable def aV (a k : ae) : Mo ae:=fun M=>match a,k with
 | .str x,.int i=>(match (seqIndex? i x.length).bind (x.cps[·]?) with
  | some c=>if decide (-1000000 ≤ i) && decide (i ≤ 1000000) then some (.str ⟨#[c]⟩,M) else none
  | none=>none)
 | .mref j,.int i=>(match M[j]? with
  | some (.lst vs)=>if decide (-1000000 ≤ i) && decide (i ≤ 1000000) then (match (pv i vs.length).bind (vs[·]?) with
   | some v=>some (v,M)
   | none=>none) else none
  | some (.idict kvs)=>(match kvs.lookup i with
   | some v=>some (v,M)
   | none=>none)
  | _=>none)
 | .mref j,.str x=>(match M[j]? with
  | some (.sdict kvs)=>(match kvs.lookup x with
   | some v=>some (v,M)
   | none=>none)
  | _=>none)
 | .lst vs,.int i=>if decide (-1000000 ≤ i) && decide (i ≤ 1000000) then (match (pv i vs.length).bind (vs[·]?) with
   | some v=>some (v,M)
   | none=>none) else none
 | _,_=>none
theorem pj {A : Around} {s : Shared} {G : Gh} {x : Addr} {items : List Value} {vs : List ae} {i : Int} {u : Tok} {v : ae} (hl : s.heap.IsList x (List.toArray items)) (q : bf s.heap G items vs)
  (hb : (decide (-1000000 ≤ i) && decide (i ≤ 1000000)) = true) (e : (pv i vs.length).bind (vs[·]?) = some v) : ∃ y,bO s.heap G y v ∧ ∀ (Q E : Value → Shared → Prop),Q y s → wpAny (model prog w) A (getItem (.ref x) (.int i u)) Q E s:=by
 rw [Bool.and_eq_true] at hb
 have h1:=of_decide_eq_true hb.1
 have h2:=of_decide_eq_true hb.2
 rw [Option.bind_eq_some_iff] at e
 obtain ⟨n,e1,e2⟩:=e
 obtain ⟨y,hy,r⟩:=q.get e2
 have hlen:=q.length
 unfold pv at e1
 split at e1
 ·cases e1
  exact ⟨y,r,fun Q E h=>wpAny_getItem_list hl (by assumption) (Int.lt_of_le_of_lt h2 (by decide)) (iY hy) h⟩
 ·split at e1
  ·cases e1
   have e3 : (List.toArray items).size = vs.length:=by simp [hlen]
   exact ⟨y,r,fun Q E h=>wpAny_getItem_list_neg hl (Hl h1 h2 (by assumption)) (by rw [e3]; assumption) (Int.le_trans (by decide) h1) (by rw [e3]; exact iY hy) h⟩
  ·cases e1
theorem eY {K : Type} [DecidableEq K] {h : Heap} {G : Gh} {ps : List (K × Value)} {kvs : List (K × ae)} (r : dR h G ps kvs) (k : K) :
  (∀ a,kvs.lookup k = some a → ∃ v,valueAt ps k = some v ∧ bO h G v a) ∧ (kvs.lookup k = none → valueAt ps k = none):=by
 induction r with
 | nil=>exact ⟨fun a e=>(nomatch e),fun _=>rfl⟩
 | @cons k' v a vs as r rs ih=>
  by_cases hk : k' = k
  ·subst hk
   have e1 : valueAt ((k',v) :: vs) k' = some v:=by simp [valueAt]
   refine ⟨fun b e=>?_,fun e=>?_⟩
   ·rw [List.lookup_cons_self] at e; cases e; exact ⟨v,e1,r⟩
   ·rw [List.lookup_cons_self] at e; cases e
  ·have e1 : valueAt ((k',v) :: vs) k = valueAt vs k:=by simp [valueAt,hk]
   have e2 : ((k',a) :: as).lookup k = as.lookup k:=by
    have : (k == k') = false:=by simpa using fun e=>hk e.symm
    rw [List.lookup_cons,this]
   rw [e1,e2]
   exact ih
theorem uT : cG prog w B b getItem aV:=by
 intro A s G M x y a k r M' R C hx hy e
 unfold aV at e
 split at e
 ·split at e
  ·rename_i hc
   split at e
   ·rename_i hb
    cases e
    cases hx; cases hy
    rw [Bool.and_eq_true] at hb
    have h1:=of_decide_eq_true hb.1
    have h2:=of_decide_eq_true hb.2
    refine C.same (fun Q E h=>P.getItem_str ?_ hc h) (.str ..)
    simp only [Bool.or_eq_false_iff,decide_eq_false_iff_not]
    exact ⟨Int.not_lt.mpr (Int.le_trans (by decide) h1),Int.not_le.mpr (Int.lt_of_le_of_lt h2 (by decide))⟩
   ·cases e
  ·cases e
 ·split at e
  ·rename_i hm
   split at e
   ·rename_i hb
    split at e
    ·rename_i hv
     cases e
     obtain ⟨ad,items,rfl,hl,q⟩:=fN C hx (by unfold cz; dsimp only; rw [hm])
     cases hy
     obtain ⟨z,rz,k⟩:=pj (A:=A) (prog:=prog) (w:=w) hl q hb hv
     exact C.same (tk:=s.toks) k rz
    ·cases e
   ·cases e
  ·rename_i hm
   split at e
   ·rename_i hv
    cases e
    cases hx with
    | @mref _ ad r=>
     obtain ⟨ad',ps,r',t,hd,q⟩:=C.muts j _ hm
     rw [r] at r'; cases r'
     obtain ⟨z,hz,rz⟩:=(eY q i).1 _ hv
     cases hy
     exact C.same (fun Q E h=>wpAny_getItem_of (intKind_is prog w i _) hd.mapOf hz h) rz
   ·cases e
  ·cases e
 ·split at e
  ·rename_i hm
   split at e
   ·rename_i hv
    cases e
    cases hx with
    | @mref _ ad r=>
     obtain ⟨ad',ps,r',t,hd,q⟩:=C.muts j _ hm
     rw [r] at r'; cases r'
     obtain ⟨z,hz,rz⟩:=(eY q x_1).1 _ hv
     cases hy
     exact C.same (fun Q E h=>wpAny_getItem_of (strKind_is prog w x_1 _) hd.mapOf hz h) rz
   ·cases e
  ·cases e
 ·split at e
  ·rename_i hb
   split at e
   ·rename_i hv
    cases e
    cases hx with
    | lst kk hl q=>
     cases hy
     obtain ⟨z,rz,k⟩:=pj (A:=A) (prog:=prog) (w:=w) hl q hb hv
     exact C.same (tk:=s.toks) k rz
   ·cases e
  ·cases e
 ·cases e
theorem gH {A : Around} {s : Shared} {E : Value → Shared → Prop} {value slice : Expr} {o i : Value} {ops : List Value} {T id : String} {Q : Value → Shared → Prop} (hT : s.TypeIs o T)
  (hl : typeLookup (.type T) "__getitem__" = pure (some (.builtin id))) (h : wpAny (model prog w) A (getItem o i) Q E s)
  (hs : subscripted slice false o i = operate ops (getItem o i)) :
  wpAny (model prog w) A (subscriptTail value slice o i) Q E s:=by
 unfold subscriptTail
 refine wpAny_bind ?_
 rw [getitemInPython_of_ne hT.not_modules]
 refine wpAny_bind (wpAny_specialOf hT hl ?_)
 have fin : wpAny (model prog w) A (subscripted slice false o i) (fun r s₃=>wpAny (model prog w) A (letTemporaryGo value o r >>= fun _=>pure r) Q E s₃) E s:=by
  rw [hs]
  exact wpAny_operating (wpAny_mono h (fun r s₃ h₃=>wpAny_bind (wpAny_letTemporaryGo (wpAny_pure h₃))) fun _ _ x=>x)
 first
  | exact wpAny_pure (wpAny_bind fin)
  | exact wpAny_bind (wpAny_pure (wpAny_bind fin))
  | exact wpAny_bind fin
theorem aI {el er : Expr} (hs : ∀ o i,subscripted er false o i = operate [o,i] (getItem o i):=by intro _ _; rfl) : cG prog w B b (subscriptTail el er) aV:=by
 intro A s G M x y a k r M' R C hx hy e Q E h
 have hg:=uT A s G M x y a k r M' R C hx hy e Q E h
 unfold aV at e
 split at e
 ·cases hx
  exact gH (typeIs_str s _ _) PySem.F.slot_str_getitem.lookup hg (hs _ _)
 ·cases hx with
  | @mref _ ad r=>
   split at e
   ·rename_i hm
    obtain ⟨ad',items,n,r',t,o,q⟩:=C.muts j _ hm
    rw [r] at r'; cases r'
    exact gH (T := "list") ⟨_,o,rfl⟩ slot_list_getitem.lookup hg (hs _ _)
   ·rename_i hm
    obtain ⟨ad',ps,r',t,hd,q⟩:=C.muts j _ hm
    rw [r] at r'; cases r'
    exact gH hd.typeIs slot_dict_getitem.lookup hg (hs _ _)
   ·cases e
 ·cases hx with
  | @mref _ ad r=>
   split at e
   ·rename_i hm
    obtain ⟨ad',ps,r',t,hd,q⟩:=C.muts j _ hm
    rw [r] at r'; cases r'
    exact gH hd.typeIs slot_dict_getitem.lookup hg (hs _ _)
   ·cases e
 ·cases hx with
  | lst kk hl q=>exact gH hl.typeIs slot_list_getitem.lookup hg (hs _ _)
 ·cases e
end
end Mine
end
section
namespace Mine
section
variable {prog : Program} {w : World} {B : Heap} {b : Nat} {sg : Sg} {K : Frag} {p : Program} {loose : List Str} {mg mb : Str → Option Value}
noncomputable def cL : List Addr:=[32,60,116,219,240,276]
noncomputable def BS (K : Frag) (C : Addr) (x : Str) : Bool:=plainGet K C x && hasDictIn K C && (match findIn K (.ref C) x with
 | some attr=>noGet K attr
 | none=>false)
noncomputable def B1 (K : Frag) (C : Addr) (x : Str) : Bool:=decide (findIn K (.ref C) "__setattr__" = some (some (.builtin "object.__setattr__"))) && plainOver K C && (decide (takerIn K C x = some none)) && (clsIn K C).any (·.hasDict)
noncomputable def cJ (K : Frag) (x : Str) : Bool:=cL.all fun C=>BS K C x
noncomputable def bA (K : Frag) (x : Str) : Bool:=cL.all fun C=>B1 K C x
noncomputable def Gg (v : Value) : Prop:=handedIn v = true
theorem bO.handed {h : Heap} {G : Gh} {x : Value} {a : ae} (r : bO h G x a) : handedIn x = true:=by cases r <;> rfl
noncomputable def aK (x : Str) (a : ae) : Mo ae:=fun M=>match nm a M with
 | some (C,fs)=>if cL.contains C then (match mq x fs with
  | some v=>some (v,M)
  | none=>none) else none
 | none=>none
theorem vJ {C : Addr} (h : cL.contains C = true) : C ∈ cL:=by simpa using h
theorem aQ (Γ : Gl K B p loose mg mb) {x : Str} (hx : cJ K x = true) : pE prog w B b (fun v=>getAttr v x true) (aK x):=by
 intro A s G M y a r M' R C hy e
 unfold aK at e
 split at e
 ·rename_i hD
  split at e
  ·rename_i hown
   split at e
   ·rename_i hv
    cases e
    obtain ⟨xa,dx,es,n,rfl,o1,o2,q⟩:=vg C hy hD
    obtain ⟨z,hz,rz⟩:=(mC (x:=x) q).1 _ hv
    have ok:=List.all_eq_true.mp hx _ (vJ hown)
    unfold BS at ok
    rw [Bool.and_eq_true,Bool.and_eq_true] at ok
    obtain ⟨⟨k1,k2⟩,k3⟩:=ok
    split at k3
    ·rename_i hattr
     exact C.same (fun Q E h=>get_value (C.inK Γ) ⟨o1,rfl,rfl,o2⟩ (plainGet_of k1).1 (findObj_own (od:=dictOf es n) k2 hattr k3 hz) rz.handed h) rz
    ·cases k3
   ·cases e
  ·cases e
 ·cases e
theorem yk {A : Around} {s : Shared} {R : Result → Shared → Prop} {x dx C : Addr} {ox od : Obj} {name : Str} {tk : Tok} {v : Value} {es : List DictEntry} {n : Nat} (X : K.In s.heap) (I : InstAt s.heap x ox C (some od)) (hd : ox.dict = some dx) (hp : plainOver K C = true) (ht : takerIn K C name = some none) (hh : (clsIn K C).any (·.hasDict) = true)
  (hl : (lookIn name od).isSome = true) (D : s.heap.get? dx = some od)
  (e' : (Obj.putName name (PyData.keyHash w.params name) (.str name s.toks) v od) = dictOf es n) (hz : es.length ≤ 1000)
  (h : R (.ok (.ret .none)) { s with heap:=s.heap.update dx (Obj.putName name (PyData.keyHash w.params name) (.str name s.toks) v),toks:=s.toks + 1 }) :
  codeAny (model prog w) A (.call (.builtin "object.__setattr__") ⟨[.ref x,.str name tk,v],[]⟩) R s:=by
 refine osa_open X I hp ht fun b=>?_
 obtain ⟨cd,hc,hd'⟩:=any_some hh
 have D' : (s.heap.update dx (Obj.putName name (PyData.keyHash w.params name) (.str name s.toks) v)).get? dx = some (dictOf es n):=e' ▸ Heap.get?_update_self _ D (e' ▸ rfl)
 obtain ⟨hx,hcl,hn,-⟩:=I
 obtain ⟨oc,odi,oda,osl⟩:=ox
 dsimp only at hcl hd
 subst hcl hd
 refine wpAny_bind (wpAny_pure (wpAny_bind (wpAny_bind (wpAny_loadPart hx (wpAny_bind ((looks_clsIn X hc).here ?_))))))
 rw [hd']
 refine wpAny_pure (a:=some dx) (wpAny_bind (wpAny_pure (wpAny_bind ?_)))
 unfold nsSet
 refine wpAny_bind (wpAny_bind (wpAny_askSetting (wpAny_pure (wpAny_bind (wpAny_mkText (wpAny_bind (wpAny_loadPart D ?_)))))))
 unfold lookIn at hl
 split at hl
 ·rename_i q
  rw [q]
  dsimp only
  have c : (!es_1.any (·.key.isStr name) && es_1.any (·.refKey)) = false:=by
   rw [← Array.any_toList,← Array.any_toList]
   split at hl
   ·rename_i he
    rw [List.any_eq_true.mpr ⟨e,List.mem_of_find?_eq_some he,List.find?_some he⟩]; rfl
   ·split at hl
    ·cases hl
    ·rename_i z; rw [Bool.not_eq_true] at z; rw [z,Bool.and_false]
  rw [aRefKeyMayBeTheName_at,c]
  refine wpAny_updatePart D ?_
  refine wpAny_bind (wpAny_lookBehind D' (pastItsLine_dict (by rw [List.size_toArray,sizeLine_eq]; exact H8 hz)) ?_)
  exact wpAny_pure h
 ·cases hl
noncomputable def jG (x : Str) (v : ae) : List (Str × ae) → List (Str × ae)
 | []=>[(x,v)]
 | (k,a) :: r=>if k == x then (k,v) :: r else (k,a) :: jG x v r
theorem lW (x : Str) (v : ae) : ∀ fs,(jG x v fs).length ≤ fs.length + 1
 | []=>Nat.le_refl _
 | (k,a) :: r=>by
  unfold jG
  split
  ·simp
  ·simp; exact lW x v r
theorem dm.length {h : Heap} {G : Gh} : ∀ {es : List DictEntry} {fs : List (Str × ae)},dm h G es fs → es.length = fs.length
 | _,_,.nil=>rfl
 | _,_,.cons _ rs=>by simp [rs.length]
theorem dm.put {h : Heap} {G : Gh} {x : Str} {hsh : Int} {t : Tok} {v : Value} {a : ae} (r : bO h G v a) : ∀ {es : List DictEntry} {fs : List (Str × ae)},dm h G es fs → dm h G (putL x hsh (.str x t) v es) (jG x a fs)
 | _,_,.nil=>.cons r .nil
 | _,_,.cons (hs:=hs) (k:=k) (t:=u) (v:=v') (a:=a') (es:=es) (fs:=fs) q rs=>by
  unfold putL jG
  by_cases hk : (k == x) = true
  ·have e1 : (⟨hs,.str k u,v'⟩ : DictEntry).key.isStr x = true:=hk
   rw [if_pos e1,if_pos hk]
   exact .cons r rs
  ·have hk' : ¬ (⟨hs,.str k u,v'⟩ : DictEntry).key.isStr x = true:=hk
   rw [if_neg hk',if_neg hk]
   exact .cons q (rs.put r)
theorem dm.getL_isSome {h : Heap} {G : Gh} {x : Str} {es : List DictEntry} {fs : List (Str × ae)} (r : dm h G es fs) : (getL x es).isSome = true:=by
 cases hf : mq x fs with
 | none=>rw [(mC r).2 hf]; rfl
 | some a=>obtain ⟨v,e,_⟩:=(mC r).1 a hf; rw [e]; rfl
noncomputable def bR (x : Str) (a v : ae) : Mo Unit:=fun M=>match a with
 | .mref i=>(match M[i]? with
  | some (.inst C fs)=>if cL.contains C && decide (fs.length ≤ 900) then some ((),M.set i (.inst C (jG x v fs))) else none
  | _=>none)
 | _=>none
theorem bm (Γ : Gl K B p loose mg mb) {x : Str} (hx : bA K x = true) : zh prog w B b (fun ov v=>setAttr ov x v) (bR x):=by
 intro A s G M y z a c M' R C hy hz e Q E h
 unfold bR at e
 split at e
 ·split at e
  ·rename_i hm
   split at e
   ·rename_i hown
    cases e
    rw [Bool.and_eq_true] at hown
    have hlen:=of_decide_eq_true hown.2
    cases hy with
    | @mref _ ad r=>
     obtain ⟨xa,dx,es,n,r',t1,t2,o1,o2,q⟩:=C.muts i _ hm
     rw [r] at r'; cases r'
     have ok:=List.all_eq_true.mp hx _ (vJ hown.1)
     unfold B1 at ok
     rw [Bool.and_eq_true,Bool.and_eq_true,Bool.and_eq_true] at ok
     obtain ⟨⟨⟨k1,k2⟩,k3⟩,k4⟩:=ok
     have I : InstAt s.heap ad (instObj _ dx) _ (some (dictOf es n)):=⟨o1,rfl,rfl,o2⟩
     refine set_plain (C.inK Γ) I (of_decide_eq_true k1) ?_
     have hl:=q.length
     have e':=putName_dict x (PyData.keyHash w.params x) (.str x (s.toks + 1)) z es n
     refine yk (s:={ s with toks:=s.toks + 1 }) (C.inK Γ) I rfl k2 (of_decide_eq_true k3) k4 q.getL_isSome o2 e' ?_ ?_
     ·exact Nat.le_trans (Nat.le_trans (Nat.le_of_eq (dm.put (hsh:=PyData.keyHash w.params x) (t:=s.toks + 1) (x:=x) hz q).length) (lW x _ _)) (Nat.le_trans (Nat.succ_le_succ hlen) (by decide))
     ·have SB : Heap.SameBut dx s.heap (s.heap.update dx (Obj.putName x (PyData.keyHash w.params x) (.str x (s.toks + 1)) z)):=Heap.SameBut.update ..
      have og:=Heap.get?_update_self (Obj.putName x (PyData.keyHash w.params x) (.str x (s.toks + 1)) z) o2 (by rw [e']; rfl)
      rw [e'] at og
      have ne : ad ≠ dx:=fun e=>by rw [e,o2] at o1; cases o1
      have sol:=f8 t2 SB
      refine h _ _ G (C.turn t2 SB ⟨_,og⟩ ⟨ad,dx,_,_,r,t1,t2,?_,og,(q.mono sol).put (hz.mono sol)⟩) (fx t2 SB)
      exact (SB.2 ad ne).trans o1
   ·cases e
  ·cases e
 ·cases e
noncomputable def jE {K : Type} [DecidableEq K] (kvs : List (K × ae)) (k : K) (v : ae) : List (K × ae):=
 if kvs.any (fun kv=>kv.1 = k) then kvs.map (fun kv=>if kv.1 = k then (kv.1,v) else kv) else kvs ++ [(k,v)]
theorem dR.stored {K : Type} [DecidableEq K] {h : Heap} {G : Gh} {k : K} {v : Value} {a : ae} (r : bO h G v a) {ps : List (K × Value)} {kvs : List (K × ae)} (rs : dR h G ps kvs) : dR h G (PySem.stored ps k v) (jE kvs k a):=by
 have e1 : ps.any (fun kv=>kv.1 = k) = kvs.any (fun kv=>kv.1 = k):=by
  induction rs with
  | nil=>rfl
  | cons q rs ih=>simp only [List.any_cons,ih]
 unfold PySem.stored jE
 rw [e1]
 split
 ·clear e1
  rename_i hany
  clear hany
  induction rs with
  | nil=>exact .nil
  | @cons k' v' a' vs as q rs ih=>
   rw [List.map_cons,List.map_cons]
   by_cases hk : k' = k
   ·rw [if_pos hk,if_pos hk]; exact .cons r ih
   ·rw [if_neg hk,if_neg hk]; exact .cons q ih
 ·clear e1
  rename_i hany
  clear hany
  induction rs with
  | nil=>exact .cons r .nil
  | cons q rs ih=>exact .cons q ih
theorem dR.length {K : Type} {h : Heap} {G : Gh} {ps : List (K × Value)} {kvs : List (K × ae)} (rs : dR h G ps kvs) : ps.length = kvs.length:=by
 induction rs with
 | nil=>rfl
 | cons q rs ih=>simp [ih]
noncomputable def fI (a k v : ae) : Mo Unit:=fun M=>match a,k with
 | .mref i,.int x=>(match M[i]? with
  | some (.idict kvs)=>if bW kvs.length then some ((),M.set i (.idict (jE kvs x v))) else none
  | _=>none)
 | .mref i,.str x=>(match M[i]? with
  | some (.sdict kvs)=>if bW kvs.length then some ((),M.set i (.sdict (jE kvs x v))) else none
  | _=>none)
 | _,_=>none
theorem iP {K : Type} [DecidableEq K] {knd : PySem.KeyKind prog w K} {h : Heap} {a : Addr} {kvs : List (K × Value)} (d : h.DictOf knd a kvs) : ∃ o,h.get? a = some o:=let ⟨o,es,ep,e,r⟩:=d; ⟨o,e⟩
theorem lU : xX prog w B b setItem fI:=by
 intro A s G M x y z a k v M' R C hx hy hz e Q E h
 unfold fI at e
 split at e
 ·split at e
  ·rename_i hm
   split at e
   ·rename_i hs
    cases e
    cases hx with
    | @mref _ ad r=>
     obtain ⟨ad',ps,r',t,hd,q⟩:=C.muts i _ hm
     rw [r] at r'; cases r'
     cases hy
     refine wpAny_setItem_pairs (intKind_is prog w _ _) hd (fun h' hd' SB=>?_) (by rw [q.length]; exact b8 hs)
     have sol:=f8 t SB
     exact h h' _ G (C.turn t SB (iP hd') ⟨ad,_,r,t,hd',(q.mono sol).stored (hz.mono sol)⟩) (fx t SB)
   ·cases e
  ·cases e
 ·split at e
  ·rename_i hm
   split at e
   ·rename_i hs
    cases e
    cases hx with
    | @mref _ ad r=>
     obtain ⟨ad',ps,r',t,hd,q⟩:=C.muts i _ hm
     rw [r] at r'; cases r'
     cases hy
     refine wpAny_setItem_pairs (strKind_is prog w _ _) hd (fun h' hd' SB=>?_) (by rw [q.length]; exact b8 hs)
     have sol:=f8 t SB
     exact h h' _ G (C.turn t SB (iP hd') ⟨ad,_,r,t,hd',(q.mono sol).stored (hz.mono sol)⟩) (fx t SB)
   ·cases e
  ·cases e
 ·cases e
end
end Mine
end
section
namespace Mine
section
variable {prog : Program} {w : World} {B : Heap} {b : Nat} {sg : Sg}
theorem bJ.mlist {h : Heap} {G : Gh} {M : List ah} {x : Value} {i : Nat} {vs : List ae} (C : bJ prog w B h G M) (r : bO h G x (.mref i)) (hm : M[i]? = some (.lst vs)) :
  ∃ a items n,x = .ref a ∧ G.ρ[i]? = some a ∧ G.tag a = .mut i ∧ h.get? a = some (listOf (List.toArray items) n) ∧ bf h G items vs:=by
 cases r with
 | @mref _ ad r=>
  obtain ⟨a,items,n,r',t,o,q⟩:=C.muts i _ hm
  rw [r] at r'; cases r'
  exact ⟨_,items,n,rfl,r,t,o,q⟩
theorem bJ.turnList {h h' : Heap} {G : Gh} {M : List ah} {i : Nat} {a : Addr} {items : List Value} {vs : List ae} {n : Nat} (C : bJ prog w B h G M) (r : G.ρ[i]? = some a) (t : G.tag a = .mut i) (SB : Heap.SameBut a h h') (o : h'.get? a = some (listOf (List.toArray items) n)) (q : bf h G items vs) :
  bJ prog w B h' G (M.set i (.lst vs)):=C.turn t SB ⟨_,o⟩ ⟨a,items,n,r,t,o,q.mono (f8 t SB)⟩
noncomputable def be : List ae → Mo ae
 | [.mref i,v]=>fun M=>(match M[i]? with
  | some (.lst vs)=>if bW vs.length then some (.none,M.set i (.lst (vs ++ [v]))) else none
  | _=>none)
 | _=>dK
theorem cK : il prog w B b (.builtin "list.append") be:=by
 intro A s G M xs as r M' R C rs e Q E h
 unfold be at e
 split at e
 ·split at e
  ·rename_i hm
   split at e
   ·rename_i hs
    cases e
    cases rs with
    | cons r1 r2=>
     cases r2 with
     | cons r2 r3=>
      cases r3
      obtain ⟨a,items,n,rfl,ρ,t,o,q⟩:=C.mlist r1 hm
      refine append_at o (fun h' SB o'=>?_) (by rw [List.size_toArray,q.length]; exact b8 hs)
      have o2:=o'
      rw [List.push_toArray] at o2
      exact h h' s.toks G _ (C.turnList ρ t SB o2 (q.append (.cons r2 .nil))) (fx t SB) .none
   ·cases e
  ·cases e
 ·cases e
noncomputable def kP : List ae → Mo ae
 | [.mref i]=>fun M=>(match M[i]? with
  | some (.lst vs)=>if bW vs.length then (match vs.getLast? with
   | some v=>some (v,M.set i (.lst vs.dropLast))
   | none=>none) else none
  | _=>none)
 | _=>dK
theorem bf.take {h : Heap} {G : Gh} {v : List Value} {as : List ae} (n : Nat) (r : bf h G v as) : bf h G (v.take n) (as.take n):=
 bf.ind (P:=fun v a=>∀ n,bf h G (v.take n) (a.take n)) (fun n=>by rw [List.take_nil,List.take_nil]; exact .nil) (fun _ _ _ _ r _ ih n=>by
  cases n with
  | zero=>exact .nil
  | succ n=>exact .cons r (ih n)) r n
theorem bf.drop {h : Heap} {G : Gh} {v : List Value} {as : List ae} (n : Nat) (r : bf h G v as) : bf h G (v.drop n) (as.drop n):=
 bf.ind (P:=fun v a=>∀ n,bf h G (v.drop n) (a.drop n)) (fun n=>by rw [List.drop_nil,List.drop_nil]; exact .nil) (fun _ _ _ _ r rs ih n=>by
  cases n with
  | zero=>exact .cons r rs
  | succ n=>exact ih n) r n
theorem bf.reverse {h : Heap} {G : Gh} {v : List Value} {as : List ae} (r : bf h G v as) : bf h G v.reverse as.reverse:=
 bf.ind (P:=fun v a=>bf h G v.reverse a.reverse) .nil (fun _ _ _ _ r _ ih=>by rw [List.reverse_cons,List.reverse_cons]; exact ih.append (.cons r .nil)) r
theorem x6 : il prog w B b (.builtin "list.pop") kP:=by
 intro A s G M xs as r M' R C rs e Q E h
 unfold kP at e
 split at e
 ·split at e
  ·rename_i hm
   split at e
   ·rename_i hs
    split at e
    ·rename_i hv
     cases e
     cases rs with
     | cons r1 r2=>
      cases r2
      obtain ⟨a,items,n,rfl,ρ,t,o,q⟩:=C.mlist r1 hm
      have hlen:=q.length
      rw [List.getLast?_eq_getElem?] at hv
      obtain ⟨y,hy,ry⟩:=q.get hv
      have hlt:=(List.getElem?_eq_some_iff.mp hy).1
      refine call_meets F.slot_list_pop ⟨_,o,rfl⟩ F.entry_list_pop (F.args_list_pop_1 _) (MeetsSeq.list_pop_last a (List.toArray items) n y (by rw [List.size_toArray,hlen]; exact iY hy) (by rw [List.size_toArray,hlen]; exact b8 hs)) ⟨o,?_⟩
      have SB : Heap.SameBut a s.heap (s.heap.update a (Obj.mapSeq fun xs=>xs.eraseIdxIfInBounds ((List.toArray items).size - 1))):=Heap.SameBut.update ..
      have o2:=get?_update_seq o (fun xs=>xs.eraseIdxIfInBounds ((List.toArray items).size - 1))
      have e3 : (List.toArray items).eraseIdxIfInBounds ((List.toArray items).size - 1) = List.toArray (items.take (vs.length - 1)):=by
       rw [List.size_toArray,hlen]
       rw [Array.eraseIdxIfInBounds,dif_pos (by rw [List.size_toArray]; exact hlt)]
       rw [List.eraseIdx_toArray]
       congr 1
       rw [List.eraseIdx_eq_take_drop_succ,List.drop_of_length_le (JA hlen),List.append_nil]
      rw [e3] at o2
      refine h _ s.toks G y (C.turnList ρ t SB o2 ?_) (fx t SB) (ry.mono (f8 t SB))
      rw [List.dropLast_eq_take]
      exact q.take _
    ·cases e
   ·cases e
  ·cases e
 ·cases e
noncomputable def iM : List ae → Mo ae
 | [.mref i]=>fun M=>(match M[i]? with
  | some (.lst vs)=>if bW vs.length then some (.none,M.set i (.lst vs.reverse)) else none
  | _=>none)
 | _=>dK
theorem xb : il prog w B b (.builtin "list.reverse") iM:=by
 intro A s G M xs as r M' R C rs e Q E h
 unfold iM at e
 split at e
 ·split at e
  ·rename_i hm
   split at e
   ·rename_i hs
    cases e
    cases rs with
    | cons r1 r2=>
     cases r2
     obtain ⟨a,items,n,rfl,ρ,t,o,q⟩:=C.mlist r1 hm
     have hlen:=q.length
     refine call_meets F.slot_list_reverse ⟨_,o,rfl⟩ F.entry_list_reverse (F.args_list_reverse_1 _) (AutoSeq1.list_reverse_list_0 a (List.toArray items) n (by rw [List.size_toArray,hlen]; exact b8 hs)) ⟨o,?_⟩
     have SB : Heap.SameBut a s.heap (s.heap.update a (Obj.mapSeq fun x=>x.reverse)):=Heap.SameBut.update ..
     have o2:=get?_update_seq o (fun xs=>xs.reverse)
     rw [List.reverse_toArray] at o2
     exact h _ s.toks G _ (C.turnList ρ t SB o2 q.reverse) (fx t SB) .none
   ·cases e
  ·cases e
 ·cases e
noncomputable def eP : List ae → Mo ae
 | [.mref i,a]=>fun M=>(match M[i]? with
  | some (.lst vs)=>(match a with
   | .lst us=>if bW (vs.length + us.length) then some (.none,M.set i (.lst (vs ++ us))) else none
   | _=>none)
  | _=>none)
 | _=>dK
theorem nQ : il prog w B b (.builtin "list.extend") eP:=by
 intro A s G M xs as r M' R C rs e Q E h
 unfold eP at e
 split at e
 ·split at e
  ·rename_i hm
   split at e
   ·split at e
    ·rename_i hs
     cases e
     cases rs with
     | cons r1 r2=>
      cases r2 with
      | cons r2 r3=>
       cases r3
       obtain ⟨a,items,n,rfl,ρ,t,o,q⟩:=C.mlist r1 hm
       have hlen:=q.length
       cases r2 with
       | @lst ad it2 _ kk hl q2=>
        have hlen2:=q2.length
        have hsz:=of_decide_eq_true hs
        obtain ⟨⟨oc,od,oda,osl⟩,ho2,hc2,n2,hd2⟩:=hl
        simp only at hc2 hd2
        subst hc2 hd2
        have T1 : s.TypeIs (.ref a) "list" := ⟨_,o,rfl⟩
        refine wpAny_call_entry F.slot_list_extend T1 F.entry_list_extend ?_ (F.args_list_extend_2 _ _)
        show wpAny _ _ (Builtin.List.listExtendWith (.ref a) (.ref ad) .none) _ _ s
        unfold Builtin.List.listExtendWith
        refine wpAny_bind (wpAny_typeOf (T := "list") ⟨_,ho2,rfl⟩ ?_)
        have ht : (Value.type "list" == Value.type "list") = true:=by rfl
        rw [if_pos (by rw [ht]; simp)]
        refine wpAny_bind (listItems_at ho2 rfl ?_)
        refine wpAny_bind (listItems_at o rfl ?_)
        have hno : (!(List.toArray items).isEmpty && Builtin.List.listTooLong ((List.toArray items).size + (List.toArray it2).size)) = false:=by
         have : Builtin.List.listTooLong ((List.toArray items).size + (List.toArray it2).size) = false:=by
          unfold Builtin.List.listTooLong
          rw [sizeLine_eq,List.size_toArray,List.size_toArray]
          exact decide_eq_false (fun a=>JX hlen hlen2 hsz a)
         rw [this,Bool.and_false]
        rw [hno]
        have SB : Heap.SameBut a s.heap (s.heap.update a (Obj.mapSeq fun x=>x ++ List.toArray it2)):=Heap.SameBut.update ..
        have o2:=get?_update_seq o (fun x=>x ++ List.toArray it2)
        rw [List.append_toArray] at o2
        refine wpAny_bind (listUpdate_at o rfl ?_ (by rw [List.size_toArray,sizeLine_eq]; exact Hs hlen hlen2 hsz) (by rw [Array.size_append,List.size_toArray,List.size_toArray,sizeLine_eq]; exact Ix hlen hlen2 hsz))
        refine wpAny_pure ⟨_,rfl,?_⟩
        exact h _ s.toks G _ (C.turnList ρ t SB o2 (q.append q2)) (fx t SB) .none
    ·cases e
   ·cases e
  ·cases e
 ·cases e
noncomputable def m5 : List ae → Mo ae
 | [a]=>fun M=>(match cz a M with
  | some vs=>if bW vs.length then tz vs M else none
  | none=>none)
 | _=>dK
theorem bJ.keepNew {h h' : Heap} {G : Gh} {M : List ah} {items : List Value} {vs : List ae} {n : Nat} (C : bJ prog w B h G M) (k : ∀ b o,h.get? b = some o → h'.get? b = some o) (a : Addr) (ha : h.objs.size ≤ a) (o : h'.get? a = some (listOf (List.toArray items) n)) (q : bf h G items vs) :
  bJ prog w B h' (G.add a) (M ++ [.lst vs]) ∧ Ext h G h' (G.add a) ∧ bO h' (G.add a) (.ref a) (.mref M.length):=by
 have gr : ml h G h' (G.add a):=by
  refine ⟨fun b hb=>?_,List.prefix_append _ _,?_,fun b=>?_⟩
  ·have hne : b ≠ a:=fun e=>hb (C.freeAt (e ▸ ha))
   exact ⟨G.put_ne _ hne,fun o e=>k b o e⟩
  ·exact Nat.le_trans ha (Nat.le_of_lt (Heap.lt_size o))
  ·by_cases hb : b = a
   ·subst hb; exact .inr ⟨_,o⟩
   ·show (G.put _ _).tag b = _ ∨ _
    rw [G.put_ne _ hb]
    exact (C.live b).imp id fun ⟨o,e⟩=>⟨o,k b o e⟩
 have hr : (G.add a).ρ[M.length]? = some a:=by rw [← C.len]; exact G.add_ρ _
 refine ⟨C.growM gr (by simp [Gh.add,C.len]) ⟨a,items,n,hr,by rw [← C.len]; exact G.add_tag _,o,q.mono gr.ext.solid⟩,gr.ext,.mref hr⟩
theorem yS : il prog w B b (.type "list") m5:=by
 intro A s G M xs as r M' R C rs e Q E h
 unfold m5 at e
 split at e
 ·cases rs with
  | cons r1 r2=>
   cases r2
   split at e
   ·rename_i hv
    split at e
    ·rename_i hs
     obtain ⟨rfl,rfl⟩:=dO e
     obtain ⟨x,items,rfl,⟨o,ho,hc,n,hd⟩,q⟩:=fN C r1 hv
     refine call_list_seq x (.inl rfl) ho hc hd (fun h' c' k o'=>?_) (by rw [List.size_toArray,q.length]; exact b8 hs)
     obtain ⟨c1,c2,c3⟩:=C.keepNew k _ (Nat.le_refl _) o' q
     exact h h' s.toks _ _ c1 c2 c3
    ·cases e
   ·cases e
 ·cases e
theorem bJ.pushFroz {h : Heap} {G : Gh} {M : List ah} (C : bJ prog w B h G M) (o : Obj) (hf : o.isFreed = false:=by rfl) : bJ prog w B (h.push o) (G.put h.objs.size .froz) M ∧ Ext h G (h.push o) (G.put h.objs.size .froz):=⟨C.push o .froz hf,C.push_ext o .froz hf⟩
noncomputable def cV : List ae → Mo ae
 | [.int n]=>ret (.rng 0 n 1)
 | [.int a,.int c,.int d]=>if decide (d ≠ 0) && fit d then ret (.rng a c d) else dK
 | _=>dK
theorem fv : il prog w B b (.type "range") cV:=by
 intro A s G M xs as r M' R C rs e Q E h
 unfold cV at e
 split at e
 ·cases rs with
  | cons r1 r2=>
   cases r2
   cases r1
   obtain ⟨rfl,rfl⟩:=gF e
   refine call_range_1 ?_
   obtain ⟨c1,c2⟩:=C.pushFroz { cls:=.type "range",data:=.fields #[.int 0 s.toks,.int _ _,.int 1 (s.toks + 1)] }
   exact h _ _ _ _ c1 c2 (.rng (by rw [Gh.put_same]; rfl) (Heap.get?_push_size _ rfl))
 ·cases rs with
  | cons r1 r2=>
   cases r2 with
   | cons r2 r3=>
    cases r3 with
    | cons r3 r4=>
     cases r4; cases r1; cases r2; cases r3
     split at e
     ·rename_i hok
      obtain ⟨rfl,rfl⟩:=gF e
      rw [Bool.and_eq_true] at hok
      refine call_range_3 (of_decide_eq_true hok.1) ?_ (.inl (PyProof.noPylong_small (of_decide_eq_true hok.2)))
      obtain ⟨c1,c2⟩:=C.pushFroz { cls:=.type "range",data:=.fields #[.int _ _,.int _ _,.int _ _] }
      exact h _ _ _ _ c1 c2 (.rng (by rw [Gh.put_same]; rfl) (Heap.get?_push_size _ rfl))
     ·cases e
 ·cases e
noncomputable def gZ (a c : ae) : Mo ae:=fun M=>match cz a M,cz c M with
 | some vs,some us=>if bW (vs.length + us.length) then tz (vs ++ us) M else none
 | _,_=>none
theorem uD : cG prog w B b (binaryOp .Add) gZ:=by
 intro A s G M x y a c r M' R C hx hy e Q E h
 unfold gZ at e
 split at e
 ·rename_i h1 h2
  split at e
  ·rename_i hs
   obtain ⟨rfl,rfl⟩:=dO e
   obtain ⟨x,items,rfl,⟨⟨oc,od,oda,osl⟩,ho,hc,n,hd⟩,q⟩:=fN C hx h1
   obtain ⟨y,items2,rfl,⟨⟨oc2,od2,oda2,osl2⟩,ho2,hc2,n2,hd2⟩,q2⟩:=fN C hy h2
   simp only at hc hd hc2 hd2
   subst hc hd hc2 hd2
   have hsz:=of_decide_eq_true hs
   have l1:=q.length
   have l2:=q2.length
   refine concat_meets ⟨_,ho,rfl⟩ ⟨_,ho2,rfl⟩ noFill_list_add seq_list_add PySem.F.slot_list_add PySem.F.entry_list_add (PySem.F.args_list_add_2 _ _) (list_addW x y (List.toArray items) (List.toArray items2) n n2 od od2 osl osl2 (by rw [List.size_toArray,List.size_toArray,sizeLine_eq]; exact Iq hsz l1 l2)) ⟨ho,ho2,?_⟩
   rw [List.append_toArray]
   obtain ⟨c1,c2,c3⟩:=C.keepNew (h':=s.heap.push (listOf (List.toArray (items ++ items2)) 0)) (fun b o e=>Heap.get?_push_of_some _ e) _ (Nat.le_refl _) (Heap.get?_push_size _ rfl) (q.append q2)
   exact h _ s.toks _ _ c1 c2 c3
  ·cases e
 ·cases e
noncomputable def bB (ms : Loc → Mo (List ae)) : Loc → Mo ae:=fun loc=>bnd (ms loc) fun vs M=>if bW vs.length then tz vs M else none
theorem St.newList {Φ : Frm} {h : Heap} {G : Gh} {mm : Str → Option Value} {loc : Loc} {M : List ah} {items : List Value} {vs : List ae} (S : St prog w B Φ h G mm loc M) (q : bf h G items vs) :
  St prog w B Φ (h.push (listOf (List.toArray items) 0)) (G.add h.objs.size) mm loc (M ++ [.lst vs]) ∧ Ext h G (h.push (listOf (List.toArray items) 0)) (G.add h.objs.size) ∧ bO (h.push (listOf (List.toArray items) 0)) (G.add h.objs.size) (.ref h.objs.size) (.mref M.length):=by
 obtain ⟨c1,c2,c3⟩:=S.core.keepNew (h':=h.push (listOf (List.toArray items) 0)) (fun b o e=>Heap.get?_push_of_some _ e) _ (Nat.le_refl _) (Heap.get?_push_size _ rfl) q
 exact ⟨S.grow c1 (S.core.grow_pushM _ rfl),c2,c3⟩
theorem bw {es : List Expr} {pos : Pos} {ms : Loc → Mo (List ae)} (hes : iS prog w B b sg es ms) : bT prog w B b sg (.List es pos) (bB ms):=by
 intro A Φ s G mm loc M r M' R hΦ S e Q E h
 obtain ⟨vs,M1,e1,e⟩:=aL e
 split at e
 ·rename_i hs
  obtain ⟨rfl,rfl⟩:=dO e
  refine wpAny_List ?_
  refine hes A Φ pos s G mm loc M vs M1 R hΦ S e1 _ _ fun h1 tk1 G1 xs S1 X1 r1=>⟨by rw [r1.length]; exact b8 hs,?_⟩
  obtain ⟨c1,c2,c3⟩:=S1.newList r1
  exact h _ tk1 _ _ c1 (X1.trans c2) c3
 ·cases e
noncomputable def ju (ms : Loc → Mo (List ae)) : Loc → Mo ae:=fun loc=>bnd (ms loc) fun vs M=>if bW vs.length then some (.tup vs,M) else none
theorem pA {es : List Expr} {k : Nat} {pos : Pos} {ms : Loc → Mo (List ae)} (hes : iS prog w B b sg es ms) : bT prog w B b sg (.Tuple es k pos) (ju ms):=by
 intro A Φ s G mm loc M r M' R hΦ S e Q E h
 obtain ⟨vs,M1,e1,e⟩:=aL e
 split at e
 ·rename_i hs
  cases e
  refine wpAny_Tuple ?_
  refine hes A Φ pos s G mm loc M vs _ R hΦ S e1 _ _ fun h1 tk1 G1 xs S1 X1 r1=>⟨by rw [r1.length]; exact b8 hs,?_⟩
  have X2:=S1.core.push_ext { cls:=.type "tuple",data:=.seq xs.toArray } .froz
  have S2:=S1.push { cls:=.type "tuple",data:=.seq xs.toArray } .froz
  refine h _ tk1 _ _ S2 (X1.trans X2) (.tup (items:=xs) (by rw [Gh.put_same]; rfl) ⟨_,Heap.get?_push_size _ rfl,rfl,_,rfl⟩ (r1.mono X2.solid))
 ·cases e
noncomputable def ln : Loc → Mo ae:=fun _ M=>some (.mref M.length,M ++ [.idict []])
end
end Mine
end
section
open PySem PySem.W PySem.Spec PySem.Calls PySem.SeqAt PyProof.Rows
namespace Mine
section
variable {prog : Program} {w : World} {B : Heap} {b : Nat} {sg : Sg}
mutual
noncomputable def hG : ae → Option PyData
 | .int i=>some (.int i)
 | .str x=>some (.str x)
 | .lst vs=>(eB vs).map .list
 | .tup vs=>(eB vs).map .tuple
 | _=>none
noncomputable def eB : List ae → Option (List PyData)
 | []=>some []
 | a :: r=>match hG a,eB r with
  | some x,some xs=>some (x :: xs)
  | _,_=>none
end
theorem bO.reads {h : Heap} {G : Gh} {v : Value} {a : ae} {d : PyData} (r : bO h G v a) : hG a = some d → ∃ as,Reads h v d as:=
 bO.rec (motive_1:=fun v a _=>∀ d,hG a = some d → ∃ as,Reads h v d as) (motive_2:=fun v a _=>∀ d,eB a = some d → ∃ as,ReadsAll h v d as) (motive_3:=fun _ _ _=>True)
  (fun _ e=>by unfold hG at e; cases e) (fun _ _ e=>by unfold hG at e; cases e) (fun i t _ e=>by unfold hG at e; cases e; exact ⟨_,.int i t⟩) (fun x t _ e=>by unfold hG at e; cases e; exact ⟨_,.str x t⟩)
  (fun k l _ ih _ e=>by
   unfold hG at e
   obtain ⟨ds,e1,rfl⟩:=Option.map_eq_some_iff.mp e
   obtain ⟨as,q⟩:=ih _ e1
   obtain ⟨o,ho,hc,n,hd⟩:=l
   exact ⟨_,.list ho hc hd q⟩)
  (fun k l _ ih _ e=>by
   unfold hG at e
   obtain ⟨ds,e1,rfl⟩:=Option.map_eq_some_iff.mp e
   obtain ⟨as,q⟩:=ih _ e1
   obtain ⟨o,ho,hc,n,hd⟩:=l
   exact ⟨_,.tuple ho hc hd q⟩)
  (fun _ _ _ _ _ _ _ e=>by unfold hG at e; cases e) (fun _ _ _ e=>by unfold hG at e; cases e) (fun _ _ e=>by unfold hG at e; cases e)
  (fun _ e=>by unfold eB at e; cases e; exact ⟨_,.nil⟩)
  (fun _ _ i1 i2 _ e=>by
   unfold eB at e
   split at e
   ·rename_i e1 e2
    cases e
    obtain ⟨as,q⟩:=i1 _ e1
    obtain ⟨bs,qs⟩:=i2 _ e2
    exact ⟨_,.cons q qs⟩
   ·cases e) trivial (fun _ _ _ _=>trivial) r d
theorem bf.reads {h : Heap} {G : Gh} {v : List Value} {a : List ae} {d : List PyData} (r : bf h G v a) : eB a = some d → ∃ as,ReadsAll h v d as:=
 bf.ind (P:=fun v a=>∀ d,eB a = some d → ∃ as,ReadsAll h v d as) (fun _ e=>by unfold eB at e; cases e; exact ⟨_,.nil⟩) (fun _ _ _ _ r _ ih _ e=>by
  unfold eB at e
  split at e
  ·rename_i e1 e2
   cases e
   obtain ⟨as,q⟩:=r.reads e1
   obtain ⟨bs,qs⟩:=ih _ e2
   exact ⟨_,.cons q qs⟩
  ·cases e) r d
noncomputable def cI (a : ae) (M : List ah) : Option PyData:=match a with
 | .mref i=>(match M[i]? with
  | some (.lst vs)=>(eB vs).map .list
  | _=>none)
 | a=>hG a
theorem jU {h : Heap} {G : Gh} {M : List ah} {v : Value} {a : ae} {d : PyData} (c : bJ prog w B h G M) (r : bO h G v a) (e : cI a M = some d) : ∃ as,Reads h v d as:=by
 unfold cI at e
 split at e
 ·split at e
  ·rename_i hm
   obtain ⟨ds,e1,rfl⟩:=Option.map_eq_some_iff.mp e
   obtain ⟨a,items,n,rfl,ρ,t,o,q⟩:=c.mlist r hm
   obtain ⟨as,q'⟩:=q.reads e1
   exact ⟨_,.list o rfl rfl q'⟩
  ·cases e
 ·exact r.reads e
theorem eZ.un64 {A : Around} (r : eZ A b) (h : 9 ≤ b) : A.units + 72 < cLine:=Nat.lt_of_le_of_lt (Nat.add_le_add_left (Nat.mul_le_mul_left 8 h) _) r.un
noncomputable def oEq (a c : ae) : Mo ae:=fun M=>match a,c with
 | .int x,.int y=>some (.bool (decide (x = y)),M)
 | .str x,.str y=>some (.bool (decide (x = y)),M)
 | a,c=>(match cI a M,cI c M with
  | some d,some e=>if shaped d && shaped e then some (.bool (PyData.eqv d e),M) else none
  | _,_=>none)
noncomputable def oNe (a c : ae) : Mo ae:=fun M=>match a,c with
 | .int x,.int y=>some (.bool (!decide (x = y)),M)
 | .str x,.str y=>some (.bool (!decide (x = y)),M)
 | a,c=>(match cI a M,cI c M with
  | some d,some e=>if shaped d && shaped e then some (.bool (!PyData.eqv d e),M) else none
  | _,_=>none)
theorem vk (x y : Str) : (x.cps.toList == y.cps.toList) = decide (x = y):=by
 rw [Bool.eq_iff_iff,beq_iff_eq,decide_eq_true_eq]
 constructor
 ·intro e
  obtain ⟨⟨a⟩⟩:=x
  obtain ⟨⟨c⟩⟩:=y
  cases e
  rfl
 ·intro e; rw [e]
theorem cw (hb : 9 ≤ b) : cG prog w B b (compareOp .Eq) oEq:=by
 intro A s G M x y a c r M' R C hx hy e
 unfold oEq at e
 split at e
 ·cases hx; cases hy; cases e
  exact C.same (tk:=s.toks) (fun Q E h=>P.eq_int (by rw [show ((_ : Int) == _) = decide (_ = _) from rfl]; exact h)) (.bool ..)
 ·cases hx; cases hy; cases e
  exact C.same (tk:=s.toks) (fun Q E h=>P.eq_str (by rw [vk]; exact h)) (.bool ..)
 ·split at e
  ·rename_i e' h1 h2
   split at e
   ·rename_i hs
    cases e
    rw [Bool.and_eq_true] at hs
    obtain ⟨as,q1⟩:=jU C hx h1
    obtain ⟨bs,q2⟩:=jU C hy h2
    exact C.same (tk:=s.toks) (fun Q E h=>eq_dataH q1 q2 hs.1 hs.2 (Nat.lt_trans (Nat.add_lt_add_left (by decide) _) (R.un64 hb)) h) (.bool ..)
   ·cases e
  ·cases e
theorem wI (hb : 9 ≤ b) : cG prog w B b (compareOp .NotEq) oNe:=by
 intro A s G M x y a c r M' R C hx hy e
 unfold oNe at e
 split at e
 ·cases hx; cases hy; cases e
  exact C.same (tk:=s.toks) (fun Q E h=>P.ne_int (by rw [show ((_ : Int) != _) = !decide (_ = _) from rfl]; exact h)) (.bool ..)
 ·cases hx; cases hy; cases e
  exact C.same (tk:=s.toks) (fun Q E h=>P.ne_str (by rw [show ((_ : List Nat) != _) = !(_ == _) from rfl,vk]; exact h)) (.bool ..)
 ·split at e
  ·rename_i e' h1 h2
   split at e
   ·rename_i hs
    cases e
    rw [Bool.and_eq_true] at hs
    obtain ⟨as,q1⟩:=jU C hx h1
    obtain ⟨bs,q2⟩:=jU C hy h2
    exact C.same (tk:=s.toks) (fun Q E h=>ne_dataH q1 q2 hs.1 hs.2 (Nat.lt_trans (Nat.add_lt_add_left (by decide) _) (R.un64 hb)) h) (.bool ..)
   ·cases e
  ·cases e
noncomputable def iT (a c : ae) (M : List ah) : Option Bool:=match a,c with
 | .int x,.mref i=>(match M[i]? with
  | some (.idict kvs)=>some (kvs.lookup x).isSome
  | some (.lst vs)=>(match eB vs with
   | some ds=>if shaped (.list ds) then some (ds.any fun y=>PyData.eqv y (.int x)) else none
   | none=>none)
  | _=>none)
 | a,.tup vs=>(match hG a,eB vs with
  | some d,some ds=>if shaped d && shaped (.tuple ds) then some (ds.any fun y=>PyData.eqv y d) else none
  | _,_=>none)
 | a,c=>(match cI a M,cz c M with
  | some d,some vs=>(match eB vs with
   | some ds=>if shaped d && shaped (.list ds) then some (ds.any fun y=>PyData.eqv y d) else none
   | none=>none)
  | _,_=>none)
theorem lN {ds : List PyData} (h : shaped (.list ds) = true) : PyData.canLayAll0 ds = true ∧ PyData.depthAll ds ≤ 64:=by
 unfold shaped at h
 rw [Bool.and_eq_true] at h
 have h1 : PyData.canLayAll0 ds = true:=by have:=h.1; unfold PyData.canLay0 at this; exact this
 have h2:=of_decide_eq_true h.2
 unfold PyData.depth at h2
 exact ⟨h1,(E3 h2)⟩
theorem tT {ds : List PyData} (h : shaped (.tuple ds) = true) : PyData.canLayAll0 ds = true ∧ PyData.depthAll ds ≤ 64:=by
 unfold shaped at h
 rw [Bool.and_eq_true] at h
 have h1 : PyData.canLayAll0 ds = true:=by have:=h.1; unfold PyData.canLay0 at this; exact this
 have h2:=of_decide_eq_true h.2
 unfold PyData.depth at h2
 exact ⟨h1,(E3 h2)⟩
theorem hV {d : PyData} (h : shaped d = true) : d.canLay0 = true:=(Bool.and_eq_true_iff.mp h).1
theorem lz {h : Heap} {G : Gh} {M : List ah} {i : Nat} {a : Addr} (c : bJ prog w B h G M) (hsys : ∃ o,B.get? sysModules = some o) (t : G.tag a = .mut i) : (a == sysModules) = false:=by
 rw [beq_eq_false_iff_ne]
 intro e
 subst e
 obtain ⟨o,ho⟩:=hsys
 rw [(c.base _ _ ho).1] at t
 cases t
noncomputable def Dc (prog : Program) (w : World) (A : Around) (s : Shared) (x y : Value) (bb : Bool) : Prop:=
 ∃ k,(∀ (Q E : Value → Shared → Prop),Q (.bool bb) { s with toks:=k } → wpAny (model prog w) A (compareOp .In x y) Q E s) ∧ (∀ (Q E : Value → Shared → Prop),Q (.bool (!bb)) { s with toks:=k } → wpAny (model prog w) A (compareOp .NotIn x y) Q E s)
theorem BA (hsys : ∃ o,B.get? sysModules = some o) (hb : 9 ≤ b) {A : Around} {s : Shared} {G : Gh} {M : List ah} {x y : Value} {a c : ae} {bb : Bool} (R : eZ A b) (C : bJ prog w B s.heap G M) (hx : bO s.heap G x a) (hy : bO s.heap G y c) (e : iT a c M = some bb) : Dc prog w A s x y bb:=by
 have hu:=R.un64 hb
 unfold iT at e
 split at e
 ·split at e
  ·rename_i hm
   cases e
   cases hy with
   | @mref _ ad r=>
    obtain ⟨ad',ps,r',t,hd,q⟩:=C.muts i _ hm
    rw [r] at r'; cases r'
    cases hx
    have ne:=lz C hsys t
    have e1 : (valueAt ps x_1).isSome = (kvs.lookup x_1).isSome:=by
     cases hl : kvs.lookup x_1 with
     | none=>rw [(eY q x_1).2 hl]; rfl
     | some a=>obtain ⟨v,hv,_⟩:=(eY q x_1).1 a hl; rw [hv]; rfl
    exact ⟨s.toks + 1,fun Q E h=>wpAny_in_of (intKind_is prog w x_1 _) ne hd.mapOf (by rw [e1]; exact h),fun Q E h=>wpAny_notIn_of (intKind_is prog w x_1 _) ne hd.mapOf (by rw [e1]; exact h)⟩
  ·rename_i hm
   split at e
   ·rename_i hds
    split at e
    ·rename_i hs
     cases e
     obtain ⟨k1,k2⟩:=lN hs
     obtain ⟨ad,items,n,rfl,ρ,t,o,q⟩:=C.mlist hy hm
     obtain ⟨as,q'⟩:=q.reads hds
     cases hx
     have rc : Reads s.heap (.ref ad) (.list ds) _:=.list o rfl rfl q'
     have hu' : A.units + 1 + min (PyData.depthAll ds) (PyData.int x_1).depth < cLine:=Dt hu k2
     exact ⟨s.toks,fun Q E h=>SeqAt.in_list_reads rc (.int ..) k1 rfl hu' h,fun Q E h=>SeqAt.notIn_list_reads rc (.int ..) k1 rfl hu' h⟩
    ·cases e
   ·cases e
  ·cases e
 ·split at e
  ·rename_i h1 h2
   split at e
   ·rename_i hs
    cases e
    rw [Bool.and_eq_true] at hs
    obtain ⟨k1,k2⟩:=tT hs.2
    obtain ⟨bs,qx⟩:=hx.reads h1
    obtain ⟨as,rc⟩:=hy.reads (d:=.tuple xs) (by unfold hG; rw [h2]; rfl)
    have hu' : A.units + 1 + min (PyData.depthAll xs) x_3.depth < cLine:=Dt hu k2
    exact ⟨s.toks,fun Q E h=>SeqAt.in_tuple_reads rc qx k1 (hV hs.1) hu' h,fun Q E h=>SeqAt.notIn_tuple_reads rc qx k1 (hV hs.1) hu' h⟩
   ·cases e
  ·cases e
 ·split at e
  ·rename_i h1 h2
   split at e
   ·rename_i h3
    split at e
    ·rename_i hs
     cases e
     rw [Bool.and_eq_true] at hs
     obtain ⟨k1,k2⟩:=lN hs.2
     obtain ⟨bs,qx⟩:=jU C hx h1
     obtain ⟨ad,items,rfl,⟨o,ho,hc,n,hd⟩,q⟩:=fN C hy h2
     obtain ⟨as,q'⟩:=q.reads h3
     have rc : Reads s.heap (.ref ad) (.list ds) _:=.list ho hc hd q'
     have hu' : A.units + 1 + min (PyData.depthAll ds) d.depth < cLine:=Dt hu k2
     exact ⟨s.toks,fun Q E h=>SeqAt.in_list_reads rc qx k1 (hV hs.1) hu' h,fun Q E h=>SeqAt.notIn_list_reads rc qx k1 (hV hs.1) hu' h⟩
    ·cases e
   ·cases e
  ·cases e
noncomputable def oIn (a c : ae) : Mo ae:=fun M=>(iT a c M).map fun v=>(.bool v,M)
noncomputable def dw (a c : ae) : Mo ae:=fun M=>(iT a c M).map fun v=>(.bool (!v),M)
theorem Fp (hsys : ∃ o,B.get? sysModules = some o) (hb : 9 ≤ b) : cG prog w B b (compareOp .In) oIn:=by
 intro A s G M x y a c r M' R C hx hy e
 obtain ⟨v,hv,e⟩:=Option.map_eq_some_iff.mp e
 cases e
 obtain ⟨k,k1,k2⟩:=BA hsys hb R C hx hy hv
 exact C.same k1 (.bool _)
theorem mT (hsys : ∃ o,B.get? sysModules = some o) (hb : 9 ≤ b) : cG prog w B b (compareOp .NotIn) dw:=by
 intro A s G M x y a c r M' R C hx hy e
 obtain ⟨v,hv,e⟩:=Option.map_eq_some_iff.mp e
 cases e
 obtain ⟨k,k1,k2⟩:=BA hsys hb R C hx hy hv
 exact C.same k2 (.bool _)
end
end Mine
end
section
namespace Mine
section
variable {prog : Program} {w : World} {B : Heap} {b : Nat} {sg : Sg}
theorem St.extend {Φ : Frm} {h h' : Heap} {G : Gh} {mm : Str → Option Value} {loc : Loc} {M : List ah} (S : St prog w B Φ h G mm loc M) (he : ∀ b o,h.get? b = some o → h'.get? b = some o) : St prog w B Φ h' G mm loc M ∧ Ext h G h' G:=by
 refine ⟨S.move ⟨fun b o e=>?_,fun a=>?_,S.core.len,fun i o e=>?_,?_⟩ ⟨fun _ k=>k,fun a o _ e=>he a o e,List.prefix_refl _⟩ fun a p=>⟨rfl,fun o e=>he a o e⟩,⟨fun _ _=>rfl,fun a o _ e=>he a o e,List.prefix_refl _⟩⟩
 ·obtain ⟨t,e'⟩:=S.core.base b o e
  exact ⟨t,he b o e'⟩
 ·exact (S.core.live a).imp id fun ⟨o,e⟩=>⟨o,he a o e⟩
 ·exact (S.core.muts i o e).mono prog w ⟨fun _ k=>k,fun a o _ e=>he a o e,List.prefix_refl _⟩ fun a t=>⟨t,fun o e=>he a o e⟩
 ·obtain ⟨o,e⟩:=(S.own _ S.ok.Lown).2
  exact Nat.le_trans S.above (Nat.le_of_lt (Heap.lt_size (he _ _ e)))
noncomputable def gY (n : Int) (l : Loc → Mo ae) : Loc → Mo ae:=fun loc=>bnd (l loc) fun a M=>match cz a M with
 | some vs=>if bW vs.length then tz (vs.drop n.toNat) M else none
 | none=>none
noncomputable def nk (n : Int) (l : Loc → Mo ae) : Loc → Mo ae:=fun loc=>bnd (l loc) fun a M=>match cz a M with
 | some vs=>if bW vs.length then tz (vs.take n.toNat) M else none
 | none=>none
theorem wZ (items : List Value) {n : Int} (h : 0 ≤ n) : slicePick (List.toArray items) (some n) none none = List.toArray (items.drop n.toNat) := by
  rw [kms_pick_eq]
  congr 1
  unfold kms_pick kms_lo kms_hi
  rw [List.toList_toArray]
  dsimp only
  first
    | (rw [if_neg (fun a => FT h a)]; rw [List.take_of_length_le (by rw [List.length_drop]; exact JR)]; rcases Nat.le_total n.toNat items.length with q | q
       · rw [Nat.min_eq_left q]
       · rw [Nat.min_eq_right q, List.drop_of_length_le (Nat.le_refl _), List.drop_of_length_le q])
theorem wq (items : List Value) {n : Int} (h : 0 ≤ n) : slicePick (List.toArray items) none (some n) none = List.toArray (items.take n.toNat) := by
  rw [kms_pick_eq]
  congr 1
  unfold kms_pick kms_lo kms_hi
  rw [List.toList_toArray]
  dsimp only
  first
    | (rw [if_neg (fun a => FT h a), List.drop_zero, Nat.sub_zero]; rcases Nat.le_total n.toNat items.length with q | q
       · rw [Nat.min_eq_left q]
       · rw [Nat.min_eq_right q, List.take_of_length_le (Nat.le_refl _), List.take_of_length_le q])
theorem oa {A : Around} {s : Shared} {Q E : Value → Shared → Prop} {value slice : Expr} {l : Addr} {items : Array Value} {vl vu : Value} {lo hi : Option Int} (hl : s.heap.IsList l items) (pl : IsPart vl lo) (pu : IsPart vu hi) (hsz : items.size ≤ sizeLine)
  (h : Q (.ref (s.heap.objs.size + 1)) { s with heap:=(s.heap.push { cls:=.type "slice",data:=.fields #[vl,vu,.none] }).push (listOf (slicePick items lo hi none) 0) })
  (hs : ∀ o i,subscripted slice false o i = operate [i,o] (getItem o i)) :
  wpAny (model prog w) A (subscriptTail value slice (.ref l) (.ref s.heap.objs.size)) Q E { s with heap:=s.heap.push { cls:=.type "slice",data:=.fields #[vl,vu,.none] } }:=by
 refine gH (T := "list") (Heap.IsList.typeIs (s:={ s with heap:=s.heap.push { cls:=.type "slice",data:=.fields #[vl,vu,.none] } }) (hl.push _)) list_getitem_lookup ?_ (hs _ _)
 refine wpAny_getItem_list_slice (hl.push _) (Heap.IsSliceOf.new ..) pl pu .none (by simp) ?_ hsz
 have e : (s.heap.push { cls:=.type "slice",data:=.fields #[vl,vu,.none] }).objs.size = s.heap.objs.size + 1:=Heap.size_push ..
 show Q (.ref (s.heap.push _).objs.size) _
 rw [e]
 exact h
theorem ph {Φ : Frm} {h : Heap} {G : Gh} {mm : Str → Option Value} {loc : Loc} {M : List ah} {items : List Value} {vs : List ae} (S : St prog w B Φ h G mm loc M) (o : Obj) (hf : o.isFreed = false) (q : bf h G items vs) :
  ∃ G',St prog w B Φ ((h.push o).push (listOf (List.toArray items) 0)) G' mm loc (M ++ [.lst vs]) ∧ Ext h G ((h.push o).push (listOf (List.toArray items) 0)) G' ∧ bO ((h.push o).push (listOf (List.toArray items) 0)) G' (.ref (h.objs.size + 1)) (.mref M.length):=by
 have S1:=S.push o .junk hf
 have X1:=S.core.push_ext o .junk hf
 obtain ⟨c1,c2,c3⟩:=S1.newList (q.mono X1.solid)
 have e : (h.push o).objs.size = h.objs.size + 1:=Heap.size_push ..
 rw [e] at c3
 exact ⟨_,c1,X1.trans c2,by rw [e]; exact c3⟩
theorem qJ {n : Int} {k : Nat} {el : Expr} {p1 p2 pos : Pos} {l : Loc → Mo ae} (hl : bT prog w B b sg el l) (hn : 0 ≤ n:=by decide) : bT prog w B b sg (.Subscript el (.Slice (some (.Constant (.int n) k p1)) none none p2) pos) (gY n l):=by
 intro A Φ s G mm loc M r M' R hΦ S e Q E h
 obtain ⟨a,M1,e1,e⟩:=aL e
 split at e
 ·rename_i hv
  split at e
  ·rename_i hs
   obtain ⟨rfl,rfl⟩:=dO e
   refine Subscript_ ?_
   refine hl A Φ s G mm loc M a M1 R hΦ S e1 _ _ fun h1 tk1 G1 x S1 X1 r1=>?_
   obtain ⟨ad,items,rfl,hli,q⟩:=fN S1.core r1 hv
   refine wpAny_Slice ?_
   rw [evalPart_some]
   refine wpAny_Constant_int ?_
   rw [evalPart_none]
   refine wpAny_pure (wpAny_pure ?_)
   obtain ⟨G2,c1,c2,c3⟩:=ph S1 { cls:=.type "slice",data:=.fields #[.int n tk1,.none,.none] } rfl (q.drop n.toNat)
   refine oa (s:={ s with heap:=h1,toks:=tk1 + 1 }) hli (.int n tk1) .none (by rw [List.size_toArray,q.length]; exact b8 hs) ?_ (by intro _ _; rfl)
   rw [wZ items hn]
   exact h _ _ G2 _ c1 (X1.trans c2) c3
  ·cases e
 ·cases e
theorem xG {n : Int} {k : Nat} {el : Expr} {p1 p2 pos : Pos} {l : Loc → Mo ae} (hl : bT prog w B b sg el l) (hn : 0 ≤ n:=by decide) : bT prog w B b sg (.Subscript el (.Slice none (some (.Constant (.int n) k p1)) none p2) pos) (nk n l):=by
 intro A Φ s G mm loc M r M' R hΦ S e Q E h
 obtain ⟨a,M1,e1,e⟩:=aL e
 split at e
 ·rename_i hv
  split at e
  ·rename_i hs
   obtain ⟨rfl,rfl⟩:=dO e
   refine Subscript_ ?_
   refine hl A Φ s G mm loc M a M1 R hΦ S e1 _ _ fun h1 tk1 G1 x S1 X1 r1=>?_
   obtain ⟨ad,items,rfl,hli,q⟩:=fN S1.core r1 hv
   refine wpAny_Slice ?_
   rw [evalPart_none]
   refine wpAny_pure ?_
   rw [evalPart_some]
   refine wpAny_Constant_int ?_
   refine wpAny_pure ?_
   obtain ⟨G2,c1,c2,c3⟩:=ph S1 { cls:=.type "slice",data:=.fields #[.none,.int n tk1,.none] } rfl (q.take n.toNat)
   refine oa (s:={ s with heap:=h1,toks:=tk1 + 1 }) hli .none (.int n tk1) (by rw [List.size_toArray,q.length]; exact b8 hs) ?_ (by intro _ _; rfl)
   rw [wq items hn]
   exact h _ _ G2 _ c1 (X1.trans c2) c3
  ·cases e
 ·cases e
theorem jZ {pos : Pos} : bT prog w B b sg (.Dict [] [] pos) ln:=by
 intro A Φ s G mm loc M r M' R hΦ S e Q E h
 cases e
 refine wpAny_Dict_empty ?_
 have hr : (G.add s.heap.objs.size).ρ[M.length]? = some s.heap.objs.size:=by rw [← S.core.len]; exact G.add_ρ _
 have hm : MAt prog w (s.heap.push { cls:=.type "dict",data:=.dict #[] }) (G.add s.heap.objs.size) M.length (.idict []):=⟨_,[],hr,by rw [← S.core.len]; exact G.add_tag _,Heap.DictOf.new _,.nil⟩
 have c:=S.core.pushM (o:={ cls:=.type "dict",data:=.dict #[] }) rfl hm
 have g:=S.core.grow_pushM { cls:=.type "dict",data:=.dict #[] } rfl
 exact h _ s.toks _ _ (S.grow c g) g.ext (.mref hr)
noncomputable def Ab (prog : Program) (w : World) (B : Heap) (b : Nat) (sg : Sg) (keys : List (Option Expr)) (values : List Expr) (m : Loc → Mo (List (Str × ae))) : Prop:=
 ∀ (A : Around) (Φ : Frm) (pos : Pos) (s : Shared) (G : Gh) (mm : Str → Option Value) (loc : Loc) (M : List ah) (r : List (Str × ae)) (M' : List ah),
  eZ A b → Φ.Of sg → St prog w B Φ s.heap G mm loc M → m loc M = some (r,M') →
  ∀ (Q : List (Value × Value) → Shared → Prop) (E : Value → Shared → Prop),
   (∀ h' tk' G' x ps,St prog w B Φ h' G' mm loc M' → Ext s.heap G h' G' → Carries (strKind prog w) x ps → dR h' G' ps r → Q x { s with heap:=h',toks:=tk' }) →
   wpAny (model prog w) A (evalPairs (pairTrees keys values Φ.env pos)) Q E s
noncomputable def Fj : Loc → Mo (List (Str × ae)):=fun _=>ret []
noncomputable def tg (k : Str) (l : Loc → Mo ae) (ls : Loc → Mo (List (Str × ae))) : Loc → Mo (List (Str × ae)):=fun loc=>bnd (l loc) fun a=>bnd (ls loc) fun as=>ret ((k,a) :: as)
theorem Ea : Ab prog w B b sg [] [] Fj:=by
 intro A Φ pos s G mm loc M r M' R hΦ S e Q E h
 cases e
 exact evalPairs_nil (h s.heap s.toks G [] [] S (Ext.refl _ _) trivial .nil)
theorem qm {x : Str} {k : Nat} {kp : Pos} {ev : Expr} {keys : List (Option Expr)} {values : List Expr} {l : Loc → Mo ae} {ls : Loc → Mo (List (Str × ae))} (hl : bT prog w B b sg ev l) (hs : Ab prog w B b sg keys values ls) : Ab prog w B b sg (some (.Constant (.str x) k kp) :: keys) (ev :: values) (tg x l ls):=by
 intro A Φ pos s G mm loc M r M' R hΦ S e Q E h
 obtain ⟨a,M1,e1,e⟩:=aL e
 obtain ⟨as,M2,e2,e⟩:=aL e
 cases e
 unfold pairTrees
 refine evalPairs_cons ?_
 refine wpAny_Constant_str ?_
 refine wpAny_bind ?_
 refine hl A Φ { s with toks:=s.toks + 1 } G mm loc M a M1 R hΦ S e1 _ _ fun h1 tk1 G1 y S1 X1 r1=>?_
 refine wpAny_bind (wpAny_standAt (wpAny_pure ?_))
 refine hs A Φ pos { s with heap:=h1,toks:=tk1 } G1 mm loc M1 as _ R hΦ S1 e2 _ _ fun h2 tk2 G2 xs ps S2 X2 C2 r2=>?_
 exact h h2 tk2 G2 _ ((x,y) :: ps) S2 (X1.trans X2) ⟨strKind_is prog w x _,rfl,C2⟩ (.cons (r1.mono X2.solid) r2)
noncomputable def mW (acc : List (Str × ae)) (r : List (Str × ae)) : List (Str × ae):=r.foldl (fun acc kv=>jE acc kv.1 kv.2) acc
theorem dR.merged {h : Heap} {G : Gh} {ps : List (Str × Value)} {r : List (Str × ae)} (q : dR h G ps r) : ∀ {acc : List (Str × Value)} {acc' : List (Str × ae)},dR h G acc acc' → dR h G (PySem.merged acc ps) (mW acc' r):=by
 induction q with
 | nil=>intro acc acc' z; exact z
 | cons r rs ih=>intro acc acc' z; exact ih (dR.stored r z)
noncomputable def zJ (ms : Loc → Mo (List (Str × ae))) : Loc → Mo ae:=fun loc=>bnd (ms loc) fun r M=>some (.mref M.length,M ++ [.sdict (mW [] r)])
theorem Aa {keys : List (Option Expr)} {values : List Expr} {pos : Pos} {ms : Loc → Mo (List (Str × ae))} (hes : Ab prog w B b sg keys values ms)
  (hall : keys.all (·.isSome) = true:=by rfl) (hl : keys.length = values.length:=by rfl) (h0 : keys ≠ []:=by simp) (hlen : keys.length ≤ 15:=by decide) : bT prog w B b sg (.Dict keys values pos) (zJ ms):=by
 intro A Φ s G mm loc M r M' R hΦ S e Q E h
 obtain ⟨vs,M1,e1,e⟩:=aL e
 cases e
 have hpl:=pairTrees_length keys values Φ.env pos hall hl
 refine wpAny_Dict_pairs (knd:=strKind prog w) (zip_pairTrees keys values Φ.env pos hall hl) (fun z=>h0 (List.length_eq_zero_iff.mp (by rw [← hpl,z]; rfl))) (by rw [hpl]; exact hlen) ?_
 have f:=S.core.free
 have S1:=S.push { cls:=.type "dict",data:=.dict #[] } .below
 have X1:=S.core.push_ext { cls:=.type "dict",data:=.dict #[] } .below
 refine hes A Φ pos { s with heap:=s.heap.push { cls:=.type "dict",data:=.dict #[] } } _ mm loc M vs M1 R hΦ S1 e1 _ _ fun h2 tk2 G2 xs ps S2 X2 C2 r2=>?_
 have tD : G2.tag s.heap.objs.size = .below:=by rw [X2.tag _ (by rw [Gh.put_same]; rfl),Gh.put_same]
 have oD : h2.get? s.heap.objs.size = some { cls:=.type "dict",data:=.dict #[] }:=X2.obj _ _ (by rw [Gh.put_same]; rfl) (Heap.get?_push_size _ rfl)
 have dD : h2.DictOf (strKind prog w) s.heap.objs.size []:=by
  obtain ⟨o,es,ep,ho,r⟩:=Heap.DictOf.new (knd:=strKind prog w) s.heap
  rw [Heap.get?_push_size _ rfl] at ho; cases ho
  exact ⟨_,es,ep,oD,r⟩
 refine ⟨ps,C2,dD,fun h3 d3 SB=>?_⟩
 have ne : ∀ a,G2.tag a ≠ .below → a ≠ s.heap.objs.size:=fun a k e=>k (e ▸ tD)
 let G3 : Gh:=G2.add s.heap.objs.size
 have sol : eN h2 G2 h3 G3:=⟨fun a k=>by
   show ((G2.put _ _).tag a).solid = true
   rw [G2.put_ne _ (ne a (by intro z; rw [z] at k; cases k))]; exact k,fun a o k e=>(SB.2 a (ne a (by intro z; rw [z] at k; cases k))).trans e,List.prefix_append _ _⟩
 have hr : G3.ρ[M1.length]? = some s.heap.objs.size:=by rw [← S2.core.len]; exact G2.add_ρ _
 have hm : MAt prog w h3 G3 M1.length (.sdict (mW [] vs)):=⟨_,_,hr,by rw [← S2.core.len]; exact G2.add_tag _,d3,(dR.merged r2 .nil).mono sol⟩
 have c3 : bJ prog w B h3 G3 (M1 ++ [.sdict (mW [] vs)]):=by
  refine ⟨fun b o e=>?_,fun b=>?_,by simp [G3,Gh.add,S2.core.len],fun i o e=>?_,by rw [SB.1]; exact S2.core.size⟩
  ·obtain ⟨t,e'⟩:=S2.core.base b o e
   have n:=ne b (by rw [t]; exact fun z=>nomatch z)
   exact ⟨by show (G2.put _ _).tag b = _; rw [G2.put_ne _ n]; exact t,(SB.2 b n).trans e'⟩
  ·by_cases z : b = s.heap.objs.size
   ·subst z; exact .inr (iP d3)
   ·show (G2.put _ _).tag b = _ ∨ _
    rw [G2.put_ne _ z]; exact (S2.core.live b).imp id fun ⟨o,e⟩=>⟨o,(SB.2 b z).trans e⟩
  ·by_cases hi : i < M1.length
   ·rw [List.getElem?_append_left hi] at e
    refine (S2.core.muts i o e).mono prog w sol fun a t=>?_
    have n:=ne a (by rw [t]; exact fun z=>nomatch z)
    exact ⟨by show (G2.put _ _).tag a = _; rw [G2.put_ne _ n]; exact t,fun o e=>(SB.2 a n).trans e⟩
   ·obtain ⟨hi2,_⟩:=List.getElem?_eq_some_iff.mp e
    rw [List.length_append] at hi2
    have : i = M1.length:=by simp at hi2; exact Dn hi hi2
    subst this
    rw [List.getElem?_append_right (Nat.le_refl _),Nat.sub_self] at e
    cases e
    exact hm
 have nc : ∀ v,¬ h2.IsCell s.heap.objs.size v:=fun v ⟨o,e,d⟩=>by rw [oD] at e; cases e; cases d
 have S3:=S2.move c3 sol fun a p=>by
  have n:=S2.notPlace tD nc p
  exact ⟨G2.put_ne _ n,fun o e=>(SB.2 a n).trans e⟩
 have X3 : Ext s.heap G h3 G3:=by
  have X12:=X1.trans X2
  have n : ∀ a,(G.tag a).kept = true → a ≠ s.heap.objs.size:=fun a k e=>by rw [e,f] at k; cases k
  refine ⟨fun a k=>?_,fun a o k e=>(SB.2 a (n a k)).trans (X12.obj a o k e),X12.ρ.trans (List.prefix_append _ _)⟩
  show (G2.put _ _).tag a = _
  rw [G2.put_ne _ (n a k)]; exact X12.tag a k
 exact h h3 _ G3 _ S3 X3 (.mref hr)
noncomputable def Ef (i : Nat) (m : Loc → Mo (Fl × Loc)) : Loc → Mo (Fl × Loc):=fun loc=>bnd (m loc) fun r M=>match r.2[i]? with
 | some (some (.mref k))=>(match M[k]? with
  | some mo=>(match Mine.froz mo with
   | some v=>some ((r.1,r.2.set i (some v)),M.set k .gone)
   | none=>none)
  | none=>none)
 | _=>none
theorem Gc (i : Nat) {st : Stmt} {m : Loc → Mo (Fl × Loc)} (h1 : hA prog w B b sg st m) : hA prog w B b sg st (Ef i m):=by
 intro A Φ s G mm loc M r loc' M' R hΦ S e Q E h
 obtain ⟨⟨fl,loc1⟩,M1,e1,e⟩:=aL e
 dsimp only at e
 split at e
 ·rename_i hk
  split at e
  ·rename_i hmo
   split at e
   ·rename_i hv
    cases e
    refine h1 A Φ s G mm loc M _ loc1 M1 R hΦ S e1 _ _ fun h2 tk2 G2 mm2 x S2 X2 r2=>?_
    have X3:=g9 h2 G2 k
    have S3:=S2.move (S2.core.freeze k) X3.solid fun a p=>⟨by rcases S2.place p with q | q <;> (rw [q]; unfold Gh.freeze; dsimp only; rw [q]),fun o e=>e⟩
    refine h h2 tk2 (G2.freeze k) mm2 x ⟨S3.core,S3.ns,S3.own,S3.cell,S3.above,S3.ok,fun j y a e1 e2=>?_⟩ (X2.trans X3) ?_
    ·rw [List.getElem?_set] at e2
     by_cases hj : i = j
     ·subst hj
      rw [if_pos rfl] at e2
      split at e2
      ·cases e2
       obtain ⟨u,hu,q⟩:=S2.loc i y _ e1 hk
       exact ⟨u,hu,S2.core.frozen hmo hv q⟩
      ·cases e2
     ·rw [if_neg hj] at e2
      exact S3.loc j y a e1 e2
    ·cases r2 with
     | next=>exact .next
     | brk=>exact .brk
     | ret q=>exact .ret (q.mono X3.solid)
   ·cases e
  ·cases e
 ·cases e
noncomputable def mz (is : List Nat) (l : Loc → Mo ae) : Loc → Mo (Fl × Loc):=fun loc=>bnd (l loc) fun a M=>match cz a M with
 | some vs=>if vs.length = is.length then some ((.next,(is.zip vs).foldl (fun loc p=>loc.set p.1 (some p.2)) loc),M) else none
 | none=>none
inductive qT (sg : Sg) : List Nat → List Expr → Prop
 | nil : qT sg [] []
 | cons {i : Nat} {x : Str} {p : Pos} {is : List Nat} {es : List Expr} : sg.names[i]? = some x → qT sg is es → qT sg (i :: is) (.Name x p :: es)
theorem qT.length {is : List Nat} {es : List Expr} (t : qT sg is es) (env : Env) : (assignEach es env).length = is.length:=by
 induction t with
 | nil=>rfl
 | cons h t ih=>exact congrArg (· + 1) ih
theorem qT.plain {is : List Nat} {es : List Expr} (t : qT sg is es) (env : Env) : (assignEach es env).findIdx? (·.1) = none:=by
 induction t with
 | nil=>rfl
 | cons h t ih=>refine (List.findIdx?_cons ..).trans ?_; rw [ih]; rfl
theorem wp {is : List Nat} {es : List Expr} (t : qT sg is es) {Φ : Frm} (hΦ : Φ.OfS sg) {A : Around} {E : Value → Shared → Prop} : ∀ {s : Shared} {G : Gh} {mm : Str → Option Value} {loc : Loc} {M : List ah} {xs : List Value} {vs : List ae} {Q : Unit → Shared → Prop},St prog w B Φ s.heap G mm loc M → bf s.heap G xs vs → vs.length = is.length →
  (∀ h' tk' mm',St prog w B Φ h' G mm' ((is.zip vs).foldl (fun loc p=>loc.set p.1 (some p.2)) loc) M → Ext s.heap G h' G → Q () { s with heap:=h',toks:=tk' }) → wpAny (model prog w) A (assignInOrder ((assignEach es Φ.env).map (·.2)) xs) Q E s:=by
 induction t with
 | nil=>
  intro s G mm loc M xs vs Q S q hl h
  cases q with
  | nil=>exact wpAny_assignInOrder_none (h s.heap s.toks mm S (Ext.refl _ _))
  | cons _ _=>simp at hl
 | @cons i x p is es hi t ih=>
  intro s G mm loc M xs vs Q S q hl h
  cases q with
  | nil=>simp at hl
  | cons r rs=>
   refine wpAny_assignInOrder_more ?_
   refine wpAny_assign_Name (iR hΦ hi S r fun h1 tk1 mm1 S1 X1=>?_)
   refine ih S1 (rs.mono X1.solid) (by simpa using hl) fun h2 tk2 mm2 S2 X2=>?_
   exact h h2 tk2 mm2 S2 (X1.trans X2)
theorem zI {is : List Nat} {es : List Expr} {k : Nat} {tp pos : Pos} {el : Expr} {l : Loc → Mo ae} (t : qT sg is es) (hl : bT prog w B b sg el l)
  (hs : ∀ env,swapsWithSole [.Tuple es k tp] el pos.line env = pure false:=by intro _; rfl) (hw : ∀ env,swappedStores [.Tuple es k tp] el env = pure none:=by intro _; rfl) : hA prog w B b sg (.Assign [.Tuple es k tp] el pos) (mz is l):=by
 intro A Φ s G mm loc M r loc' M' R hΦ S e Q E h
 obtain ⟨a,M1,e1,e⟩:=aL e
 split at e
 ·rename_i hv
  split at e
  ·rename_i hlen
   cases e
   refine Assign_Tuple ?_ (hs _) (hw _)
   refine hl A Φ s G mm _ M a _ R hΦ.1 S e1 _ _ fun h1 tk1 G1 x S1 X1 r1=>?_
   obtain ⟨ad,items,rfl,hli,q⟩:=fN S1.core r1 hv
   rw [assign_Tuple]
   refine wpAny_bind (wpAny_standAt ?_)
   unfold unpack
   rw [t.plain,t.length]
   have hn : is.length = (List.toArray items).size:=by rw [List.size_toArray,q.length,hlen]
   rw [hn]
   refine wpAny_bind (wpAny_holding (kun_itemsOf R.hd hli fun h2 he=>?_))
   have keep : ∀ b o,h1.get? b = some o → h2.get? b = some o:=fun b o e=>he b o (Nat.ne_of_lt (Heap.lt_size e)) e
   obtain ⟨S2,X2⟩:=S1.extend keep
   refine wp t hΦ (s:={ s with heap:=h2,toks:=tk1 }) S2 (q.mono X2.solid) hlen fun h3 tk3 mm3 S3 X3=>?_
   exact h h3 tk3 G1 mm3 _ S3 (X1.trans (X2.trans X3)) .next
  ·cases e
 ·cases e
end
end Mine
end
section
namespace Mine
section
variable {prog : Program} {w : World} {B : Heap} {b : Nat} {sg : Sg} {K : Frag} {p : Program} {loose : List Str} {mg mb : Str → Option Value}
noncomputable def i8 (i : Nat) (l : Loc → Mo ae) (m : Loc → Mo (Fl × Loc)) : Loc → Mo (Fl × Loc):=fun loc=>bnd (l loc) fun a=>match a with
 | .lst vs=>dU i m vs.reverse loc
 | _=>dK
theorem yO (Γ : Gl K B p loose mg mb) {i : Nat} {x : Str} {xp fp cp pos : Pos} {el : Expr} {body : List Stmt} {l : Loc → Mo ae} {m : Loc → Mo (Fl × Loc)} (hi : sg.names[i]? = some x) (hx : nsIn K mainGlobals "reversed" = some none) (hl : bT prog w B b sg el l) (hb : cy prog w B b sg body m)
  (hsc : sg.scope.names.lookup ("reversed" : Str) = some .globalImplicit:=by rfl)
  (hs : ∀ env x,foldedSetIterable (.Call (.Name "reversed" fp) [el] [] cp) env x = pure x:=by intro _ _; rfl)
  (he : ∀ env,starEach [el] env = (false,eval el env) :: starEach [] env:=by intro _; rfl) : hA prog w B b sg (.For (.Name x xp) (.Call (.Name "reversed" fp) [el] [] cp) body [] pos) (i8 i l m):=by
 intro A Φ s G mm loc M r loc' M' R hΦ S e Q E h
 obtain ⟨a,M1,e1,e⟩:=aL e
 refine wpAny_For ?_ (hs _)
 refine Call_ ?_
 refine yJ Γ S hΦ.1 hx boot_reversed (by decide) ?_ hsc (by decide)
 refine PyProof.Rows.callWith_type1 ?_ (he _) rfl
 refine (aa hl ak he) A Φ cp s G mm loc M [a] M1 R hΦ.1 S (by unfold ab; rw [q6 e1]; rfl) _ _ fun h1 tk1 G1 xs S1 X1 r1=>?_
 cases r1 with
 | cons r1 r2=>
  cases r2
  cases r1 with
  | @lst ad items vs k p rs=>
   refine call_reversed_list p ?_
   refine wpAny_pyIter_revIter ⟨_,Heap.get?_push_size _ rfl,rfl,rfl⟩ ?_
   have f:=S1.core.free
   have S2:=S1.push (revObj ad (((List.toArray items).size : Int) - 1)) .below
   have X2:=Ext.start (o:=revObj ad (((List.toArray items).size : Int) - 1)) (t:=.below) f
   refine nY (ut h1.objs.size) hi hb (s:={ s with heap:=_,toks:=tk1 }) (G₀:=G1) (s₀:=h1) R hΦ S2 (Gh.put_same ..) (by rw [f]; rfl) X2 ⟨_,_,items.length,X2.solid.tag _ k,Nat.le_refl _,⟨_,Heap.get?_push_size _ rfl,rfl,?_⟩,p.push _,?_⟩ e fun h3 tk3 G3 mm3 fl S3 X3 r3=>?_
   ·show Data.fields #[.ref ad,rawInt (((List.toArray items).size : Int) - 1)] = _
    rw [List.size_toArray]; rfl
   ·rw [List.take_of_length_le (Nat.le_refl _)]
    exact (rs.mono X2.solid).reverse
   ·exact h h3 tk3 G3 mm3 fl S3 (X1.trans X3) r3
  | _=>cases e
noncomputable def kf (cells : List (Str × Addr)) : List (Str × NameKind) → List (Str × Addr) → List (Str × Addr)
 | [],acc=>acc
 | (n,k) :: r,acc=>if k == .free then kf cells r ((n,(cells.lookup n).getD 0) :: acc) else kf cells r acc
theorem nP {env : Env} : ∀ (names : List (Str × NameKind)) (acc : List (Str × Addr)),(∀ n,(n,NameKind.free) ∈ names → (env.cells.lookup n).isSome = true) →
  (forIn names acc fun (x : Str × NameKind) (cs : List (Str × Addr))=>(do
   if x.2 == .free then do
    let a ← cellOf env x.1
    pure (ForInStep.yield ((x.1,a) :: cs))
   else pure (ForInStep.yield cs) : Sem (ForInStep (List (Str × Addr))))) = pure (kf env.cells names acc)
 | [],acc,_=>by rw [List.forIn_nil]; rfl
 | (n,k) :: r,acc,h=>by
  rw [List.forIn_cons]
  unfold kf
  have ih:=fun acc=>nP (env:=env) r acc fun n hn=>h n (List.mem_cons_of_mem _ hn)
  by_cases hk : (k == NameKind.free) = true
  ·rw [if_pos hk,if_pos hk]
   obtain ⟨c,hc⟩:=Option.isSome_iff_exists.mp (h n (by rw [← eq_of_beq hk]; exact List.mem_cons_self))
   have : cellOf env n = pure c:=by unfold cellOf; rw [hc]
   rw [this,hc]
   simp only [pure_bind,Option.getD_some]
   exact ih _
  ·rw [if_neg hk,if_neg hk]
   simp only [pure_bind]
   exact ih _
theorem r7 {scope : Scope} {env : Env} (h : ∀ n,(n,NameKind.free) ∈ scope.names → (env.cells.lookup n).isSome = true) : closureFor scope env = pure (kf env.cells scope.names []):=by
 have:=nP (env:=env) scope.names [] h
 unfold closureFor
 simp only [bind_pure]
 exact this
theorem iz {cells : List (Str × Addr)} : ∀ {names : List (Str × NameKind)} {acc : List (Str × Addr)} {n : Str} {c : Addr},(∀ n,(n,NameKind.free) ∈ names → (cells.lookup n).isSome = true) → (∀ n c,acc.lookup n = some c → cells.lookup n = some c) → (kf cells names acc).lookup n = some c → cells.lookup n = some c
 | [],acc,n,c,_,ha,e=>ha n c e
 | (m,k) :: r,acc,n,c,h,ha,e=>by
  unfold kf at e
  have h' : ∀ n,(n,NameKind.free) ∈ r → (cells.lookup n).isSome = true:=fun n hn=>h n (List.mem_cons_of_mem _ hn)
  split at e
  ·rename_i hk
   refine iz h' (fun n c e=>?_) e
   rw [List.lookup_cons] at e
   cases hb : n == m with
   | true=>
    rw [hb] at e; cases e
    obtain ⟨c,hc⟩:=Option.isSome_iff_exists.mp (h m (by rw [← eq_of_beq hk]; exact List.mem_cons_self))
    rw [eq_of_beq hb,hc]; rfl
   | false=>rw [hb] at e; exact ha n c e
  ·exact iz h' ha e
theorem je {cells : List (Str × Addr)} {n : Str} : ∀ {names : List (Str × NameKind)} {acc : List (Str × Addr)},((n,NameKind.free) ∈ names ∨ (acc.lookup n).isSome = true) → ((kf cells names acc).lookup n).isSome = true
 | [],acc,h=>by rcases h with h | h; cases h; exact h
 | (m,k) :: r,acc,h=>by
  unfold kf
  by_cases hk : (k == NameKind.free) = true
  ·rw [if_pos hk]
   refine je ?_
   rcases h with h | h
   ·rcases List.mem_cons.mp h with e | h
    ·cases e; right; simp
    ·exact .inl h
   ·right
    rw [List.lookup_cons]
    cases n == m <;> first | rfl | exact h
  ·rw [if_neg hk]
   refine je ?_
   rcases h with h | h
   ·rcases List.mem_cons.mp h with e | h
    ·cases e; exact absurd rfl hk
    ·exact .inl h
   ·exact .inr h
noncomputable def dn (scope outer : Scope) : Scope:={ scope with names:=scope.names.map fun (n,k)=>if (k == .free && outer.kind == .function && outer.names.lookup n == some .cell) then (n,.cell) else (n,k) }
theorem nZ (scope : Scope) (env : Env) : relabel scope env = dn scope env.scope:=rfl
structure pD (sg : Sg) (cs : Scope) (x : Str) (fr : List (Nat × Str)) : Prop where
 kind : cs.kind = .function
 cell : ∀ y ∈ cs.names,y.2 ≠ .cell
 locs : ∀ y ∈ cs.names,y.2 = .local → cs.names.lookup y.1 = some .local
 xl : cs.names.lookup x = some .local
 nd : (x :: fr.map (·.2)).Nodup
 free : ∀ n,(n,NameKind.free) ∈ cs.names → n ∈ fr.map (·.2)
 outer : ∀ q ∈ fr,sg.names[q.1]? = some q.2 ∧ sg.scope.names.lookup q.2 = some .cell ∧ (dn cs sg.scope).names.lookup q.2 = some .cell ∧ (q.2,NameKind.free) ∈ cs.names
noncomputable def vT (sg : Sg) (cs : Scope) (x : Str) (fr : List (Nat × Str)) : Bool:=
 (cs.kind == .function) && cs.names.all (fun y=>y.2 != .cell) && cs.names.all (fun y=>y.2 != .local || cs.names.lookup y.1 == some .local) && (cs.names.lookup x == some .local) && decide (x :: fr.map (·.2)).Nodup
 && cs.names.all (fun y=>y.2 != .free || (fr.map (·.2)).contains y.1) && fr.all (fun q=>sg.names[q.1]? == some q.2 && sg.scope.names.lookup q.2 == some .cell && (dn cs sg.scope).names.lookup q.2 == some .cell && cs.names.contains (q.2,NameKind.free))
theorem jL {sg : Sg} {cs : Scope} {x : Str} {fr : List (Nat × Str)} (h : vT sg cs x fr = true) : pD sg cs x fr:=by
 unfold vT at h
 simp only [Bool.and_eq_true,List.all_eq_true,beq_iff_eq,bne_iff_ne,ne_eq,Bool.or_eq_true,decide_eq_true_eq,List.contains_iff_mem] at h
 obtain ⟨⟨⟨⟨⟨⟨h1,h2⟩,h3⟩,h4⟩,h5⟩,h6⟩,h7⟩:=h
 refine ⟨h1,h2,fun y hy hl=>(h3 y hy).resolve_left fun z=>z hl,h4,h5,fun n hn=>(h6 _ hn).resolve_left fun z=>z rfl,fun q hq=>?_⟩
 obtain ⟨⟨⟨a,b⟩,c⟩,d⟩:=h7 q hq
 exact ⟨a,b,c,d⟩
noncomputable def eD (t : Loc → Mo Bool) (m : Loc → Mo ae) (free : Loc) : List ae → List ae → Mo (List ae)
 | [],acc=>ret acc
 | a :: as,acc=>bnd (t (some a :: free)) fun ok=>if ok then bnd (m (some a :: free)) fun v=>eD t m free as (acc ++ [v]) else eD t m free as acc
noncomputable def uJ : Loc → Mo Bool:=fun _=>ret true
noncomputable def t6 (prog : Program) (w : World) (B : Heap) (b : Nat) (sg : Sg) (ifs : List Expr) (m : Loc → Mo Bool) : Prop:=
 ∀ (A : Around) (Φ : Frm) (s : Shared) (G : Gh) (mm : Str → Option Value) (loc : Loc) (M : List ah) (r : Bool) (M' : List ah),
  eZ A b → Φ.Of sg → St prog w B Φ s.heap G mm loc M → m loc M = some (r,M') →
  ∀ (Q : Bool → Shared → Prop) (E : Value → Shared → Prop),
   (∀ h' tk' G',St prog w B Φ h' G' mm loc M' → Ext s.heap G h' G' → Q r { s with heap:=h',toks:=tk' }) →
   wpAny (model prog w) A (forIn ifs true fun c r=>if r = true then do let ok ← isTrue c Φ.env (eval c Φ.env); pure (ForInStep.yield ok) else pure (ForInStep.yield r)) Q E s
theorem BR : t6 prog w B b sg [] uJ:=by
 intro A Φ s G mm loc M r M' R hΦ S e Q E h
 cases e
 exact wpAny_tests_nil (h s.heap s.toks G S (Ext.refl _ _))
theorem BE {ct : Expr} {t : Loc → Mo Bool} (ht : lq prog w B b sg ct t) : t6 prog w B b sg [ct] t:=by
 intro A Φ s G mm loc M r M' R hΦ S e Q E h
 exact wpAny_tests_one (ht A Φ s G mm loc M r M' R hΦ S e Q E h)
theorem Fx {items : List Value} {v : Value} {n : Nat} : (listOf ((List.toArray items).push v) (n + 1)) = listOf (List.toArray (items ++ [v])) (n + 1):=by rw [List.push_toArray]
theorem bf.snoc {h : Heap} {G : Gh} {v : List Value} {a : List ae} {x : Value} {y : ae} (q : bf h G v a) (r : bO h G x y) : bf h G (v ++ [x]) (a ++ [y]):=q.append (.cons r .nil)
theorem St.compExt {Φ : Frm} {h h' : Heap} {G : Gh} {mm : Str → Option Value} {loc : Loc} {M : List ah} {q : Addr} (S : St prog w B Φ h G mm loc M) (tq : G.tag q = .below) (nc : ∀ v,¬ h.IsCell q v) (hs : Heap.SameBut q h h') (hlv : ∃ o,h'.get? q = some o) : St prog w B Φ h' G mm loc M:=S.iter_step tq nc hs hlv
inductive Fo (prog : Program) (w : World) (B : Heap) (Φ : Frm) (it D : Addr) (P : Heap → Gh → List ae → Prop) (s : Shared) (s₀ : Heap) (G₀ : Gh) (t : Loc → Mo Bool) (m : Loc → Mo ae) (free : Loc) (N : Nat) (o : List ae × List ah) (k : Nat) (s' : Shared) : Prop
 | mk (h' : Heap) (tk' : Nat) (G' : Gh) (mm' : Str → Option Value) (loc1 : Loc) (M1 : List ah) (as1 : List ae) (items : List Value) (acc : List ae) (n1 : Nat) (es : s' = { s with heap:=h',toks:=tk' }) (ek : k = as1.length) (S : St prog w B Φ h' G' mm' loc1 M1) (hl : ∃ z,loc1 = z :: free) (ti : G'.tag it = .below) (tD : G'.tag D = .below) (X : Ext s₀ G₀ h' G') (p : P h' G' as1) (oD : h'.get? D = some (listOf (List.toArray items) n1)) (q : bf h' G' items acc) (hn : acc.length + as1.length ≤ N) (e : eD t m free as1 acc M1 = some o)
theorem wK {it D : Addr} {P : Heap → Gh → List ae → Prop} (hP : k9 prog w it P) {x : Str} {px : Pos} {ifs : List Expr} {elt iter : Expr} {scope : Scope} {pos : Pos} {t : Loc → Mo Bool} {m : Loc → Mo ae} {sgc : Sg}
  (ht : t6 prog w B b sgc ifs t) (hm : bT prog w B b sgc elt m) (hx : sgc.names[0]? = some x)
  {A : Around} {Φ : Frm} {s₀ : Heap} {s : Shared} {G₀ G : Gh} {mm : Str → Option Value} {loc free : Loc} {M M' : List ah} {as : List ae} {r : List ae} {n : Nat} (R : eZ A b) (hΦ : Φ.Of sgc) (S : St prog w B Φ s.heap G mm loc M) (hloc : ∃ z,loc = z :: free)
  (hxl : Φ.env.kindOf x = some .local) (tD : G.tag D = .below) (hDi : D ≠ it) (tD0 : (G₀.tag D).kept = false) (oD : s.heap.get? D = some (listOf #[] n))
  (ti : G.tag it = .below) (t0 : (G₀.tag it).kept = false) (X0 : Ext s₀ G₀ s.heap G) (p : P s.heap G as) (e : eD t m free as [] M = some (r,M')) (hsm : bW as.length = true) {Rs : Result → Shared → Prop}
  (h : ∀ h' tk' G' mm' loc' items k,St prog w B Φ h' G' mm' loc' M' → Ext s₀ G₀ h' G' → G'.tag D = .below → h'.get? D = some (listOf (List.toArray items) k) → bf h' G' items r → Rs (.ok .next) { s with heap:=h',toks:=tk' }) :
  codeAny (model prog w) A (.compLoop (.ListComp elt [⟨.Name x px,iter,ifs,0⟩] scope pos) 0 (.ref it) (.ref D) Φ.env) Rs s:=by
 refine codeAny_compLoop_tests (Fo prog w B Φ it D P s s₀ G₀ t m free as.length (r,M'))
  (fun k s' hI=>?_) as.length ⟨s.heap,s.toks,G,mm,loc,M,as,[],[],n,rfl,rfl,S,hloc,ti,tD,X0,p,oD,.nil,by simp,e⟩
 clear S hloc tD oD ti X0 p e
 obtain ⟨h',tk',G',mm',loc1,M1,as1,items,acc,n1,rfl,rfl,S1,⟨z1,hz1⟩,ti1,tD1,X1,p1,oD1,q1,hle,e⟩:=hI
 have hi' : Φ.names[0]? = some x:=by rw [hΦ.2]; exact hx
 cases as1 with
 | nil=>
  cases e
  refine hP.done A _ G' R.hd p1 _ _ fun h2 hs=>?_
  have S2:=S1.iter_end ti1 (hP.nocell _ _ _ p1) hs
  have nit : ∀ a,(G'.tag a).solid = true → a ≠ it:=fun a k y=>by rw [y,ti1] at k; cases k
  have sol : eN h' G' h2 (G'.put it .free):=⟨fun a k=>by rw [Gh.put_ne _ _ (nit a k)]; exact k,fun a o k e=>hs a o (nit a k) e,List.prefix_refl _⟩
  exact h h2 tk' _ mm' _ items n1 S2 ((X1.past t0 hs).past_free t0) (by rw [Gh.put_ne _ _ hDi]; exact tD1) (hs D _ hDi oD1) (q1.mono sol)
 | cons a as1=>
  obtain ⟨ok,M2,e1,e2⟩:=aL e
  refine hP.next A _ G' a as1 ti1 p1 _ _ fun h2 tk2 v hs p2 r2=>?_
  have S2:=S1.iter_step ti1 (hP.nocell _ _ _ p1) hs (hP.live _ _ _ p2)
  have X2:=X1.past t0 hs.extBut
  have oD2 : h2.get? D = some (listOf (List.toArray items) n1):=(hs.2 D hDi).trans oD1
  have q2:=q1.mono (ip ti1 hs)
  have hp : (Φ.env.scope.kind == .class || (Φ.env.scope.kind == .module && Φ.env.locals != Φ.env.globals)) = false:=by
   have : Φ.env.scope.kind = .function:=S1.ok.kind
   rw [this]; rfl
  refine wpAny_assign_Name (wpAny_storeName_local hxl S2.ns (fun h3 hn3 hs3=>?_) hp)
  obtain ⟨S3,X3⟩:=S2.store hi' hxl r2 hn3 hs3
  have p3:=hP.keep _ _ _ _ _ ti1 p2 X3
  have hset : loc1.set 0 (some a) = some a :: free:=by rw [hz1]; rfl
  rw [hset] at S3
  refine ht A Φ { s with heap:=h3,toks:=_ } G' _ _ M1 ok M2 R hΦ S3 e1 _ _ fun h4 tk4 G4 S4 X4=>?_
  have X34:=X3.trans X4
  have ti4 : G4.tag it = .below:=by rw [X34.tag it (by rw [ti1]; rfl)]; exact ti1
  have tD4 : G4.tag D = .below:=by rw [X34.tag D (by rw [tD1]; rfl)]; exact tD1
  have oD4 : h4.get? D = some (listOf (List.toArray items) n1):=X34.obj D _ (by rw [tD1]; rfl) oD2
  have p4:=hP.keep _ _ _ _ _ ti1 p3 X4
  have q4:=q2.mono X34.solid
  cases ok with
  | false=>
   rw [if_neg (by decide)] at e2 ⊢
   exact ⟨as1.length,Nat.lt_succ_self _,h4,tk4,G4,_,_,M2,as1,items,acc,n1,rfl,rfl,S4,⟨_,rfl⟩,ti4,tD4,X2.trans X34,p4,oD4,q4,by simp at hle ⊢; exact IN hle,e2⟩
  | true=>
   rw [if_pos rfl] at e2 ⊢
   obtain ⟨v',M3,e3,e4⟩:=aL e2
   refine hm A Φ { s with heap:=h4,toks:=tk4 } G4 _ _ M2 v' M3 R hΦ S4 e3 _ _ fun h5 tk5 G5 y S5 X5 r5=>?_
   have ti5 : G5.tag it = .below:=by rw [X5.tag it (by rw [ti4]; rfl)]; exact ti4
   have tD5 : G5.tag D = .below:=by rw [X5.tag D (by rw [tD4]; rfl)]; exact tD4
   have oD5 : h5.get? D = some (listOf (List.toArray items) n1):=X5.obj D _ (by rw [tD4]; rfl) oD4
   have p5:=hP.keep _ _ _ _ _ ti4 p4 X5
   have q5:=q4.mono X5.solid
   refine append_at oD5 (fun h6 hs6 oD6=>?_) (by rw [List.size_toArray,q5.length]; exact Nat.le_trans (Nat.le_trans (Nat.le_add_right _ _) hle) (b8 hsm))
   have nc : ∀ v,¬ h5.IsCell D v:=fun v ⟨o,eo,d⟩=>by rw [oD5] at eo; cases eo; cases d
   have S6:=S5.iter_step tD5 nc hs6 ⟨_,oD6⟩
   have sol:=ip tD5 hs6
   have X6 : Ext s₀ G₀ h6 G5:=((X2.trans X34).trans X5).past tD0 hs6.extBut
   rw [List.push_toArray] at oD6
   exact ⟨as1.length,Nat.lt_succ_self _,h6,tk5,G5,_,_,M3,as1,items ++ [y],acc ++ [v'],n1 + 1,rfl,rfl,S6,⟨_,rfl⟩,ti5,tD5,X6,hP.keepBut _ _ _ _ _ (by rw [tD5]; rfl) hDi p5 hs6,oD6,(q5.mono sol).snoc (r5.mono sol),by simp at hle ⊢; exact Jo hle,e4⟩
end
end Mine
end
section
namespace Mine
section
variable {prog : Program} {w : World} {B : Heap} {b : Nat} {sg : Sg} {K : Frag} {p : Program} {loose : List Str} {mg mb : Str → Option Value}
theorem St.turnFree {Φ : Frm} {h h' : Heap} {G : Gh} {mm : Str → Option Value} {loc : Loc} {M : List ah} {q : Addr} (S : St prog w B Φ h G mm loc M) (tq : G.tag q = .free) (hs : Heap.SameBut q h h') : St prog w B Φ h' G mm loc M ∧ Ext h G h' G:=by
 have ne : ∀ a,G.tag a ≠ .free → a ≠ q:=fun a k e=>k (e ▸ tq)
 have X : Ext h G h' G:=⟨fun _ _=>rfl,fun a o k e=>(hs.2 a (ne a fun z=>by rw [z] at k; cases k)).trans e,List.prefix_refl _⟩
 refine ⟨S.move ⟨fun b o e=>?_,fun a=>?_,S.core.len,fun i o e=>?_,by rw [hs.1]; exact S.core.size⟩ X.solid fun a pl=>⟨rfl,fun o e=>(hs.2 a (ne a fun z=>?_)).trans e⟩,X⟩
 ·obtain ⟨t,e'⟩:=S.core.base b o e
  exact ⟨t,(hs.2 b (ne b (by rw [t]; exact fun z=>nomatch z))).trans e'⟩
 ·by_cases z : a = q
  ·subst z; exact .inl tq
  ·exact (S.core.live a).imp id fun ⟨o,e⟩=>⟨o,(hs.2 a z).trans e⟩
 ·exact (S.core.muts i o e).mono prog w X.solid fun a t=>⟨t,fun o e=>(hs.2 a (ne a (by rw [t]; exact fun z=>nomatch z))).trans e⟩
 ·rcases S.place pl with y | y <;> rw [y] at z <;> cases z
noncomputable def su (prog : Program) (w : World) (B : Heap) (Φ : Frm) (mm : Str → Option Value) (loc : Loc) (h1 : Heap) (G1 : Gh) (vs : List ae) (M' : List ah) (D C : Addr) (h' : Heap) : Prop:=
 ∃ G',St prog w B Φ h' G' mm loc (M' ++ [.lst vs]) ∧ Ext h1 G1 h' G' ∧ bO h' G' (.ref D) (.mref M'.length) ∧ G'.tag C = .free ∧ (∃ m,h'.Ns C m) ∧ C ≠ Φ.L
theorem nK {oi : Obj} {P : Heap → Gh → List ae → Prop} {x : Str} {px : Pos} {ifs : List Expr} {elt iter : Expr} {cs : Scope} {pos : Pos} {fr : List (Nat × Str)} {t : Loc → Mo Bool} {m : Loc → Mo ae}
  (ok : pD sg cs x fr) (ht : t6 prog w B b ⟨dn cs sg.scope,x :: fr.map (·.2)⟩ ifs t) (hm : bT prog w B b ⟨dn cs sg.scope,x :: fr.map (·.2)⟩ elt m)
  {A : Around} {Φ : Frm} {s : Shared} {h1 : Heap} {G1 : Gh} {mm : Str → Option Value} {loc : Loc} {M M' : List ah} {as : List ae} {vs : List ae} (R : eZ A b) (hΦ : Φ.Of sg) (S1 : St prog w B Φ h1 G1 mm loc M) (hoi : oi.isFreed = false)
  (hP : k9 prog w h1.objs.size P) (pp : P (h1.push oi) ((Φ.low G1).put h1.objs.size .below) as)
  (hself : ∀ (s' : Shared) (Q E : Value → Shared → Prop),s'.heap.get? h1.objs.size = some oi → Q (.ref h1.objs.size) s' → wpAny (model prog w) A (pyIter (.ref h1.objs.size)) Q E s')
  (e : eD t m (fr.map fun q=>(loc[q.1]?).join) as [] M = some (vs,M')) (hsm : bW as.length = true) {E : Value → Shared → Prop} {RR : Value → Addr → Result → Shared → Prop}
  (hR : ∀ D C h' tk',su prog w B Φ mm loc h1 G1 vs M' D C h' → RR (.ref D) C (.ok .next) { s with heap:=h',toks:=tk' }) :
  wpAny (model prog w) A (newList []) (fun acc s₃=>wpAny (model prog w) A (newFunctionEnv cs Φ.env.globals (kf Φ.env.cells cs.names []) [] Φ.env.qual none .none (some Φ.env)) (fun cenv s₄=>
   codeAny (model prog w) A (.compStart (.ListComp elt [⟨.Name x px,iter,ifs,0⟩] cs pos) 0 (.ref h1.objs.size) acc { cenv with scope:=relabel cs Φ.env }) (RR acc cenv.locals) s₄) E s₃) E { s with heap:=h1.push oi }:=by
 have hfree : ∀ n,(n,NameKind.free) ∈ cs.names → (Φ.env.cells.lookup n).isSome = true:=fun n hn=>by
  obtain ⟨q,hq,rfl⟩:=List.mem_map.mp (ok.free n hn)
  obtain ⟨o1,o2,_⟩:=ok.outer q hq
  have hmem : q.2 ∈ Φ.names:=by rw [hΦ.2]; exact List.mem_of_getElem? o1
  rcases S1.ok.kinds q.2 hmem with k | ⟨k,c,hc⟩
  ·have : Φ.env.scope.names.lookup q.2 = some .local:=k
   rw [hΦ.1,o2] at this; cases this
  ·rw [hc]; rfl
 have hcl : ∀ {n : Str} {c : Addr},(kf Φ.env.cells cs.names []).lookup n = some c → Φ.env.cells.lookup n = some c:=fun e=>iz hfree (fun n c e=>by cases e) e
 refine wpAny_newObj_type (wpAny_newFunctionEnv ok.cell (by intro y hy; simp at hy) (fun h₁ hns₁ hsb₁=>?_) ok.kind)
 dsimp only at hns₁ hsb₁ ⊢
 have c0:=S1.lower
 have c2:=c0.push oi .below hoi
 have sz2 : (h1.push oi).objs.size = h1.objs.size + 1:=Heap.size_push ..
 generalize hH2 : h1.push oi = H2 at hns₁ hsb₁ c2 sz2 pp ⊢
 have c3:=c2.push { cls:=.type "list",data:=.seq ([] : List Value).toArray } .below
 have sz3 : (H2.push { cls:=.type "list",data:=.seq ([] : List Value).toArray }).objs.size = H2.objs.size + 1:=Heap.size_push ..
 have hD : (H2.push { cls:=.type "list",data:=.seq ([] : List Value).toArray }).get? H2.objs.size = some { cls:=.type "list",data:=.seq ([] : List Value).toArray }:=Heap.get?_push_size _ rfl
 have k23 : ∀ a o,H2.get? a = some o → (H2.push { cls:=.type "list",data:=.seq ([] : List Value).toArray }).get? a = some o:=fun a o e=>Heap.get?_push_of_some _ e
 generalize hH3 : H2.push { cls:=.type "list",data:=.seq ([] : List Value).toArray } = H3 at hns₁ hsb₁ c3 sz3 hD k23 ⊢
 let cl:=kf Φ.env.cells cs.names []
 let Φc : Frm:=⟨compEnvC cs cl H3.objs.size Φ.env,x :: fr.map (·.2),[H3.objs.size]⟩
 let G3 : Gh:=(((Φ.low G1).put h1.objs.size .below).put H2.objs.size .below)
 let G4 : Gh:=G3.put H3.objs.size .frame
 have old3 : ∀ a o,H3.get? a = some o → h₁.get? a = some o:=fun a o e=>hsb₁.extBut a o (Nat.ne_of_lt (Heap.lt_size e)) (Heap.get?_push_of_some _ e)
 have liveC : ∃ o,h₁.get? H3.objs.size = some o:=let ⟨o,a1,a2,hL,a3⟩:=hns₁; ⟨o,hL⟩
 have g34 : ml H3 G3 h₁ G4:=by
  refine ⟨fun a k=>?_,List.prefix_refl _,?_,fun a=>?_⟩
  ·have hne : a ≠ H3.objs.size:=fun z=>k (z ▸ c3.free)
   exact ⟨G3.put_ne _ hne,fun o e=>old3 a o e⟩
  ·obtain ⟨o,e⟩:=liveC
   exact Nat.le_of_lt (Heap.lt_size e)
  ·by_cases z : a = H3.objs.size
   ·subst z; exact .inr liveC
   ·show (G3.put _ _).tag a = _ ∨ _
    rw [G3.put_ne _ z]
    exact (c3.live a).imp id fun ⟨o,e⟩=>⟨o,old3 a o e⟩
 have c4 : bJ prog w B h₁ G4 M:=c3.grow g34 c3.len
 have nI : h1.objs.size < H2.objs.size:=IJ sz2
 have nD : H2.objs.size < H3.objs.size:=Ii sz2 sz3
 have nID:=Nat.lt_trans nI nD
 have tI4 : G4.tag h1.objs.size = .below:=by
  show ((((Φ.low G1).put _ _).put _ _).put _ _).tag _ = _
  rw [Gh.put_ne _ _ (Nat.ne_of_lt (Nat.lt_trans nI nD)),Gh.put_ne _ _ (Nat.ne_of_lt nI),Gh.put_same]
 have tD4 : G4.tag H2.objs.size = .below:=by
  show ((((Φ.low G1).put _ _).put _ _).put _ _).tag _ = _
  rw [Gh.put_ne _ _ (Nat.ne_of_lt nD),Gh.put_same]
 have fr0 : ∀ a,h1.objs.size ≤ a → (Φ.low G1).tag a = .free:=fun a ha=>c0.freeAt ha
 have X04 : Ext h1 (Φ.low G1) h₁ G4:=by
  have ne : ∀ a,((Φ.low G1).tag a).kept = true → a < h1.objs.size:=fun a k=>by
   rcases Nat.lt_or_ge a h1.objs.size with z | z
   ·exact z
   ·rw [fr0 a z] at k; cases k
  refine ⟨fun a k=>?_,fun a o k e=>?_,List.prefix_refl _⟩
  ·have:=ne a k
   show ((((Φ.low G1).put _ _).put _ _).put _ _).tag _ = _
   rw [Gh.put_ne _ _ (Nat.ne_of_lt (Nat.lt_trans this nID)),Gh.put_ne _ _ (Nat.ne_of_lt (Nat.lt_trans this nI)),Gh.put_ne _ _ (Nat.ne_of_lt this)]
  ·exact old3 a o (k23 a o (hH2 ▸ Heap.get?_push_of_some _ e))
 have low4 : ∀ {a : Addr},(Φ.low G1).tag a = .below → G4.tag a = .below:=fun {a} k=>by rw [X04.tag a (by rw [k]; rfl)]; exact k
 have X24 : Ext H2 ((Φ.low G1).put h1.objs.size .below) h₁ G4:=by
  refine ⟨fun a k=>?_,fun a o k e=>old3 a o (k23 a o e),List.prefix_refl _⟩
  have : a < H2.objs.size:=by
   rcases Nat.lt_or_ge a H2.objs.size with z | z
   ·exact z
   ·rw [c2.freeAt z] at k; cases k
  show ((((Φ.low G1).put _ _).put _ _).put _ _).tag _ = _
  rw [Gh.put_ne _ _ (Nat.ne_of_lt (Nat.lt_trans this nD)),Gh.put_ne _ _ (Nat.ne_of_lt this)]
 have hkl : ∀ y,Φc.env.kindOf y = (dn cs sg.scope).names.lookup y:=fun y=>by
  show (relabel cs Φ.env).names.lookup y = _
  rw [nZ,hΦ.1]
 have hxl : Φc.env.kindOf x = some .local:=lookup_relabel_local ok.xl
 have okC : Φc.Ok:=by
  refine ⟨ok.kind,S1.ok.glob,S1.ok.blt,ok.nd,fun y hy=>?_,List.mem_singleton.mpr rfl,fun y c ec=>?_,fun y z c e1 e2=>S1.ok.inj y z c (hcl e1) (hcl e2)⟩
  ·rcases List.mem_cons.mp hy with rfl | hy
   ·exact .inl hxl
   ·obtain ⟨q,hq,rfl⟩:=List.mem_map.mp hy
    obtain ⟨o1,o2,o3,o4⟩:=ok.outer q hq
    refine .inr ⟨by rw [hkl]; exact o3,Option.isSome_iff_exists.mp (je (.inl o4))⟩
  ·obtain ⟨⟨v,o,eo,_⟩,_⟩:=S1.cell y c (hcl ec)
   have:=Heap.lt_size eo
   exact Nat.ne_of_lt (Nat.lt_trans this nID)
 have Sc : St prog w B Φc h₁ G4 (fun y=>([] : List (Str × Value)).reverse.lookup y) (none :: fr.map fun q=>(loc[q.1]?).join) M:=by
  refine ⟨c4,hns₁,fun a ha=>?_,fun y c ec=>?_,?_,okC,fun i y a e1 e2=>?_⟩
  ·obtain rfl:=List.mem_singleton.mp ha
   exact ⟨Gh.put_same _ _ _,liveC⟩
  ·obtain ⟨⟨v,q⟩,_⟩:=S1.cell y c (hcl ec)
   refine ⟨⟨v,IsCell.at_ q fun o e=>old3 c o (k23 c o (hH2 ▸ Heap.get?_push_of_some _ e))⟩,.inr (low4 (S1.low_place (.inr ⟨y,hcl ec⟩)))⟩
  ·show B.objs.size ≤ H3.objs.size
   exact c3.size
  ·cases i with
   | zero=>simp at e2
   | succ i=>
    rw [List.getElem?_cons_succ] at e1 e2
    rw [List.getElem?_map] at e1 e2
    cases hq : fr[i]? with
    | none=>rw [hq] at e1; cases e1
    | some q=>
     rw [hq] at e1 e2
     simp only [Option.map_some,Option.some.injEq] at e1 e2
     subst e1
     obtain ⟨o1,o2,o3,o4⟩:=ok.outer q (List.mem_of_getElem? hq)
     have e3 : loc[q.1]? = some (some a):=by
      cases z : loc[q.1]? with
      | none=>rw [z] at e2; cases e2
      | some u=>rw [z] at e2; simp at e2; rw [e2]
     obtain ⟨v,hv,r⟩:=S1.loc q.1 q.2 a (by rw [hΦ.2]; exact o1) e3
     refine ⟨v,?_,(S1.lower_val r).mono X04.solid⟩
     rcases hv with ⟨k1,_⟩ | ⟨c,k1,k2,k3⟩
     ·have : Φ.env.scope.names.lookup q.2 = some .local:=k1
      rw [hΦ.1,o2] at this; cases this
     ·obtain ⟨c',hc'⟩:=Option.isSome_iff_exists.mp (je (cells:=Φ.env.cells) (acc:=[]) (.inl o4))
      have : c' = c:=by have:=hcl hc'; rw [k2] at this; cases this; rfl
      subst this
      exact .inr ⟨c',by rw [hkl]; exact o3,hc',IsCell.at_ k3 fun o e=>old3 _ o (k23 _ o (hH2 ▸ Heap.get?_push_of_some _ e))⟩
 have hDI : H2.objs.size ≠ h1.objs.size:=Nat.ne_of_gt nI
 have pI:=hP.keep _ _ _ _ _ (by rw [Gh.put_same]) pp X24
 have oI : h₁.get? h1.objs.size = some oi:=old3 _ _ (k23 _ _ (hH2 ▸ Heap.get?_push_size _ hoi))
 have loop : ∀ s₃ : Shared,s₃ = { s with heap:=h₁,toks:=s.toks + ([] : List (Str × Value)).length } →
   codeAny (model prog w) A (.compLoop (.ListComp elt [⟨.Name x px,iter,ifs,0⟩] cs pos) 0 (.ref h1.objs.size) (.ref H2.objs.size) Φc.env) (RR (.ref H2.objs.size) H3.objs.size) s₃:=by
  rintro s₃ rfl
  refine wK (s₀:=h1) (G₀:=Φ.low G1) hP ht hm rfl (s:={ s with heap:=h₁,toks:=s.toks + ([] : List (Str × Value)).length }) R ⟨by show relabel cs Φ.env = _; rw [nZ,hΦ.1],rfl⟩ Sc ⟨_,rfl⟩ hxl tD4 hDI (by rw [fr0 _ (Nat.le_of_lt nI)]; rfl) (old3 _ _ hD) tI4 (by rw [fr0 _ (Nat.le_refl _)]; rfl) X04 pI e hsm fun h' tk' G' mm' loc' items k S' X' tD' oD' q'=>?_
  refine hR _ _ h' tk' ?_
  have tC' : G'.tag H3.objs.size = .frame:=(S'.own _ (List.mem_singleton.mpr rfl)).1
  have liveC':=(S'.own _ (List.mem_singleton.mpr rfl)).2
  have c5 : bJ prog w B h' (G'.putAll [H3.objs.size] .free) M':=S'.core.retag (t:=.frame) (fun a ha=>by obtain rfl:=List.mem_singleton.mp ha; exact tC') (fun z=>nomatch z) (fun _ z=>nomatch z) rfl (fun a ha=>by obtain rfl:=List.mem_singleton.mp ha; exact liveC')
  let G5 : Gh:=G'.putAll [H3.objs.size] .free
  let G6 : Gh:=G5.add H2.objs.size
  have tD5 : G5.tag H2.objs.size = .below:=by
   show (G'.putAll _ _).tag _ = _
   rw [G'.putAll_out _ (fun z=>Nat.ne_of_lt nD (List.mem_singleton.mp z))]; exact tD'
  have sol56 : eN h' G5 h' G6:=⟨fun a k=>by
   show ((G5.put _ _).tag a).solid = true
   rw [G5.put_ne _ (fun z=>by rw [z,tD5] at k; cases k)]; exact k,fun a o k e=>e,List.prefix_append _ _⟩
  have sol5 : eN h' G' h' G5:=fU fun a ha=>by obtain rfl:=List.mem_singleton.mp ha; rw [tC']; rfl
  have hr : G6.ρ[M'.length]? = some H2.objs.size:=by rw [← c5.len]; exact G5.add_ρ _
  have hmat : MAt prog w h' G6 M'.length (.lst vs):=⟨H2.objs.size,items,k,hr,by rw [← c5.len]; exact G5.add_tag _,oD',(q'.mono sol5).mono sol56⟩
  have c6 : bJ prog w B h' G6 (M' ++ [.lst vs]):=by
   have ne : ∀ a,G5.tag a ≠ .below → a ≠ H2.objs.size:=fun a k z=>k (z ▸ tD5)
   refine ⟨fun b o e=>?_,fun a=>?_,by show (G5.ρ ++ [_]).length = _; rw [List.length_append,c5.len,List.length_append]; rfl,fun i o e=>?_,c5.size⟩
   ·obtain ⟨tb,e'⟩:=c5.base b o e
    exact ⟨by show (G5.put _ _).tag b = _; rw [G5.put_ne _ (ne b (by rw [tb]; exact fun z=>nomatch z))]; exact tb,e'⟩
   ·by_cases z : a = H2.objs.size
    ·subst z; exact .inr ⟨_,oD'⟩
    ·show (G5.put _ _).tag a = _ ∨ _
     rw [G5.put_ne _ z]; exact c5.live a
   ·by_cases hi : i < M'.length
    ·rw [List.getElem?_append_left hi] at e
     exact (c5.muts i o e).mono prog w sol56 fun a ta=>⟨by show (G5.put _ _).tag a = _; rw [G5.put_ne _ (ne a (by rw [ta]; exact fun z=>nomatch z))]; exact ta,fun o e=>e⟩
    ·obtain ⟨hi2,_⟩:=List.getElem?_eq_some_iff.mp e
     rw [List.length_append] at hi2
     have : i = M'.length:=by simp at hi2; exact Dn hi hi2
     subst this
     rw [List.getElem?_append_right (Nat.le_refl _),Nat.sub_self] at e
     cases e
     exact hmat
  have X6 : Ext h1 (Φ.low G1) h' G6:=by
   have ne : ∀ a,((Φ.low G1).tag a).kept = true → a < h1.objs.size:=fun a k=>by
    rcases Nat.lt_or_ge a h1.objs.size with z | z
    ·exact z
    ·rw [fr0 a z] at k; cases k
   refine ⟨fun a k=>?_,X'.obj,X'.ρ.trans (List.prefix_append _ _)⟩
   have:=ne a k
   show ((G'.putAll _ _).put _ _).tag a = _
   rw [Gh.put_ne _ _ (Nat.ne_of_lt (Nat.lt_trans this nI)),G'.putAll_out _ (fun z=>Nat.ne_of_lt (Nat.lt_trans this nID) (List.mem_singleton.mp z))]
   exact X'.tag a k
  have nL : ∀ a,Φ.Place a → a < h1.objs.size:=fun a pl=>by
   rcases Nat.lt_or_ge a h1.objs.size with z | z
   ·exact z
   ·have:=S1.low_place pl; rw [fr0 a z] at this; cases this
  have nown : H3.objs.size ∉ Φ.own:=fun z=>Nat.lt_asymm (nL _ (.inl z)) nID
  refine ⟨Φ.high G6,S1.back X6 c6,S1.back_ext X6,.mref hr,?_,⟨_,S'.ns⟩,fun z=>Nat.lt_asymm (nL _ (.inl S1.ok.Lown)) (z ▸ nID)⟩
  show (G6.putAll _ _).tag _ = _
  rw [G6.putAll_out _ nown]
  show ((G'.putAll _ _).put _ _).tag _ = _
  rw [Gh.put_ne _ _ (Nat.ne_of_gt nD)]
  exact G'.putAll_in _ (List.mem_singleton.mpr rfl)
 exact codeAny_compStart_list (loop _ rfl) (hself _ _ _ oI (loop _ rfl))
theorem rq {x : Str} {px : Pos} {ifs : List Expr} {elt iter : Expr} {cs : Scope} {pos : Pos} {fr : List (Nat × Str)} {t : Loc → Mo Bool} {m l : Loc → Mo ae}
  (ok : pD sg cs x fr) (hl : bT prog w B b sg iter l) (ht : t6 prog w B b ⟨dn cs sg.scope,x :: fr.map (·.2)⟩ ifs t) (hm : bT prog w B b ⟨dn cs sg.scope,x :: fr.map (·.2)⟩ elt m)
  {A : Around} {Φ : Frm} {s : Shared} {G : Gh} {mm : Str → Option Value} {loc : Loc} {M M1 M' : List ah} {a : ae} {as : List ae} {vs : List ae} (R : eZ A b) (hΦ : Φ.Of sg) (S : St prog w B Φ s.heap G mm loc M) (el : l loc M = some (a,M1)) (ea : cR a = some as)
  (e : eD t m (fr.map fun q=>(loc[q.1]?).join) as [] M1 = some (vs,M')) (hsm : bW as.length = true) {E : Value → Shared → Prop} {RR : Value → Addr → Result → Shared → Prop}
  (hR : ∀ D C h' tk' G' ,St prog w B Φ h' G' mm loc (M' ++ [.lst vs]) → Ext s.heap G h' G' → bO h' G' (.ref D) (.mref M'.length) → G'.tag C = .free → (∃ m,h'.Ns C m) → C ≠ Φ.L → RR (.ref D) C (.ok .next) { s with heap:=h',toks:=tk' }) :
  wpAny (model prog w) A (eval iter Φ.env) (fun x₁ s₁=>wpAny (model prog w) A (pyIter x₁) (fun it s₂=>wpAny (model prog w) A (newList []) (fun acc s₃=>
   wpAny (model prog w) A (newFunctionEnv cs Φ.env.globals (kf Φ.env.cells cs.names []) [] Φ.env.qual none .none (some Φ.env)) (fun cenv s₄=>
    codeAny (model prog w) A (.compStart (.ListComp elt [⟨.Name x px,iter,ifs,0⟩] cs pos) 0 it acc { cenv with scope:=relabel cs Φ.env }) (RR acc cenv.locals) s₄) E s₃) E s₂) E s₁) E s:=by
 refine hl A Φ s G mm loc M a M1 R hΦ S el _ _ fun h1 tk1 G1 v S1 X1 r1=>?_
 have lowfree : (Φ.low G1).tag h1.objs.size = .free:=S1.lower.free
 have fin : ∀ D C h' tk',su prog w B Φ mm loc h1 G1 vs M' D C h' → RR (.ref D) C (.ok .next) { s with heap:=h',toks:=tk' }:=fun D C h' tk' ⟨G',S',X',r',t',n',ne⟩=>hR D C h' tk' G' S' (X1.trans X') r' t' n' ne
 cases r1 with
 | @lst ad items vs' k pl rs=>
  cases ea
  refine wpAny_pyIter_list pl ?_
  have X2:=Ext.start (o:={ cls:=.type "list_iterator",data:=.fields #[.ref ad,.int 0 0] }) (t:=.below) lowfree
  refine nK (s:={ s with toks:=tk1 }) (G1:=G1) (h1:=h1) (oi:={ cls:=.type "list_iterator",data:=.fields #[.ref ad,.int 0 0] }) ok ht hm R hΦ S1 rfl (lK _) ⟨ad,items,0,X2.solid.tag _ (S1.low_solid.tag _ k),⟨_,Heap.get?_push_size _ rfl,rfl,rfl⟩,pl.push _,by rw [List.drop_zero]; exact (S1.lower_vals rs).mono X2.solid⟩ ?_ e hsm fin
  intro s' Q E' ho hq
  exact wpAny_pyIter_listiter ⟨_,ho,rfl,rfl⟩ hq
 | @rng ad lo hi' st t' u v' k pl=>
  by_cases hsml : Builtin.Range.small lo hi' st = true
  ·simp only [cR,hsml,if_true] at ea
   cases ea
   refine wpAny_pyIter_range pl hsml ?_
   refine nK (s:={ s with toks:=tk1 }) (G1:=G1) (h1:=h1) (oi:={ cls:=.type "range_iterator",data:=.fields #[rawInt lo,rawInt (Builtin.Range.rangeSize lo hi' st),rawInt st] }) ok ht hm R hΦ S1 rfl (j7 _) ⟨lo,st,(Builtin.Range.rangeSize lo hi' st).toNat,?_,rfl⟩ ?_ e hsm fin
   ·have : Int.ofNat (Builtin.Range.rangeSize lo hi' st).toNat = Builtin.Range.rangeSize lo hi' st:=Int.toNat_of_nonneg (gU ..)
    rw [this]
    exact Heap.get?_push_size _ rfl
   ·intro s' Q E' ho hq
    exact wpAny_pyIter_rangeiter ho hq
  ·simp only [cR,hsml] at ea
   cases ea
 | _=>cases ea
noncomputable def iO (fr : List (Nat × Str)) (l : Loc → Mo ae) (t : Loc → Mo Bool) (m : Loc → Mo ae) : Loc → Mo ae:=fun loc=>bnd (l loc) fun a M=>match cR a with
 | some as=>if bW as.length then bnd (eD t m (fr.map fun q=>(loc[q.1]?).join) as []) tz M else none
 | none=>none
theorem v7 {cs : Scope} {x : Str} {fr : List (Nat × Str)} (ok : pD sg cs x fr) {Φ : Frm} {h : Heap} {G : Gh} {mm : Str → Option Value} {loc : Loc} {M : List ah} (S : St prog w B Φ h G mm loc M) (hΦ : Φ.Of sg) : closureFor cs Φ.env = pure (kf Φ.env.cells cs.names []):=by
 refine r7 fun n hn=>?_
 obtain ⟨q,hq,rfl⟩:=List.mem_map.mp (ok.free n hn)
 obtain ⟨o1,o2,_⟩:=ok.outer q hq
 have hmem : q.2 ∈ Φ.names:=by rw [hΦ.2]; exact List.mem_of_getElem? o1
 rcases S.ok.kinds q.2 hmem with k | ⟨k,c,hc⟩
 ·have : Φ.env.scope.names.lookup q.2 = some .local:=k
  rw [hΦ.1,o2] at this; cases this
 ·rw [hc]; rfl
theorem uY {x : Str} {px : Pos} {ifs : List Expr} {elt iter : Expr} {cs : Scope} {pos : Pos} {fr : List (Nat × Str)} {t : Loc → Mo Bool} {m l : Loc → Mo ae}
  (ok : pD sg cs x fr) (hl : bT prog w B b sg iter l) (ht : t6 prog w B b ⟨dn cs sg.scope,x :: fr.map (·.2)⟩ ifs t) (hm : bT prog w B b ⟨dn cs sg.scope,x :: fr.map (·.2)⟩ elt m)
  (hs : ∀ env x,foldedSetIterable iter env x = pure x:=by intro _ _; rfl) : bT prog w B b sg (.ListComp elt [⟨.Name x px,iter,ifs,0⟩] cs pos) (iO fr l t m):=by
 intro A Φ s G mm loc M r M' R hΦ S e Q E h
 obtain ⟨a,M1,e1,e⟩:=aL e
 split at e
 ·rename_i has
  split at e
  ·rename_i hsm
   obtain ⟨vs,M2,e2,e⟩:=aL e
   obtain ⟨rfl,rfl⟩:=dO e
   rw [eval_ListComp]
   refine wpAny_comprehension_free (use:=none) rfl (hs _) (v7 ok S hΦ) ok.kind ok.locs (rq (RR:=fun acc C=>compPost (model prog w) A E none Q acc C) ok hl ht hm R hΦ S e1 has e2 hsm fun D C h' tk' G' S' X' r' t' n' ne=>?_)
   obtain ⟨m',n'⟩:=n'
   refine ⟨m',n',fun h2 hs2=>?_⟩
   obtain ⟨S2,X2⟩:=S'.turnFree t' hs2
   exact h h2 tk' G' _ S2 (X'.trans X2) (r'.mono X2.solid)
  ·cases e
 ·cases e
theorem qz {i : Nat} {x y : Str} {px py : Pos} {ifs : List Expr} {elt iter : Expr} {cs : Scope} {pos spos : Pos} {fr : List (Nat × Str)} {t : Loc → Mo Bool} {m l : Loc → Mo ae}
  (hi : sg.names[i]? = some y) (hyl : sg.scope.names.lookup y = some .local) (ok : pD sg cs x fr) (hl : bT prog w B b sg iter l) (ht : t6 prog w B b ⟨dn cs sg.scope,x :: fr.map (·.2)⟩ ifs t) (hm : bT prog w B b ⟨dn cs sg.scope,x :: fr.map (·.2)⟩ elt m)
  (hline : (py.line == pos.line) = true) (hno : (cs.names.any fun q=>q.1 == y && (q.2 == .local || q.2 == .cell)) = false)
  (hs : ∀ env x,foldedSetIterable iter env x = pure x:=by intro _ _; rfl) : hA prog w B b sg (.Assign [.Name y py] (.ListComp elt [⟨.Name x px,iter,ifs,0⟩] cs pos) spos) (a7 i (iO fr l t m)):=by
 intro A Φ s G mm loc M r loc' M' R hΦ S e Q E h
 obtain ⟨v,M0,e,e9⟩:=aL e
 cases e9
 obtain ⟨a,M1,e1,e⟩:=aL e
 split at e
 ·rename_i has
  split at e
  ·rename_i hsm
   obtain ⟨vs,M2,e2,e⟩:=aL e
   obtain ⟨rfl,rfl⟩:=dO e
   have hy : Φ.env.kindOf y = some .local:=by show Φ.env.scope.names.lookup y = _; rw [hΦ.1.1]; exact hyl
   have hsw : swapsWith (.ListComp elt [⟨.Name x px,iter,ifs,0⟩] cs pos) (some (.Name y py)) spos.line Φ.env = pure true:=by
    show (pure (Φ.env.blockKind == .function && Φ.env.kindOf y == some .local && py.line == pos.line && !(cs.names.any fun (n,k)=>n == y && (k == .local || k == .cell))) : Sem Bool) = pure true
    have hb : Φ.env.blockKind = .function:=by
     unfold Env.blockKind
     rw [S.ok.kind]; rfl
    rw [hb,hy,hline]
    have : (cs.names.any fun (n,k)=>n == y && (k == .local || k == .cell)) = false:=hno
    rw [this]; rfl
   rw [exec_Assign_Name_used _ _ _ _ hsw]
   refine wpAny_bind (wpAny_standAt (wpAny_bind ?_))
   show wpAny _ A (do let _ ← comprehension (.ListComp elt [⟨.Name x px,iter,ifs,0⟩] cs pos) cs Φ.env _ (newList []) false (eval iter Φ.env) (some (assign (.Name y py) Φ.env))) _ _ s
   refine wpAny_bind (wpAny_mono (wpAny_comprehension_free (use:=some (assign (.Name y py) Φ.env)) (Q:=fun _ s'=>Q .next s') rfl (hs _) (v7 ok S hΦ.1) ok.kind ok.locs
    (rq (RR:=fun acc C=>compPost (model prog w) A E (some (assign (.Name y py) Φ.env)) (fun _ s'=>Q .next s') acc C) ok hl ht hm R hΦ.1 S e1 has e2 hsm fun D C h' tk' G' S' X' r' t' n' ne=>?_)) (fun _ s' hq=>wpAny_pure (wpAny_pure hq)) fun _ _ e=>e)
   obtain ⟨m',n'⟩:=n'
   have hp : (Φ.env.scope.kind == .class || (Φ.env.scope.kind == .module && Φ.env.locals != Φ.env.globals)) = false:=by
    have : Φ.env.scope.kind = .function:=S.ok.kind
    rw [this]; rfl
   show wpAny _ A (assign (.Name y py) Φ.env (.ref D)) _ _ _
   refine wpAny_assign_Name (wpAny_storeName_local hy S'.ns (fun h2 hn2 hs2=>?_) hp)
   obtain ⟨S2,X2⟩:=S'.store (by rw [hΦ.1.2]; exact hi) hy r' hn2 hs2
   refine ⟨m',Ns.at_ n' fun o e=>(hs2.2 C ne).trans e,fun h3 hs3=>?_⟩
   obtain ⟨S3,X3⟩:=S2.turnFree t' hs3
   exact h h3 _ G' _ _ S3 (X'.trans (X2.trans X3)) .next
  ·cases e
 ·cases e
end
end Mine
end
section
namespace Mine
noncomputable def fn : Bool → Keyed → Array Keyed → Nat → Nat → Nat → StateT SortSt Sem (Option Nat):=sortPriv% PySem.Builtin.gallop
noncomputable def gw (left : Bool) (key : Keyed) (arr : Array Keyed) (base i : Nat) : StateT SortSt Sem (Option Bool):=do
 let x ← elem' arr (base + i)
 if left then lt' x key else return (← lt' key x).map (!·)
theorem tY (left : Bool) (key : Keyed) (arr : Array Keyed) (base n hint : Nat) : fn left key arr base n hint = (do
 let mut lastofs:=0
 let mut ofs:=1
 let mut lo:=0
 let mut hi:=0
 let some right ← gw left key arr base hint | return none
 if right then
  let maxofs:=n - hint
  for _ in [0:n] do
   if ofs ≥ maxofs then break
   let some more ← gw left key arr base (hint + ofs) | return none
   if !more then break
   lastofs:=ofs
   ofs:=2 * ofs + 1
  lo:=hint + lastofs + 1
  hi:=hint + min ofs maxofs
 else
  let maxofs:=hint + 1
  for _ in [0:n] do
   if ofs ≥ maxofs then break
   let some found ← gw left key arr base (hint - ofs) | return none
   if found then break
   lastofs:=ofs
   ofs:=2 * ofs + 1
  lo:=hint + 1 - min ofs maxofs
  hi:=hint - lastofs
 for _ in [0:n] do
  if lo ≥ hi then break
  let m:=lo + (hi - lo) / 2
  let some more ← gw left key arr base m | return none
  if more then lo:=m + 1 else hi:=m
 return some hi):=rfl
section
variable {prog : Program} {w : World} {A : Around} {E : Value → Shared → Prop} {s : Shared}
noncomputable def IsK (p : Keyed) : Prop:=∃ n t,p.1 = .int n t
noncomputable def kk (p : Keyed) : Int:=numOf p.1
theorem mD {st : SortSt} {x y : Keyed} {Q : Option Bool → SortSt → Prop} (hk : kindOf st = oneType') (hx : IsK x) (hy : IsK y) (h : Q (some (decide (kk x < kk y))) st) : wpS (model prog w) A E s (lt' x y) Q st:=by
 obtain ⟨x1,x2⟩:=x
 obtain ⟨y1,y2⟩:=y
 obtain ⟨n,t,rfl⟩:=hx
 obtain ⟨m,u,rfl⟩:=hy
 rw [lt'_eq]
 refine wpS_bind (wpS_get ?_)
 rw [hk,keyLt'_oneType]
 refine wpS_bind (wpS_lift (wpAny_attempt (oneLt_int ⟨rfl,?_⟩)))
 exact wpS_pure h
theorem bP {st : SortSt} {arr : Array Keyed} {i : Nat} {p : Keyed} {Q : Keyed → SortSt → Prop} (e : arr[i]? = some p) (h : Q p st) : wpS (model prog w) A E s (elem' arr i) Q st:=by
 rw [elem'_eq,e]
 exact wpS_pure h
noncomputable def f4 (left : Bool) (key x : Keyed) : Bool:=if left then decide (kk x < kk key) else !decide (kk key < kk x)
theorem rF {st : SortSt} {left : Bool} {key p : Keyed} {arr : Array Keyed} {base i : Nat} {Q : Option Bool → SortSt → Prop} (hk : kindOf st = oneType') (hx : IsK key) (e : arr[base + i]? = some p) (hy : IsK p) (h : Q (some (f4 left key p)) st) : wpS (model prog w) A E s (gw left key arr base i) Q st:=by
 unfold gw
 refine wpS_bind (bP e ?_)
 unfold f4 at h
 cases left with
 | true=>
  rw [if_pos rfl] at h ⊢
  exact mD hk hy hx h
 | false=>
  rw [if_neg (by decide)] at h ⊢
  refine wpS_bind (mD hk hx hy ?_)
  exact wpS_pure h
theorem n8 {st : SortSt} {left : Bool} {key : Keyed} {arr : Array Keyed} {base n hint : Nat} {Q : Option Nat → SortSt → Prop} (hk : kindOf st = oneType') (hx : IsK key) (P : Nat → Bool)
  (hP : ∀ i,i < n → ∃ p,arr[base + i]? = some p ∧ IsK p ∧ f4 left key p = P i) (anti : ∀ i j,i ≤ j → j < n → P j = true → P i = true) (hh : hint < n)
  (h : ∀ k,k ≤ n → (∀ i,i < k → P i = true) → (∀ i,k ≤ i → i < n → P i = false) → Q (some k) st) : wpS (model prog w) A E s (fn left key arr base n hint) Q st:=by
 have ask : ∀ (i : Nat) (R : Option Bool → SortSt → Prop),i < n → R (some (P i)) st → wpS (model prog w) A E s (gw left key arr base i) R st:=by
  intro i R hi hR
  obtain ⟨p,e,hp,ha⟩:=hP i hi
  exact rF hk hx e hp (by rw [ha]; exact hR)
 have fin : ∀ lo hi : Nat,lo ≤ hi → hi ≤ n → (∀ i,i < lo → P i = true) → (∀ i,hi ≤ i → i < n → P i = false) → wpS (model prog w) A E s (do
   let mut lo:=lo
   let mut hi:=hi
   for _ in [0:n] do
    if lo ≥ hi then break
    let m:=lo + (hi - lo) / 2
    let some more ← gw left key arr base m | return none
    if more then lo:=m + 1 else hi:=m
   return some hi) Q st:=by
  intro lo hi hl hn plo phi
  dsimp only
  refine wpS_bind (wpS_mono (wpS_forRange (I:=fun x c st'=>st' = st ∧ ∃ l r,c = (none,l,r) ∧ l ≤ r ∧ r ≤ n ∧ r - l ≤ n - x ∧ (∀ i,i < l → P i = true) ∧ (∀ i,r ≤ i → i < n → P i = false))
   (Q:=fun c st'=>st' = st ∧ ∃ r,c = (none,r,r) ∧ r ≤ n ∧ (∀ i,i < r → P i = true) ∧ (∀ i,r ≤ i → i < n → P i = false)) ?step ?fin ⟨rfl,lo,hi,rfl,hl,hn,(o0 hl hn),plo,phi⟩) ?post)
  case post=>
   rintro c st' ⟨rfl,r,rfl,h1,h2,h3⟩
   exact wpS_pure (h r h1 h2 h3)
  case fin=>
   rintro c st' ⟨rfl,l,r,rfl,h1,h2,h3,h4,h5⟩
   have : l = r:=o1 h1 h3
   subst this
   exact ⟨rfl,l,rfl,h2,h4,h5⟩
  case step=>
   rintro x c st' _ hx ⟨rfl,l,r,rfl,h1,h2,h3,h4,h5⟩
   dsimp only
   by_cases hge : l ≥ r
   ·rw [if_pos hge]
    have : l = r:=o2 h1 hge
    subst this
    exact wpS_pure ⟨rfl,l,rfl,h2,h4,h5⟩
   ·rw [if_neg hge]
    refine wpS_bind (ask (l + (r - l) / 2) _ (o3 h2 hge) ?_)
    dsimp only
    cases hm : P (l + (r - l) / 2) with
    | true=>
     rw [if_pos rfl]
     refine wpS_pure ⟨rfl,_,r,rfl,(o4 hge),h2,(o5 hx h3 hge),fun i hi=>?_,h5⟩
     exact anti i (l + (r - l) / 2) (o6 hi) (o3 h2 hge) hm
    | false=>
     rw [if_neg (by decide)]
     refine wpS_pure ⟨rfl,l,_,rfl,(o7),(o8 h2 hge),(o9 hx h3 hge),h4,fun i hi hin=>?_⟩
     cases hp : P i with
     | false=>rfl
     | true=>rw [anti _ i hi hin hp] at hm; cases hm
 rw [tY]
 refine wpS_bind (ask hint _ hh ?_)
 dsimp only
 cases hr : P hint with
 | true=>
  rw [if_pos rfl]
  refine wpS_bind (wpS_mono (wpS_forRange (I:=fun x c st'=>st' = st ∧ ∃ l o,c = (none,l,o) ∧ l < o ∧ x < o ∧ hint + l < n ∧ P (hint + l) = true)
   (Q:=fun c st'=>st' = st ∧ ∃ l o,c = (none,l,o) ∧ l < o ∧ hint + l < n ∧ P (hint + l) = true ∧ (hint + o < n → P (hint + o) = false)) ?step ?fin ⟨rfl,0,1,rfl,(o10),(o10),hh,hr⟩) ?post)
  case post=>
   rintro c st' ⟨rfl,l,o,rfl,h1,h2,h3,h4⟩
   dsimp only
   refine fin _ _ (o11 hh h1 h2) (o12 hh) (fun i hi=>anti i (hint + l) (o13 hi) h2 h3) fun i hi hin=>?_
   cases hp : P i with
   | false=>rfl
   | true=>
    have:=anti (hint + o) i (o14 hh hi hin) hin hp
    rw [h4 (o15 hh hi hin)] at this; cases this
  case fin=>
   rintro c st' ⟨rfl,l,o,rfl,h1,h2,h3,h4⟩
   exact ⟨rfl,l,o,rfl,h1,h3,h4,fun h=>absurd (Nat.lt_of_le_of_lt (Nat.le_max_right 0 n) h2) (Nat.not_lt.mpr (Nat.le_of_lt (Nat.lt_of_le_of_lt (Nat.le_add_left o hint) h)))⟩
  case step=>
   rintro x c st' _ hx ⟨rfl,l,o,rfl,h1,h2,h3,h4⟩
   dsimp only
   by_cases hge : o ≥ n - hint
   ·rw [if_pos hge]
    exact wpS_pure ⟨rfl,l,o,rfl,h1,h3,h4,fun h=>absurd h (Nat.not_lt.mpr (Nat.sub_le_iff_le_add'.mp hge))⟩
   ·rw [if_neg hge]
    refine wpS_bind (ask (hint + o) _ (o16 hh hge) ?_)
    dsimp only
    cases hm : P (hint + o) with
    | true=>exact wpS_pure ⟨rfl,o,_,rfl,(o17),(o18 (by assumption) h2),(o16 hh hge),hm⟩
    | false=>exact wpS_pure ⟨rfl,l,o,rfl,h1,h3,h4,fun _=>hm⟩
 | false=>
  rw [if_neg (by decide)]
  refine wpS_bind (wpS_mono (wpS_forRange (I:=fun x c st'=>st' = st ∧ ∃ l o,c = (none,l,o) ∧ l < o ∧ x < o ∧ l ≤ hint ∧ P (hint - l) = false)
   (Q:=fun c st'=>st' = st ∧ ∃ l o,c = (none,l,o) ∧ l < o ∧ l ≤ hint ∧ P (hint - l) = false ∧ (o ≤ hint → P (hint - o) = true)) ?step ?fin ⟨rfl,0,1,rfl,(o10),(o10),(o19),hr⟩) ?post)
  case post=>
   rintro c st' ⟨rfl,l,o,rfl,h1,h2,h3,h4⟩
   dsimp only
   refine fin _ _ (o20 h1 h2) (o21 hh h2) (fun i hi=>anti i (hint - o) (o22 hi) (o23 hh h1 h2) (h4 (o24 hi))) fun i hi hin=>?_
   cases hp : P i with
   | false=>rfl
   | true=>
    have:=anti (hint - l) i hi hin hp
    rw [h3] at this; cases this
  case fin=>
   rintro c st' ⟨rfl,l,o,rfl,h1,h2,h3,h4⟩
   exact ⟨rfl,l,o,rfl,h1,h3,h4,fun h=>absurd (Nat.lt_of_le_of_lt (Nat.le_max_right 0 n) h2) (Nat.not_lt.mpr (Nat.le_of_lt (Nat.lt_of_le_of_lt h hh)))⟩
  case step=>
   rintro x c st' _ hx ⟨rfl,l,o,rfl,h1,h2,h3,h4⟩
   dsimp only
   by_cases hge : o ≥ hint + 1
   ·rw [if_pos hge]
    exact wpS_pure ⟨rfl,l,o,rfl,h1,h3,h4,fun h=>absurd h (Nat.not_le.mpr hge)⟩
   ·rw [if_neg hge]
    refine wpS_bind (ask (hint - o) _ (o25 hh h1 hge) ?_)
    dsimp only
    cases hm : P (hint - o) with
    | true=>exact wpS_pure ⟨rfl,l,o,rfl,h1,h3,h4,fun _=>hm⟩
    | false=>exact wpS_pure ⟨rfl,o,_,rfl,(o17),(o18 (by assumption) h2),(o26 hge),hm⟩
end
end Mine
end
section
namespace Mine
noncomputable def Asc (l : List Keyed) : Prop:=(l.map kk).Pairwise (· ≤ ·)
theorem Asc.sub {l m : List Keyed} (h : Asc m) (k : l.Sublist m) : Asc l:=List.Pairwise.sublist (k.map kk) h
theorem Asc.app {l m : List Keyed} : Asc (l ++ m) ↔ Asc l ∧ Asc m ∧ ∀ x ∈ l,∀ y ∈ m,kk x ≤ kk y:=by
 unfold Asc
 rw [List.map_append,List.pairwise_append]
 refine ⟨fun ⟨h1,h2,h3⟩=>⟨h1,h2,fun x hx y hy=>h3 _ (List.mem_map.mpr ⟨x,hx,rfl⟩) _ (List.mem_map.mpr ⟨y,hy,rfl⟩)⟩,fun ⟨h1,h2,h3⟩=>⟨h1,h2,fun x hx y hy=>?_⟩⟩
 obtain ⟨x',hx',rfl⟩:=List.mem_map.mp hx
 obtain ⟨y',hy',rfl⟩:=List.mem_map.mp hy
 exact h3 _ hx' _ hy'
theorem Asc.nil : Asc []:=List.Pairwise.nil
structure MI (la lb out : List Keyed) (ia ib : Nat) : Prop where
 perm : (out ++ (la.drop ia ++ lb.drop ib)).Perm (la ++ lb)
 asc : Asc out
 le : ∀ x ∈ out,∀ y ∈ la.drop ia ++ lb.drop ib,kk x ≤ kk y
theorem MI.swap {la lb out : List Keyed} {ia ib : Nat} (h : MI la lb out ia ib) : MI lb la out ib ia:=
 ⟨((List.perm_append_comm (l₁:=lb.drop ib) (l₂:=la.drop ia)).append_left out).trans (h.perm.trans List.perm_append_comm),h.asc,fun x hx y hy=>h.le x hx y (by rw [List.mem_append] at *; exact hy.symm)⟩
theorem MI.start (la lb : List Keyed) : MI la lb [] 0 0:=⟨by simp,Asc.nil,fun x hx=>by cases hx⟩
theorem uQ (l : List Keyed) (i k : Nat) : l.drop i = (l.drop i).take k ++ l.drop (i + k):=by
 rw [← List.drop_drop,List.take_append_drop]
theorem MI.takeA {la lb out : List Keyed} {ia ib : Nat} (h : MI la lb out ia ib) (k : Nat) (sa : Asc la) (hle : ∀ x ∈ (la.drop ia).take k,∀ y ∈ lb.drop ib,kk x ≤ kk y) : MI la lb (out ++ (la.drop ia).take k) (ia + k) ib:=by
 have hs:=uQ la ia k
 have sd : Asc (la.drop ia):=sa.sub (List.drop_sublist ..)
 rw [hs] at sd
 obtain ⟨s1,s2,s3⟩:=Asc.app.mp sd
 have e1 : out ++ (la.drop ia).take k ++ (la.drop (ia + k) ++ lb.drop ib) = out ++ (la.drop ia ++ lb.drop ib):=by
  rw [List.append_assoc,← List.append_assoc ((la.drop ia).take k),← hs]
 refine ⟨by rw [e1]; exact h.perm,Asc.app.mpr ⟨h.asc,s1,fun x hx y hy=>h.le x hx y (List.mem_append_left _ (List.mem_of_mem_take hy))⟩,fun x hx y hy=>?_⟩
 rcases List.mem_append.mp hx with hx | hx
 ·refine h.le x hx y ?_
  rw [List.mem_append] at *
  refine hy.imp (fun hy=>?_) id
  rw [hs]; exact List.mem_append_right _ hy
 ·rcases List.mem_append.mp hy with hy | hy
  ·exact s3 x hx y hy
  ·exact hle x hx y hy
theorem MI.takeB {la lb out : List Keyed} {ia ib : Nat} (h : MI la lb out ia ib) (k : Nat) (sb : Asc lb) (hle : ∀ x ∈ (lb.drop ib).take k,∀ y ∈ la.drop ia,kk x ≤ kk y) : MI la lb (out ++ (lb.drop ib).take k) ia (ib + k):=(h.swap.takeA k sb hle).swap
theorem MI.fin {la lb out : List Keyed} {ia ib : Nat} (h : MI la lb out ia ib) (sa : Asc la) (sb : Asc lb) (hle : ∀ x ∈ la.drop ia,∀ y ∈ lb.drop ib,kk x ≤ kk y) : (out ++ la.drop ia ++ lb.drop ib).Perm (la ++ lb) ∧ Asc (out ++ la.drop ia ++ lb.drop ib):=by
 rw [List.append_assoc]
 exact ⟨h.perm,Asc.app.mpr ⟨h.asc,Asc.app.mpr ⟨sa.sub (List.drop_sublist ..),sb.sub (List.drop_sublist ..),hle⟩,h.le⟩⟩
theorem MI.last {la lb out : List Keyed} {ia ib : Nat} (h : MI la lb out ia ib) (sa : Asc la) (sb : Asc lb) (hle : ∀ x ∈ lb.drop ib,∀ y ∈ la.drop ia,kk x ≤ kk y) : (out ++ lb.drop ib ++ la.drop ia).Perm (la ++ lb) ∧ Asc (out ++ lb.drop ib ++ la.drop ia):=by
 obtain ⟨h1,h2⟩:=h.swap.fin sb sa hle
 exact ⟨h1.trans List.perm_append_comm,h2⟩
theorem Asc.first {l : List Keyed} (h : Asc l) {i : Nat} {x : Keyed} (e : l[i]? = some x) : ∀ y ∈ l.drop i,kk x ≤ kk y:=by
 intro y hy
 have hi:=(List.getElem?_eq_some_iff.mp e).1
 have hd : l.drop i = x :: l.drop (i + 1):=by
  rw [List.drop_eq_getElem_cons hi,(List.getElem?_eq_some_iff.mp e).2]
 have sd : Asc (l.drop i):=h.sub (List.drop_sublist ..)
 rw [hd] at hy sd
 rcases List.mem_cons.mp hy with rfl | hy
 ·exact Int.le_refl _
 ·exact (Asc.app (l:=[x]).mp sd).2.2 x List.mem_cons_self y hy
theorem gS {l : List Keyed} {i : Nat} {x : Keyed} (e : l[i]? = some x) : (l.drop i).take 1 = [x]:=by
 have hi:=(List.getElem?_eq_some_iff.mp e).1
 rw [List.drop_eq_getElem_cons hi,(List.getElem?_eq_some_iff.mp e).2]; rfl
end Mine
end
section
namespace Mine
noncomputable def gz (a b res : Array Keyed) : Prop:=res.toList.Perm (a.toList ++ b.toList) ∧ Asc res.toList
structure Two (a b : Array Keyed) : Prop where
 sa : Asc a.toList
 sb : Asc b.toList
 ka : ∀ p ∈ a.toList,IsK p
 kb : ∀ p ∈ b.toList,IsK p
structure MJ (a b out : Array Keyed) (ia ib : Nat) : Prop where
 mi : MI a.toList b.toList out.toList ia ib
 len : out.size = ia + ib
 ia : ia + 1 < a.size
 ib : ib < b.size
noncomputable def iy (a b : Array Keyed) : Prop:=∀ x,a[a.size - 1]? = some x → ∀ y ∈ b.toList,kk y ≤ kk x
section
variable {a b out : Array Keyed} {ia ib : Nat}
theorem fC (xs : Array Keyed) (i j : Nat) : (xs.extract i j).toList = (xs.toList.drop i).take (j - i):=by simp
theorem mP (xs : Array Keyed) (i : Nat) : (xs.extract i xs.size).toList = xs.toList.drop i:=by
 rw [fC,List.take_of_length_le]
 rw [List.length_drop,Array.length_toList]
 exact Nat.le_refl _
theorem ch {xs : Array Keyed} {i : Nat} {x : Keyed} (e : xs[i]? = some x) : xs.toList[i]? = some x:=by rw [Array.getElem?_toList]; exact e
theorem zl {i : Nat} (h : i + 1 = a.size) {x : Keyed} (e : a[i]? = some x) : a.toList.drop i = [x]:=by
 have e':=ch e
 have hi:=(List.getElem?_eq_some_iff.mp e').1
 rw [List.drop_eq_getElem_cons hi,(List.getElem?_eq_some_iff.mp e').2,List.drop_of_length_le (by rw [Array.length_toList]; exact o27 h)]
theorem yi (T : Two a b) (h : MJ a b out ia ib) : ∃ x y,a[ia]? = some x ∧ b[ib]? = some y ∧ IsK x ∧ IsK y:=by
 have h1 : ia < a.size:=Nat.lt_of_succ_lt h.ia
 refine ⟨a[ia],b[ib]'h.ib,getElem?_pos ..,getElem?_pos ..,T.ka _ (by simp),T.kb _ (by simp)⟩
theorem iC (T : Two a b) (h : MI a.toList b.toList out.toList ia ib) (e : ia = a.size ∨ ib = b.size) : gz a b (out ++ a.extract ia a.size ++ b.extract ib b.size):=by
 unfold gz
 rw [Array.toList_append,Array.toList_append,mP,mP]
 refine h.fin T.sa T.sb fun x hx y hy=>?_
 rcases e with e | e
 ·rw [List.drop_of_length_le (by rw [Array.length_toList]; exact o28 e)] at hx; cases hx
 ·rw [List.drop_of_length_le (by rw [Array.length_toList]; exact o28 e)] at hy; cases hy
theorem kr (T : Two a b) (L : iy a b) (h : MI a.toList b.toList out.toList ia ib) (e : ia + 1 = a.size) : gz a b (out ++ b.extract ib b.size ++ a.extract ia a.size):=by
 unfold gz
 rw [Array.toList_append,Array.toList_append,mP,mP]
 refine h.last T.sa T.sb fun y hy x hx=>?_
 have hx' : a[ia]? = some a[ia]:=getElem?_pos ..
 rw [zl e hx',List.mem_singleton] at hx
 subst hx
 exact L _ (by rw [show a.size - 1 = ia by exact o29 e]; exact hx') y (List.mem_of_mem_drop hy)
theorem t5 (T : Two a b) (h : MI a.toList b.toList out.toList ia ib) {x y : Keyed} (hx : a[ia]? = some x) (hy : b[ib]? = some y) (hle : kk y ≤ kk x) : MI a.toList b.toList (out.push y).toList ia (ib + 1):=by
 have:=h.takeB 1 T.sb fun z hz t ht=>by
  rw [gS (ch hy),List.mem_singleton] at hz
  subst hz
  exact Int.le_trans hle (T.sa.first (ch hx) t ht)
 rw [gS (ch hy)] at this
 rw [Array.toList_push]
 exact this
theorem xu (T : Two a b) (h : MI a.toList b.toList out.toList ia ib) {x y : Keyed} (hx : a[ia]? = some x) (hy : b[ib]? = some y) (hle : kk x ≤ kk y) : MI a.toList b.toList (out.push x).toList (ia + 1) ib:=by
 have:=h.takeA 1 T.sa fun z hz t ht=>by
  rw [gS (ch hx),List.mem_singleton] at hz
  subst hz
  exact Int.le_trans hle (T.sb.first (ch hy) t ht)
 rw [gS (ch hx)] at this
 rw [Array.toList_push]
 exact this
theorem fM {xs : Array Keyed} {i k : Nat} {z : Keyed} (h : z ∈ (xs.toList.drop i).take k) : ∃ j,j < k ∧ xs[i + j]? = some z:=by
 obtain ⟨j,hj⟩:=List.mem_iff_getElem?.mp h
 have hl:=(List.getElem?_eq_some_iff.mp hj).1
 rw [List.length_take] at hl
 rw [List.getElem?_take_of_lt (o30 hl),List.getElem?_drop,Array.getElem?_toList] at hj
 exact ⟨j,(o30 hl),hj⟩
theorem Ac (T : Two a b) (h : MI a.toList b.toList out.toList ia ib) {y : Keyed} (hy : b[ib]? = some y) (k : Nat) (hk : ∀ j,j < k → ∀ z,a[ia + j]? = some z → kk z ≤ kk y) : MI a.toList b.toList (out ++ a.extract ia (ia + k)).toList (ia + k) ib:=by
 have:=h.takeA k T.sa fun z hz t ht=>by
  obtain ⟨j,hj,e⟩:=fM hz
  exact Int.le_trans (hk j hj z e) (T.sb.first (ch hy) t ht)
 rw [Array.toList_append,fC,Nat.add_sub_cancel_left]
 exact this
theorem z5 (T : Two a b) (h : MI a.toList b.toList out.toList ia ib) {x : Keyed} (hx : a[ia]? = some x) (k : Nat) (hk : ∀ j,j < k → ∀ z,b[ib + j]? = some z → kk z ≤ kk x) : MI a.toList b.toList (out ++ b.extract ib (ib + k)).toList ia (ib + k):=by
 have:=h.takeB k T.sb fun z hz t ht=>by
  obtain ⟨j,hj,e⟩:=fM hz
  exact Int.le_trans (hk j hj z e) (T.sa.first (ch hx) t ht)
 rw [Array.toList_append,fC,Nat.add_sub_cancel_left]
 exact this
end
end Mine
end
section
namespace Mine
theorem Asc.at {xs : Array Keyed} (h : Asc xs.toList) {i j : Nat} {x y : Keyed} (hij : i ≤ j) (ex : xs[i]? = some x) (ey : xs[j]? = some y) : kk x ≤ kk y:=by
 refine h.first (ch ex) y ?_
 rw [List.mem_iff_getElem?]
 refine ⟨j - i,?_⟩
 rw [List.getElem?_drop,show i + (j - i) = j from Nat.add_sub_of_le hij]
 exact ch ey
section
variable {prog : Program} {w : World} {A : Around} {E : Value → Shared → Prop} {s : Shared}
theorem mM {st : SortSt} {left : Bool} {key : Keyed} {arr : Array Keyed} {base n hint : Nat} {Q : Option Nat → SortSt → Prop} (hk : kindOf st = oneType') (hx : IsK key) (sa : Asc arr.toList) (ka : ∀ p ∈ arr.toList,IsK p) (hn : base + n ≤ arr.size) (hh : hint < n)
  (h : ∀ k,k ≤ n → (∀ j,j < k → ∀ z,arr[base + j]? = some z → f4 left key z = true) → (∀ j,k ≤ j → j < n → ∀ z,arr[base + j]? = some z → f4 left key z = false) → Q (some k) st) : wpS (model prog w) A E s (fn left key arr base n hint) Q st:=by
 refine n8 hk hx (fun j=>match arr[base + j]? with | some z=>f4 left key z | none=>false) (fun j hj=>?_) (fun i j hij hj hp=>?_) hh fun k hk h1 h2=>h k hk (fun j hj z e=>?_) fun j hkj hj z e=>?_
 ·have hj' : base + j < arr.size:=o31 hn hj
  refine ⟨arr[base + j],getElem?_pos ..,ka _ (by simp),?_⟩
  rw [getElem?_pos arr (base + j) hj']
 ·have hi' : base + i < arr.size:=o32 hn hij hj
  have hj' : base + j < arr.size:=o31 hn hj
  have:=sa.at (i:=base + i) (j:=base + j) (o33 hij) (getElem?_pos arr (base + i) hi') (getElem?_pos arr (base + j) hj')
  rw [getElem?_pos arr (base + j) hj'] at hp
  rw [getElem?_pos arr (base + i) hi']
  dsimp only at hp ⊢
  unfold f4 at hp ⊢
  cases left with
  | true=>
   rw [if_pos rfl] at hp ⊢
   rw [decide_eq_true_eq] at hp ⊢
   exact o34 hi' hj' this hp
  | false=>
   rw [if_neg (by decide)] at hp ⊢
   rw [Bool.not_eq_true',decide_eq_false_iff_not] at hp ⊢
   exact fun a=>o35 hi' hj' this hp a
 ·have:=h1 j hj
  rw [e] at this
  exact this
 ·have:=h2 j hkj hj
  rw [e] at this
  exact this
end
noncomputable def i9 (g : Nat) : StateT SortSt Sem Unit:=modify fun s=>SortSt.mk' (kindOf s) (arrOf s) (pendingOf s) g (failedOf s)
noncomputable def nT : Array Keyed → Array Keyed → StateT SortSt Sem (Array Keyed):=sortPriv% PySem.Builtin.mergeLo
noncomputable abbrev LoC:=Option (Array Keyed) × Array Keyed × Nat × Nat × Nat × Nat × Nat
noncomputable def lo3 (a b : Array Keyed) (g ac bc : Nat) (out : Array Keyed) (ia ib : Nat) : StateT SortSt Sem (ForInStep LoC):=do
 let x ← elem' a ia
 if ia + 1 + 1 == a.size then return .done (some (out.push x ++ b.extract ib b.size ++ a.extract (ia + 1) a.size),out.push x,ia + 1,ib,g,ac,bc)
 if ac < 7 && bc < 7 then return .done (none,out.push x,ia + 1,ib,g,ac,bc)
 return .yield (none,out.push x,ia + 1,ib,g,ac,bc)
noncomputable def lo2 (a b : Array Keyed) (g ac bc : Nat) (out : Array Keyed) (ia ib : Nat) : StateT SortSt Sem (ForInStep LoC):=do
 let y ← elem' b ib
 if ib + 1 == b.size then return .done (some (out.push y ++ a.extract ia a.size ++ b.extract (ib + 1) b.size),out.push y,ia,ib + 1,g,ac,bc)
 let x ← elem' a ia
 match ← fn true x b (ib + 1) (b.size - (ib + 1)) 0 with
 | some k=>
  if k > 0 then
   if ib + 1 + k == b.size then return .done (some (out.push y ++ b.extract (ib + 1) (ib + 1 + k) ++ a.extract ia a.size ++ b.extract (ib + 1 + k) b.size),out.push y ++ b.extract (ib + 1) (ib + 1 + k),ia,ib + 1 + k,g,ac,k)
   else lo3 a b g ac k (out.push y ++ b.extract (ib + 1) (ib + 1 + k)) ia (ib + 1 + k)
  else lo3 a b g ac k (out.push y) ia (ib + 1)
 | _=>return .done (some (out.push y ++ a.extract ia a.size ++ b.extract (ib + 1) b.size),out.push y,ia,ib + 1,g,ac,bc)
noncomputable def lo1 (a b : Array Keyed) (g ac bc : Nat) (out : Array Keyed) (ia ib : Nat) : StateT SortSt Sem (ForInStep LoC):=do
 i9 g
 let y ← elem' b ib
 match ← fn false y a ia (a.size - ia) 0 with
 | some k=>
  if k > 0 then
   if ia + k + 1 == a.size then return .done (some (out ++ a.extract ia (ia + k) ++ b.extract ib b.size ++ a.extract (ia + k) a.size),out ++ a.extract ia (ia + k),ia + k,ib,g,k,bc)
   else if ia + k == a.size then return .done (some (out ++ a.extract ia (ia + k) ++ a.extract (ia + k) a.size ++ b.extract ib b.size),out ++ a.extract ia (ia + k),ia + k,ib,g,k,bc)
   else lo2 a b g k bc (out ++ a.extract ia (ia + k)) (ia + k) ib
  else lo2 a b g k bc out ia ib
 | _=>return .done (some (out ++ a.extract ia a.size ++ b.extract ib b.size),out,ia,ib,g,ac,bc)
noncomputable abbrev LoI:=Option (Array Keyed) × Array Keyed × Nat × Nat × Nat × Nat
noncomputable abbrev LoO:=Option (Array Keyed) × Array Keyed × Nat × Nat × Nat
noncomputable def loI (a b : Array Keyed) (g : Nat) (out : Array Keyed) (ia ib ac bc : Nat) : StateT SortSt Sem (ForInStep LoI):=do
 let y ← elem' b ib
 let x ← elem' a ia
 match ← lt' y x with
 | some v=>
  if v then
   let y ← elem' b ib
   if ib + 1 == b.size then return .done (some (out.push y ++ a.extract ia a.size ++ b.extract (ib + 1) b.size),out.push y,ia,ib + 1,0,bc + 1)
   if bc + 1 ≥ g then return .done (none,out.push y,ia,ib + 1,0,bc + 1)
   return .yield (none,out.push y,ia,ib + 1,0,bc + 1)
  else
   let x ← elem' a ia
   if ia + 1 + 1 == a.size then return .done (some (out.push x ++ b.extract ib b.size ++ a.extract (ia + 1) a.size),out.push x,ia + 1,ib,ac + 1,0)
   if ac + 1 ≥ g then return .done (none,out.push x,ia + 1,ib,ac + 1,0)
   return .yield (none,out.push x,ia + 1,ib,ac + 1,0)
 | _=>return .done (some (out ++ a.extract ia a.size ++ b.extract ib b.size),out,ia,ib,ac,bc)
noncomputable def loG (a b : Array Keyed) (g ac bc : Nat) (out : Array Keyed) (ia ib : Nat) : StateT SortSt Sem (ForInStep LoC):=if g > 1 then lo1 a b (g - 1) ac bc out ia ib else lo1 a b g ac bc out ia ib
noncomputable def Ee (a b : Array Keyed) (g ac bc : Nat) (out : Array Keyed) (ia ib : Nat) : StateT SortSt Sem (ForInStep LoO):=do
 rule "list.sort.gallop"
 let q ← forIn [0:a.size + b.size] ((none,out,ia,ib,g + 1,ac,bc) : LoC) fun _ c=>loG a b c.2.2.2.2.1 c.2.2.2.2.2.1 c.2.2.2.2.2.2 c.2.1 c.2.2.1 c.2.2.2.1
 match q.1 with
 | some z=>return .done (some z,q.2.1,q.2.2.1,q.2.2.2.1,q.2.2.2.2.1)
 | none=>
  i9 (q.2.2.2.2.1 + 1)
  return .yield (none,q.2.1,q.2.2.1,q.2.2.2.1,q.2.2.2.2.1 + 1)
noncomputable def loO (a b : Array Keyed) (g : Nat) (out : Array Keyed) (ia ib : Nat) : StateT SortSt Sem (ForInStep LoO):=do
 let r ← forIn [0:a.size + b.size] ((none,out,ia,ib,0,0) : LoI) fun _ c=>loI a b g c.2.1 c.2.2.1 c.2.2.2.1 c.2.2.2.2.1 c.2.2.2.2.2
 match r.1 with
 | some z=>return .done (some z,r.2.1,r.2.2.1,r.2.2.2.1,g)
 | none=>Ee a b g r.2.2.2.2.1 r.2.2.2.2.2 r.2.1 r.2.2.1 r.2.2.2.1
theorem r9 (a b : Array Keyed) : nT a b = (do
 rule "list.sort.merge-lo"
 let y ← elem' b 0
 if 1 == b.size then return #[y] ++ a.extract 0 a.size ++ b.extract 1 b.size
 if 0 + 1 == a.size then return #[y] ++ b.extract 1 b.size ++ a.extract 0 a.size
 let st ← get
 let r ← forIn [0:a.size + b.size] ((none,#[y],0,1,gallopOf st) : LoO) fun _ c=>loO a b c.2.2.2.2 c.2.1 c.2.2.1 c.2.2.2.1
 match r.1 with
 | some z=>return z
 | none=>unsupported "internal:list.sort.merge-bound"):=by kernel_rfl
theorem MI.size {a b out : Array Keyed} {ia ib : Nat} (h : MI a.toList b.toList out.toList ia ib) (T : Two a b) : out.size = ia + ib ∨ a.size < ia ∨ b.size < ib:=by
 have:=h.perm.length_eq
 simp only [List.length_append,List.length_drop,Array.length_toList] at this
 rcases Nat.lt_or_ge a.size ia with h1 | h1
 ·exact .inr (.inl h1)
 rcases Nat.lt_or_ge b.size ib with h2 | h2
 ·exact .inr (.inr h2)
 exact .inl (Nat.add_right_cancel (this.trans (by rw [Nat.add_add_add_comm,Nat.add_sub_of_le h1,Nat.add_sub_of_le h2])))
noncomputable def fH (st st' : SortSt) : Prop:=kindOf st' = kindOf st ∧ arrOf st' = arrOf st ∧ pendingOf st' = pendingOf st ∧ failedOf st' = failedOf st
section
variable {prog : Program} {w : World} {A : Around} {E : Value → Shared → Prop} {s : Shared}
theorem hO {st : SortSt} {g : Nat} {Q : Unit → SortSt → Prop} (h : ∀ st',fH st st' → Q () st') : wpS (model prog w) A E s (i9 g) Q st:=by
 unfold i9
 exact wpS_modify (h _ ⟨rfl,rfl,rfl,rfl⟩)
theorem fH.trans {a b c : SortSt} (h : fH a b) (g : fH b c) : fH a c:=⟨g.1.trans h.1,g.2.1.trans h.2.1,g.2.2.1.trans h.2.2.1,g.2.2.2.trans h.2.2.2⟩
noncomputable def LoQ (a b : Array Keyed) (n : Nat) : ForInStep LoC → Prop
 | .done c=>∃ r out ia ib g ac bc,c = (r,out,ia,ib,g,ac,bc) ∧ ((∃ res,r = some res ∧ gz a b res) ∨ (r = none ∧ MJ a b out ia ib ∧ n < ia + ib))
 | .yield c=>∃ out ia ib g ac bc,c = (none,out,ia,ib,g,ac,bc) ∧ MJ a b out ia ib ∧ n < ia + ib
theorem LoQ.fin {a b res out : Array Keyed} {n ia ib g ac bc : Nat} (h : gz a b res) : LoQ a b n (.done (some res,out,ia,ib,g,ac,bc)):=⟨_,_,_,_,_,_,_,rfl,.inl ⟨_,rfl,h⟩⟩
theorem vj {st : SortSt} {a b out : Array Keyed} {ia ib g ac bc n : Nat} {x y : Keyed} {Q : ForInStep LoC → SortSt → Prop} (T : Two a b) (L : iy a b) (m : MI a.toList b.toList out.toList ia ib) (h1 : ia + 1 < a.size) (h2 : ib < b.size) (hn : n ≤ ia + ib)
  (ex : a[ia]? = some x) (ey : b[ib]? = some y) (hle : kk x ≤ kk y) (h : ∀ r,LoQ a b n r → Q r st) : wpS (model prog w) A E s (lo3 a b g ac bc out ia ib) Q st:=by
 have md:=xu T m ex ey hle
 refine wpS_bind (bP ex ?_)
 by_cases c : ia + 1 + 1 = a.size
 ·rw [if_pos (beq_iff_eq.mpr c)]
  exact wpS_pure (h _ (.fin (kr T L md c)))
 ·rw [if_neg (_root_.mt beq_iff_eq.mp c)]
  have h3 : ia + 1 + 1 < a.size:=Nat.lt_of_le_of_ne h1 c
  have mj : MJ a b (out.push x) (ia + 1) ib:=⟨md,(md.size T).resolve_right fun e=>e.elim (Nat.lt_asymm (Nat.lt_of_succ_lt h3)) (Nat.lt_asymm h2),h3,h2⟩
  have hl : n < ia + 1 + ib:=o36 hn
  split
  ·exact wpS_pure (h _ ⟨_,_,_,_,_,_,_,rfl,.inr ⟨rfl,mj,hl⟩⟩)
  ·exact wpS_pure (h _ ⟨_,_,_,_,_,_,rfl,mj,hl⟩)
theorem vf {st : SortSt} {a b out : Array Keyed} {ia ib g ac bc n : Nat} {x y : Keyed} {Q : ForInStep LoC → SortSt → Prop} (hk : kindOf st = oneType') (T : Two a b) (L : iy a b) (m : MI a.toList b.toList out.toList ia ib) (h1 : ia + 1 < a.size) (h2 : ib < b.size) (hn : n ≤ ia + (ib + 1))
  (ex : a[ia]? = some x) (ey : b[ib]? = some y) (hle : kk y ≤ kk x) (h : ∀ r,LoQ a b n r → Q r st) : wpS (model prog w) A E s (lo2 a b g ac bc out ia ib) Q st:=by
 have mb:=t5 T m ex ey hle
 refine wpS_bind (bP ey ?_)
 by_cases c3 : ib + 1 = b.size
 ·rw [if_pos (beq_iff_eq.mpr c3)]
  exact wpS_pure (h _ (.fin (iC T mb (.inr c3))))
 rw [if_neg (_root_.mt beq_iff_eq.mp c3)]
 have h3 : ib + 1 < b.size:=Nat.lt_of_le_of_ne h2 c3
 have kx : IsK x:=T.ka x (List.mem_of_getElem? (ch ex))
 refine wpS_bind (bP ex ?_)
 refine wpS_bind (mM hk kx T.sb T.kb (Nat.le_of_eq (Nat.add_sub_cancel' h2)) (Nat.sub_pos_of_lt h3) fun k hk0 hlo hhi=>?_)
 have hd : ∀ z,b[ib + 1 + k]? = some z → kk x ≤ kk z:=fun z e=>by
  have:=hhi k (Nat.le_refl _) (Nat.lt_sub_iff_add_lt'.mpr (Array.getElem?_eq_some_iff.mp e).1) z e
  unfold f4 at this; simpa using this
 dsimp only
 by_cases hm : k > 0
 ·rw [if_pos hm]
  have mc:=z5 T mb ex k (fun j hj z e=>Int.le_of_lt (by have:=hlo j hj z e; unfold f4 at this; simpa using this))
  by_cases c4 : ib + 1 + k = b.size
  ·rw [if_pos (beq_iff_eq.mpr c4)]
   exact wpS_pure (h _ (.fin (iC T mc (.inr c4))))
  ·rw [if_neg (_root_.mt beq_iff_eq.mp c4)]
   have h4 : ib + 1 + k < b.size:=o37 h3 hk0 c4
   exact vj T L mc h1 h4 (o38 hn hm) ex (getElem?_pos b _ h4) (hd _ (getElem?_pos b _ h4)) h
 ·rw [if_neg hm]
  obtain rfl : k = 0:=Nat.eq_zero_of_not_pos hm
  exact vj T L mb h1 h3 hn ex (getElem?_pos b _ h3) (hd _ (getElem?_pos b _ h3)) h
theorem zV {st : SortSt} {a b out : Array Keyed} {ia ib g ac bc : Nat} {Q : ForInStep LoC → SortSt → Prop} (hk : kindOf st = oneType') (T : Two a b) (L : iy a b) (m : MJ a b out ia ib)
  (h : ∀ r st',fH st st' → LoQ a b (ia + (ib + 1)) r → Q r st') : wpS (model prog w) A E s (lo1 a b g ac bc out ia ib) Q st:=by
 obtain ⟨p,q,e1,e2,k1,k2⟩:=yi T m
 have h1:=m.ia; have h2:=m.ib
 refine wpS_bind (hO fun st3 hs3=>?_)
 have hk3:=hs3.1.trans hk
 refine wpS_bind (bP e2 ?_)
 refine wpS_bind (mM hk3 k2 T.sa T.ka (o39 h1) (o40 h1) fun k hk0 hlo hhi=>?_)
 have hd : ∀ z,a[ia + k]? = some z → kk q ≤ kk z:=fun z e=>by
  have:=hhi k (Nat.le_refl _) (Nat.lt_sub_iff_add_lt'.mpr (Array.getElem?_eq_some_iff.mp e).1) z e
  unfold f4 at this; exact Int.le_of_lt (by simpa using this)
 dsimp only
 by_cases hk1 : k > 0
 ·rw [if_pos hk1]
  have ma:=Ac T m.mi e2 k (fun j hj z e=>by have:=hlo j hj z e; unfold f4 at this; simpa using this)
  by_cases c1 : ia + k + 1 = a.size
  ·rw [if_pos (beq_iff_eq.mpr c1)]
   exact wpS_pure (h _ _ hs3 (.fin (kr T L ma c1)))
  rw [if_neg (_root_.mt beq_iff_eq.mp c1)]
  by_cases c2 : ia + k = a.size
  ·rw [if_pos (beq_iff_eq.mpr c2)]
   exact wpS_pure (h _ _ hs3 (.fin (iC T ma (.inl c2))))
  rw [if_neg (_root_.mt beq_iff_eq.mp c2)]
  have h4 : ia + k + 1 < a.size:=o41 h1 hk0 c1 c2
  exact vf hk3 T L ma h4 h2 (o42 hk1) (getElem?_pos a _ (Nat.lt_of_succ_lt h4)) e2 (hd _ (getElem?_pos a _ (Nat.lt_of_succ_lt h4))) fun r hr=>h r _ hs3 hr
 ·rw [if_neg hk1]
  obtain rfl : k = 0:=Nat.eq_zero_of_not_pos hk1
  exact vf hk3 T L m.mi h1 h2 (Nat.le_refl _) e1 e2 (hd p e1) fun r hr=>h r _ hs3 hr
theorem Aj {st : SortSt} {a b out : Array Keyed} {ia ib g ac bc : Nat} {Q : ForInStep LoC → SortSt → Prop} (hk : kindOf st = oneType') (T : Two a b) (L : iy a b) (m : MJ a b out ia ib)
  (h : ∀ r st',fH st st' → LoQ a b (ia + (ib + 1)) r → Q r st') : wpS (model prog w) A E s (loG a b g ac bc out ia ib) Q st:=by
 unfold loG
 split <;> exact zV hk T L m h
noncomputable def Jj (a b : Array Keyed) (n : Nat) : ForInStep LoI → Prop
 | .done c=>∃ r out ia ib ac bc,c = (r,out,ia,ib,ac,bc) ∧ ((∃ res,r = some res ∧ gz a b res) ∨ (r = none ∧ MJ a b out ia ib ∧ n < ia + ib))
 | .yield c=>∃ out ia ib ac bc,c = (none,out,ia,ib,ac,bc) ∧ MJ a b out ia ib ∧ n < ia + ib
theorem AK {st : SortSt} {a b out : Array Keyed} {ia ib g ac bc : Nat} {Q : ForInStep LoI → SortSt → Prop} (hk : kindOf st = oneType') (T : Two a b) (L : iy a b) (m : MJ a b out ia ib)
  (h : ∀ r,Jj a b (ia + ib) r → Q r st) : wpS (model prog w) A E s (loI a b g out ia ib ac bc) Q st:=by
 obtain ⟨p,q,e1,e2,k1,k2⟩:=yi T m
 have h1:=m.ia; have h2:=m.ib; have h3:=m.len
 refine wpS_bind (bP e2 (wpS_bind (bP e1 (wpS_bind (mD hk k2 k1 ?_)))))
 dsimp only
 by_cases hlt : kk q < kk p
 ·rw [if_pos (decide_eq_true hlt)]
  have mb:=t5 T m.mi e1 e2 (Int.le_of_lt hlt)
  refine wpS_bind (bP e2 ?_)
  by_cases c : ib + 1 = b.size
  ·rw [if_pos (beq_iff_eq.mpr c)]
   exact wpS_pure (h _ ⟨_,_,_,_,_,_,rfl,.inl ⟨_,rfl,iC T mb (.inr c)⟩⟩)
  ·rw [if_neg (_root_.mt beq_iff_eq.mp c)]
   have mj : MJ a b (out.push q) ia (ib + 1):=⟨mb,by rw [Array.size_push,h3]; rfl,h1,Nat.lt_of_le_of_ne h2 c⟩
   split
   ·exact wpS_pure (h _ ⟨_,_,_,_,_,_,rfl,.inr ⟨rfl,mj,Nat.lt_succ_self _⟩⟩)
   ·exact wpS_pure (h _ ⟨_,_,_,_,_,rfl,mj,Nat.lt_succ_self _⟩)
 ·rw [if_neg (by simpa using hlt)]
  have ma:=xu T m.mi e1 e2 (Int.not_lt.mp hlt)
  refine wpS_bind (bP e1 ?_)
  by_cases c : ia + 1 + 1 = a.size
  ·rw [if_pos (beq_iff_eq.mpr c)]
   exact wpS_pure (h _ ⟨_,_,_,_,_,_,rfl,.inl ⟨_,rfl,kr T L ma c⟩⟩)
  ·rw [if_neg (_root_.mt beq_iff_eq.mp c)]
   have mj : MJ a b (out.push p) (ia + 1) ib:=⟨ma,by rw [Array.size_push,h3]; exact o43,Nat.lt_of_le_of_ne h1 c,h2⟩
   have hl : ia + ib < ia + 1 + ib:=o44
   split
   ·exact wpS_pure (h _ ⟨_,_,_,_,_,_,rfl,.inr ⟨rfl,mj,hl⟩⟩)
   ·exact wpS_pure (h _ ⟨_,_,_,_,_,rfl,mj,hl⟩)
noncomputable def F7 (a b : Array Keyed) (n : Nat) : ForInStep LoO → Prop
 | .done c=>∃ res out ia ib g,c = (some res,out,ia,ib,g) ∧ gz a b res
 | .yield c=>∃ out ia ib g,c = (none,out,ia,ib,g) ∧ MJ a b out ia ib ∧ n < ia + ib
theorem xT {st : SortSt} {a b out : Array Keyed} {ia ib g ac bc n : Nat} {Q : ForInStep LoO → SortSt → Prop} (hk : kindOf st = oneType') (T : Two a b) (L : iy a b) (m : MJ a b out ia ib) (hn : n < ia + ib)
  (h : ∀ r st',fH st st' → F7 a b n r → Q r st') : wpS (model prog w) A E s (Ee a b g ac bc out ia ib) Q st:=by
 refine wpS_bind (wpS_lift (wpAny_rule ⟨rfl,?_⟩))
 refine wpS_bind (wpS_mono (wpS_forRange (I:=fun x c st'=>fH st st' ∧ ∃ out ia ib g ac bc,c = (none,out,ia,ib,g,ac,bc) ∧ MJ a b out ia ib ∧ x + n < ia + ib)
  (Q:=fun c st'=>fH st st' ∧ ∃ r out ia ib g ac bc,c = (r,out,ia,ib,g,ac,bc) ∧ ((∃ res,r = some res ∧ gz a b res) ∨ (r = none ∧ MJ a b out ia ib ∧ n < ia + ib))) ?step ?fin ⟨⟨rfl,rfl,rfl,rfl⟩,_,_,_,_,_,_,rfl,m,by rw [Nat.zero_add]; exact hn⟩) ?post)
 case fin=>
  rintro c st' ⟨hs,out,ia,ib,g,ac,bc,rfl,hj,hx⟩
  have:=hj.ia; have:=hj.ib
  exfalso; exact o45 hx (by assumption) this
 case post=>
  rintro c st' ⟨hs,r,out,ia,ib,g,ac,bc,rfl,⟨res,rfl,hp⟩ | ⟨rfl,hj,hl⟩⟩
  ·exact wpS_pure (h _ _ hs ⟨_,_,_,_,_,rfl,hp⟩)
  ·exact wpS_bind (hO fun st3 hs3=>wpS_pure (h _ _ (hs.trans hs3) ⟨_,_,_,_,rfl,hj,hl⟩))
 case step=>
  rintro x c st2 _ _ ⟨hs,out,ia,ib,g,ac,bc,rfl,hj,hl⟩
  show wpS (model prog w) A E s (loG a b g ac bc out ia ib) _ st2
  refine Aj (hs.1.trans hk) T L hj fun r st' hs2 hr=>?_
  cases r with
  | done c=>
   obtain ⟨r,o',i',j',g',a',b',rfl,hr⟩:=hr
   exact ⟨hs.trans hs2,r,o',i',j',g',a',b',rfl,hr.imp id fun ⟨e1,e2,e3⟩=>⟨e1,e2,Nat.lt_trans (Nat.lt_of_le_of_lt (Nat.le_add_left _ _) hl) (Nat.lt_of_succ_lt e3)⟩⟩
  | yield c=>
   obtain ⟨o',i',j',g',a',b',rfl,e2,e3⟩:=hr
   exact ⟨hs.trans hs2,o',i',j',g',a',b',rfl,e2,(o46 hl e3)⟩
theorem z9 {st : SortSt} {a b out : Array Keyed} {ia ib g : Nat} {Q : ForInStep LoO → SortSt → Prop} (hk : kindOf st = oneType') (T : Two a b) (L : iy a b) (m : MJ a b out ia ib)
  (h : ∀ r st',fH st st' → F7 a b (ia + ib) r → Q r st') : wpS (model prog w) A E s (loO a b g out ia ib) Q st:=by
 refine wpS_bind (wpS_mono (wpS_forRange (I:=fun x c st'=>st' = st ∧ ∃ out' ia' ib' ac bc,c = (none,out',ia',ib',ac,bc) ∧ MJ a b out' ia' ib' ∧ x + (ia + ib) ≤ ia' + ib')
  (Q:=fun c st'=>st' = st ∧ ∃ r out' ia' ib' ac bc,c = (r,out',ia',ib',ac,bc) ∧ ((∃ res,r = some res ∧ gz a b res) ∨ (r = none ∧ MJ a b out' ia' ib' ∧ ia + ib < ia' + ib'))) ?step ?fin ⟨rfl,_,_,_,_,_,rfl,m,by rw [Nat.zero_add]; exact Nat.le_refl _⟩) ?post)
 case fin=>
  rintro c st' ⟨rfl,out,ia,ib,ac,bc,rfl,hj,hx⟩
  have:=hj.ia; have:=hj.ib
  exfalso; exact o47 hx (by assumption) this
 case post=>
  rintro c st' ⟨rfl,r,out,ia,ib,ac,bc,rfl,⟨res,rfl,hp⟩ | ⟨rfl,hj,hl⟩⟩
  ·exact wpS_pure (h _ _ ⟨rfl,rfl,rfl,rfl⟩ ⟨_,_,_,_,_,rfl,hp⟩)
  ·exact xT hk T L hj hl h
 case step=>
  rintro x c st2 _ _ ⟨rfl,out',i,j,ac,bc,rfl,hj,hl⟩
  show wpS (model prog w) A E s (loI a b g out' i j ac bc) _ st2
  refine AK hk T L hj fun r hr=>?_
  cases r with
  | done c=>
   obtain ⟨r,o',i',j',a',b',rfl,hr⟩:=hr
   exact ⟨rfl,r,o',i',j',a',b',rfl,hr.imp id fun ⟨e1,e2,e3⟩=>⟨e1,e2,Nat.lt_of_le_of_lt (Nat.le_trans (Nat.le_add_left _ _) hl) e3⟩⟩
  | yield c=>
   obtain ⟨o',i',j',a',b',rfl,e2,e3⟩:=hr
   exact ⟨rfl,o',i',j',a',b',rfl,e2,(o48 hl e3)⟩
theorem tj {st : SortSt} {a b : Array Keyed} {Q : Array Keyed → SortSt → Prop} (hk : kindOf st = oneType') (T : Two a b) (L : iy a b) (ha : 0 < a.size) (hb : 0 < b.size) (h0 : ∀ x y,a[0]? = some x → b[0]? = some y → kk y ≤ kk x)
  (h : ∀ res st',fH st st' → gz a b res → Q res st') : wpS (model prog w) A E s (nT a b) Q st:=by
 rw [r9]
 have ea : a[0]? = some a[0]:=getElem?_pos ..
 have eb : b[0]? = some b[0]:=getElem?_pos ..
 revert ea eb
 generalize a[0] = x
 generalize b[0] = y
 intro ea eb
 have m1 : MI a.toList b.toList (#[y] : Array Keyed).toList 0 1:=t5 (out:=#[]) T (MI.start _ _) ea eb (h0 _ _ ea eb)
 have S0 : fH st st:=⟨rfl,rfl,rfl,rfl⟩
 refine wpS_bind (wpS_lift (wpAny_rule ⟨rfl,?_⟩))
 refine wpS_bind (bP eb ?_)
 by_cases hb1 : 1 = b.size
 ·rw [if_pos (beq_iff_eq.mpr hb1)]
  exact wpS_pure (h _ _ S0 (iC T m1 (.inr hb1)))
 rw [if_neg (_root_.mt beq_iff_eq.mp hb1)]
 by_cases ha1 : 0 + 1 = a.size
 ·rw [if_pos (beq_iff_eq.mpr ha1)]
  exact wpS_pure (h _ _ S0 (kr T L m1 ha1))
 rw [if_neg (_root_.mt beq_iff_eq.mp ha1)]
 refine wpS_bind (wpS_get ?_)
 refine wpS_bind (wpS_mono (wpS_forRange (I:=fun x c st'=>fH st st' ∧ ∃ out ia ib g,c = (none,out,ia,ib,g) ∧ MJ a b out ia ib ∧ x < ia + ib)
  (Q:=fun c st'=>fH st st' ∧ ∃ res out ia ib g,c = (some res,out,ia,ib,g) ∧ gz a b res) ?step ?fin ⟨S0,_,0,1,_,rfl,⟨m1,rfl,(o49 ha ha1),(o50 ha hb hb1 ha1)⟩,Nat.lt_succ_self _⟩) ?post)
 case post=>
  rintro c st' ⟨hs,res,out,ia,ib,g,rfl,hp⟩
  exact wpS_pure (h _ _ hs hp)
 case fin=>
  rintro c st' ⟨hs,out,ia,ib,g,rfl,hj,hx⟩
  have:=hj.ia; have:=hj.ib
  exfalso; exact o51 ha hb hx (by assumption) this
 case step=>
  rintro x c st1 _ _ ⟨hs,out,ia,ib,g,rfl,hj,hx⟩
  show wpS (model prog w) A E s (loO a b g out ia ib) _ st1
  refine z9 (hs.1.trans hk) T L hj fun r st' hs2 hr=>?_
  cases r with
  | done c=>
   obtain ⟨r,o',i',j',g',rfl,hr⟩:=hr
   exact ⟨hs.trans hs2,r,o',i',j',g',rfl,hr⟩
  | yield c=>
   obtain ⟨o',i',j',g',rfl,e2,e3⟩:=hr
   exact ⟨hs.trans hs2,o',i',j',g',rfl,e2,Nat.lt_of_le_of_lt hx e3⟩
end
end Mine
end
section
namespace Mine
structure MH (la lb out : List Keyed) (na nb : Nat) : Prop where
 perm : (la.take na ++ lb.take nb ++ out.reverse).Perm (la ++ lb)
 asc : Asc out.reverse
 le : ∀ x ∈ la.take na ++ lb.take nb,∀ y ∈ out,kk x ≤ kk y
theorem MH.swap {la lb out : List Keyed} {na nb : Nat} (h : MH la lb out na nb) : MH lb la out nb na:=
 ⟨((List.perm_append_comm (l₁:=lb.take nb) (l₂:=la.take na)).append_right out.reverse).trans (h.perm.trans List.perm_append_comm),h.asc,fun x hx y hy=>h.le x (by rw [List.mem_append] at *; exact hx.symm) y hy⟩
theorem MH.start (la lb : List Keyed) : MH la lb [] la.length lb.length:=⟨by simp,Asc.nil,fun x _ y hy=>by cases hy⟩
theorem ud (l : List Keyed) {i j : Nat} (h : i ≤ j) : l.take j = l.take i ++ (l.drop i).take (j - i):=by
 rw [← List.take_add,show i + (j - i) = j by exact o52 h]
theorem MH.takeA {la lb out : List Keyed} {na nb : Nat} (h : MH la lb out na nb) {i : Nat} (hi : i ≤ na) (sa : Asc la) (hle : ∀ x ∈ lb.take nb,∀ y ∈ (la.drop i).take (na - i),kk x ≤ kk y) : MH la lb (out ++ ((la.drop i).take (na - i)).reverse) i nb:=by
 have hs:=ud la hi
 have sd : Asc (la.take na):=sa.sub (List.take_sublist ..)
 rw [hs] at sd
 obtain ⟨s1,s2,s3⟩:=Asc.app.mp sd
 have e1 : (out ++ ((la.drop i).take (na - i)).reverse).reverse = (la.drop i).take (na - i) ++ out.reverse:=by simp
 refine ⟨?_,?_,fun x hx y hy=>?_⟩
 ·rw [e1]
  refine List.Perm.trans ?_ h.perm
  rw [hs,List.append_assoc,List.append_assoc,List.append_assoc]
  refine List.Perm.append_left _ ?_
  rw [← List.append_assoc,← List.append_assoc]
  exact List.Perm.append_right _ List.perm_append_comm
 ·rw [e1]
  refine Asc.app.mpr ⟨s2,h.asc,fun x hx y hy=>h.le x ?_ y (List.mem_reverse.mp hy)⟩
  rw [hs]; exact List.mem_append_left _ (List.mem_append_right _ hx)
 ·rcases List.mem_append.mp hy with hy | hy
  ·refine h.le x ?_ y hy
   rw [List.mem_append] at *
   refine hx.imp (fun hx=>?_) id
   rw [hs]; exact List.mem_append_left _ hx
  ·rw [List.mem_reverse] at hy
   rcases List.mem_append.mp hx with hx | hx
   ·exact s3 x hx y hy
   ·exact hle x hx y hy
theorem MH.takeB {la lb out : List Keyed} {na nb : Nat} (h : MH la lb out na nb) {i : Nat} (hi : i ≤ nb) (sb : Asc lb) (hle : ∀ x ∈ la.take na,∀ y ∈ (lb.drop i).take (nb - i),kk x ≤ kk y) : MH la lb (out ++ ((lb.drop i).take (nb - i)).reverse) na i:=(h.swap.takeA hi sb hle).swap
theorem MH.fin {la lb out : List Keyed} {na nb : Nat} (h : MH la lb out na nb) (sa : Asc la) (sb : Asc lb) (hle : ∀ x ∈ la.take na,∀ y ∈ lb.take nb,kk x ≤ kk y) : (la.take na ++ lb.take nb ++ out.reverse).Perm (la ++ lb) ∧ Asc (la.take na ++ lb.take nb ++ out.reverse):=
 ⟨h.perm,Asc.app.mpr ⟨Asc.app.mpr ⟨sa.sub (List.take_sublist ..),sb.sub (List.take_sublist ..),hle⟩,h.asc,fun x hx y hy=>h.le x hx y (List.mem_reverse.mp hy)⟩⟩
theorem MH.first {la lb out : List Keyed} {na nb : Nat} (h : MH la lb out na nb) (sa : Asc la) (sb : Asc lb) (hle : ∀ x ∈ lb.take nb,∀ y ∈ la.take na,kk x ≤ kk y) : (lb.take nb ++ la.take na ++ out.reverse).Perm (la ++ lb) ∧ Asc (lb.take nb ++ la.take na ++ out.reverse):=by
 obtain ⟨h1,h2⟩:=h.swap.fin sb sa hle
 exact ⟨h1.trans List.perm_append_comm,h2⟩
end Mine
end
section
namespace Mine
structure MJH (a b out : Array Keyed) (na nb : Nat) : Prop where
 mi : MH a.toList b.toList out.toList na nb
 n0 : 0 < na
 n1 : na ≤ a.size
 m0 : 1 < nb
 m1 : nb ≤ b.size
noncomputable def ie (a b : Array Keyed) : Prop:=∀ y,b[0]? = some y → ∀ x ∈ a.toList,kk y ≤ kk x
section
variable {a b out : Array Keyed} {na nb : Nat}
theorem kL (xs : Array Keyed) (n : Nat) : (xs.extract 0 n).toList = xs.toList.take n:=by rw [fC,List.drop_zero,Nat.sub_zero]
theorem Asc.lastly {xs : Array Keyed} (h : Asc xs.toList) {n : Nat} {x : Keyed} (hn : 0 < n) (e : xs[n - 1]? = some x) : ∀ y ∈ xs.toList.take n,kk y ≤ kk x:=by
 intro y hy
 obtain ⟨j,hj⟩:=List.mem_iff_getElem?.mp hy
 have hl:=(List.getElem?_eq_some_iff.mp hj).1
 rw [List.length_take] at hl
 rw [List.getElem?_take_of_lt (o30 hl),Array.getElem?_toList] at hj
 exact h.at (o53 hn hl) hj e
theorem yT (T : Two a b) (h : MH a.toList b.toList out.toList na nb) (e : na = 0 ∨ nb = 0) : gz a b (a.extract 0 na ++ b.extract 0 nb ++ out.reverse):=by
 unfold gz
 rw [Array.toList_append,Array.toList_append,kL,kL,Array.toList_reverse]
 refine h.fin T.sa T.sb fun x hx y hy=>?_
 rcases e with e | e
 ·subst e; rw [List.take_zero] at hx; cases hx
 ·subst e; rw [List.take_zero] at hy; cases hy
theorem qg (T : Two a b) (L : ie a b) (h : MH a.toList b.toList out.toList na nb) (e : nb = 1) (hb : 0 < b.size) : gz a b (b.extract 0 nb ++ a.extract 0 na ++ out.reverse):=by
 unfold gz
 rw [Array.toList_append,Array.toList_append,kL,kL,Array.toList_reverse]
 refine h.first T.sa T.sb fun y hy x hx=>?_
 subst e
 obtain ⟨j,hj⟩:=List.mem_iff_getElem?.mp hy
 have hl:=(List.getElem?_eq_some_iff.mp hj).1
 rw [List.length_take] at hl
 rw [List.getElem?_take_of_lt (o54 hl),Array.getElem?_toList] at hj
 obtain rfl : j = 0:=o55 hl
 exact L y hj x (List.mem_of_mem_take hx)
theorem qi (T : Two a b) (h : MH a.toList b.toList out.toList na nb) (hn : 0 < na) (hm : 0 < nb) {x y : Keyed} (hx : a[na - 1]? = some x) (hy : b[nb - 1]? = some y) (hle : kk y ≤ kk x) : MH a.toList b.toList (out.push x).toList (na - 1) nb:=by
 have h1 : (a.toList.drop (na - 1)).take (na - (na - 1)) = [x]:=by rw [show na - (na - 1) = 1 by exact o56 hn]; exact gS (ch hx)
 have:=h.takeA (i:=na - 1) (o57 hn) T.sa fun z hz t ht=>by
  rw [h1,List.mem_singleton] at ht
  subst ht
  exact Int.le_trans (T.sb.lastly hm hy z hz) hle
 rw [h1] at this
 rw [Array.toList_push]
 exact this
theorem wi (T : Two a b) (h : MH a.toList b.toList out.toList na nb) (hn : 0 < na) (hm : 0 < nb) {x y : Keyed} (hx : a[na - 1]? = some x) (hy : b[nb - 1]? = some y) (hle : kk x ≤ kk y) : MH a.toList b.toList (out.push y).toList na (nb - 1):=by
 have h1 : (b.toList.drop (nb - 1)).take (nb - (nb - 1)) = [y]:=by rw [show nb - (nb - 1) = 1 by exact o56 hm]; exact gS (ch hy)
 have:=h.takeB (i:=nb - 1) (o57 hm) T.sb fun z hz t ht=>by
  rw [h1,List.mem_singleton] at ht
  subst ht
  exact Int.le_trans (T.sa.lastly hn hx z hz) hle
 rw [h1] at this
 rw [Array.toList_push]
 exact this
theorem xq (T : Two a b) (h : MH a.toList b.toList out.toList na nb) (hm : 0 < nb) {y : Keyed} (hy : b[nb - 1]? = some y) {i : Nat} (hi : i ≤ na) (hk : ∀ j,i ≤ j → j < na → ∀ z,a[j]? = some z → kk y ≤ kk z) : MH a.toList b.toList (out ++ (a.extract i na).reverse).toList i nb:=by
 have:=h.takeA hi T.sa fun z hz t ht=>by
  obtain ⟨j,hj,e⟩:=fM ht
  exact Int.le_trans (T.sb.lastly hm hy z hz) (hk (i + j) (o58) (o59 hi hj) t e)
 rw [Array.toList_append,Array.toList_reverse,fC]
 exact this
theorem yF (T : Two a b) (h : MH a.toList b.toList out.toList na nb) (hn : 0 < na) {x : Keyed} (hx : a[na - 1]? = some x) {i : Nat} (hi : i ≤ nb) (hk : ∀ j,i ≤ j → j < nb → ∀ z,b[j]? = some z → kk x ≤ kk z) : MH a.toList b.toList (out ++ (b.extract i nb).reverse).toList na i:=by
 have:=h.takeB hi T.sb fun z hz t ht=>by
  obtain ⟨j,hj,e⟩:=fM ht
  exact Int.le_trans (T.sa.lastly hn hx z hz) (hk (i + j) (o58) (o59 hi hj) t e)
 rw [Array.toList_append,Array.toList_reverse,fC]
 exact this
end
end Mine
end
section
namespace Mine
noncomputable def nB : Array Keyed → Array Keyed → StateT SortSt Sem (Array Keyed):=sortPriv% PySem.Builtin.mergeHi
noncomputable abbrev HiC:=Option (Array Keyed) × Nat × Nat × Array Keyed × Nat × Nat × Nat
noncomputable abbrev HiI:=Option (Array Keyed) × Nat × Nat × Array Keyed × Nat × Nat
noncomputable abbrev HiO:=Option (Array Keyed) × Nat × Nat × Array Keyed × Nat
noncomputable def lM (a b out : Array Keyed) (na nb : Nat):=a.extract 0 na ++ b.extract 0 nb ++ out.reverse
noncomputable def vh (a b out : Array Keyed) (na nb : Nat):=b.extract 0 nb ++ a.extract 0 na ++ out.reverse
noncomputable def hi3 (a b : Array Keyed) (g ac bc : Nat) (out : Array Keyed) (na nb : Nat) : StateT SortSt Sem (ForInStep HiC):=do
 let x ← elem' a (na - 1)
 if na - 1 == 0 then return .done (some (lM a b (out.push x) (na - 1) nb),na - 1,nb,out.push x,g,ac,bc)
 if ac < 7 && bc < 7 then return .done (none,na - 1,nb,out.push x,g,ac,bc)
 return .yield (none,na - 1,nb,out.push x,g,ac,bc)
noncomputable def hi2 (a b : Array Keyed) (g ac bc : Nat) (out : Array Keyed) (na nb : Nat) : StateT SortSt Sem (ForInStep HiC):=do
 let y ← elem' b (nb - 1)
 if nb - 1 == 1 then return .done (some (vh a b (out.push y) na (nb - 1)),na,nb - 1,out.push y,g,ac,bc)
 let x ← elem' a (na - 1)
 match ← fn true x b 0 (nb - 1) (nb - 1 - 1) with
 | some t=>
  if nb - 1 - t > 0 then
   if t == 1 then return .done (some (vh a b (out.push y ++ (b.extract t (nb - 1)).reverse) na t),na,t,out.push y ++ (b.extract t (nb - 1)).reverse,g,ac,nb - 1 - t)
   else if t == 0 then return .done (some (lM a b (out.push y ++ (b.extract t (nb - 1)).reverse) na t),na,t,out.push y ++ (b.extract t (nb - 1)).reverse,g,ac,nb - 1 - t)
   else hi3 a b g ac (nb - 1 - t) (out.push y ++ (b.extract t (nb - 1)).reverse) na t
  else hi3 a b g ac (nb - 1 - t) (out.push y) na (nb - 1)
 | _=>return .done (some (lM a b (out.push y) na (nb - 1)),na,nb - 1,out.push y,g,ac,bc)
noncomputable def hi1 (a b : Array Keyed) (g ac bc : Nat) (out : Array Keyed) (na nb : Nat) : StateT SortSt Sem (ForInStep HiC):=do
 i9 g
 let y ← elem' b (nb - 1)
 match ← fn false y a 0 na (na - 1) with
 | some t=>
  if na - t > 0 then
   if t == 0 then return .done (some (lM a b (out ++ (a.extract t na).reverse) t nb),t,nb,out ++ (a.extract t na).reverse,g,na - t,bc)
   else hi2 a b g (na - t) bc (out ++ (a.extract t na).reverse) t nb
  else hi2 a b g (na - t) bc out na nb
 | _=>return .done (some (lM a b out na nb),na,nb,out,g,ac,bc)
noncomputable def hiG (a b : Array Keyed) (g ac bc : Nat) (out : Array Keyed) (na nb : Nat) : StateT SortSt Sem (ForInStep HiC):=if g > 1 then hi1 a b (g - 1) ac bc out na nb else hi1 a b g ac bc out na nb
noncomputable def hiI (a b : Array Keyed) (g : Nat) (out : Array Keyed) (na nb ac bc : Nat) : StateT SortSt Sem (ForInStep HiI):=do
 let y ← elem' b (nb - 1)
 let x ← elem' a (na - 1)
 match ← lt' y x with
 | some v=>
  if v then
   let x ← elem' a (na - 1)
   if na - 1 == 0 then return .done (some (lM a b (out.push x) (na - 1) nb),na - 1,nb,out.push x,ac + 1,0)
   if ac + 1 ≥ g then return .done (none,na - 1,nb,out.push x,ac + 1,0)
   return .yield (none,na - 1,nb,out.push x,ac + 1,0)
  else
   let y ← elem' b (nb - 1)
   if nb - 1 == 1 then return .done (some (vh a b (out.push y) na (nb - 1)),na,nb - 1,out.push y,0,bc + 1)
   if bc + 1 ≥ g then return .done (none,na,nb - 1,out.push y,0,bc + 1)
   return .yield (none,na,nb - 1,out.push y,0,bc + 1)
 | _=>return .done (some (lM a b out na nb),na,nb,out,ac,bc)
noncomputable def Ep (a b : Array Keyed) (g ac bc : Nat) (out : Array Keyed) (na nb : Nat) : StateT SortSt Sem (ForInStep HiO):=do
 rule "list.sort.gallop"
 let q ← forIn [0:a.size + b.size] ((none,na,nb,out,g + 1,ac,bc) : HiC) fun _ c=>hiG a b c.2.2.2.2.1 c.2.2.2.2.2.1 c.2.2.2.2.2.2 c.2.2.2.1 c.2.1 c.2.2.1
 match q.1 with
 | some z=>return .done (some z,q.2.1,q.2.2.1,q.2.2.2.1,q.2.2.2.2.1)
 | none=>
  i9 (q.2.2.2.2.1 + 1)
  return .yield (none,q.2.1,q.2.2.1,q.2.2.2.1,q.2.2.2.2.1 + 1)
noncomputable def hiO (a b : Array Keyed) (g : Nat) (out : Array Keyed) (na nb : Nat) : StateT SortSt Sem (ForInStep HiO):=do
 let r ← forIn [0:a.size + b.size] ((none,na,nb,out,0,0) : HiI) fun _ c=>hiI a b g c.2.2.2.1 c.2.1 c.2.2.1 c.2.2.2.2.1 c.2.2.2.2.2
 match r.1 with
 | some z=>return .done (some z,r.2.1,r.2.2.1,r.2.2.2.1,g)
 | none=>Ep a b g r.2.2.2.2.1 r.2.2.2.2.2 r.2.2.2.1 r.2.1 r.2.2.1
theorem gp1 {x a b c d n : Nat} (h : x + c + d < n) (q : a + b < c + d - 1) : x + 1 + a + b < n:=by
 refine Nat.lt_trans ?_ h
 rw [Nat.add_assoc x c d,Nat.add_assoc (x + 1),Nat.add_assoc x 1,Nat.add_comm 1]
 exact Nat.add_lt_add_left (Nat.add_lt_of_lt_sub q) x
theorem gp2 {s a b m : Nat} (hx : max 0 s + a + b ≤ m) (hN : m ≤ s) (h : 0 < a) : False:=
 absurd (Nat.le_trans hx hN) (Nat.not_le.mpr (Nat.lt_of_lt_of_le (Nat.lt_add_of_pos_right h) (Nat.le_trans (Nat.add_le_add_right (Nat.le_max_right 0 s) a) (Nat.le_add_right _ b))))
theorem gp3 {x a b c d n : Nat} (h : x + c + d < n) (q : a + b < c + d) : x + 1 + a + b < n:=by
 refine Nat.lt_of_le_of_lt ?_ h
 rw [Nat.add_assoc x c d,Nat.add_assoc (x + 1),Nat.add_assoc x 1,Nat.add_comm 1]
 exact Nat.add_le_add_left q x
theorem rL (a b : Array Keyed) : nB a b = (do
 rule "list.sort.merge-hi"
 let x ← elem' a (a.size - 1)
 if a.size - 1 == 0 then return lM a b #[x] (a.size - 1) b.size
 if b.size == 1 then return vh a b #[x] (a.size - 1) b.size
 let st ← get
 let r ← forIn [0:a.size + b.size] ((none,a.size - 1,b.size,#[x],gallopOf st) : HiO) fun _ c=>hiO a b c.2.2.2.2 c.2.2.2.1 c.2.1 c.2.2.1
 match r.1 with
 | some z=>return z
 | none=>unsupported "internal:list.sort.merge-bound"):=by kernel_rfl
noncomputable def qP (a b : Array Keyed) (n : Nat) (r : Option (Array Keyed)) (out : Array Keyed) (na nb : Nat) : Prop:=(∃ res,r = some res ∧ gz a b res) ∨ (r = none ∧ MJH a b out na nb ∧ na + nb < n)
noncomputable def As (a b : Array Keyed) (n : Nat) (r : Option (Array Keyed)) (out : Array Keyed) (na nb : Nat) : Prop:=r = none ∧ MJH a b out na nb ∧ na + nb < n
noncomputable def HiQ (a b : Array Keyed) (n : Nat) : ForInStep HiC → Prop
 | .done c=>qP a b n c.1 c.2.2.2.1 c.2.1 c.2.2.1
 | .yield c=>As a b n c.1 c.2.2.2.1 c.2.1 c.2.2.1
noncomputable def IM (a b : Array Keyed) (n : Nat) : ForInStep HiI → Prop
 | .done c=>qP a b n c.1 c.2.2.2.1 c.2.1 c.2.2.1
 | .yield c=>As a b n c.1 c.2.2.2.1 c.2.1 c.2.2.1
noncomputable def Ej (a b : Array Keyed) (n : Nat) : ForInStep HiO → Prop
 | .done c=>∃ res,c.1 = some res ∧ gz a b res
 | .yield c=>As a b n c.1 c.2.2.2.1 c.2.1 c.2.2.1
theorem qP.mono {a b : Array Keyed} {n m : Nat} {r : Option (Array Keyed)} {out : Array Keyed} {na nb : Nat} (h : qP a b n r out na nb) (hn : n ≤ m) : qP a b m r out na nb:=h.imp id fun ⟨e1,e2,e3⟩=>⟨e1,e2,Nat.lt_of_lt_of_le e3 hn⟩
section
variable {prog : Program} {w : World} {A : Around} {E : Value → Shared → Prop} {s : Shared} {st : SortSt} {a b out : Array Keyed} {na nb g ac bc n : Nat} {x y : Keyed}
theorem v6 {k : Nat} (h0 : 0 < na) (hn : na + nb ≤ n) : na - 1 + nb < n:=o60 h0 hn
theorem z8 (h0 : 1 < nb) (hn : na + nb ≤ n) : na + (nb - 1) < n:=o61 h0 hn
theorem vN {Q : ForInStep HiC → SortSt → Prop} (T : Two a b) (m : MJH a b out na nb) (hn : na + nb ≤ n) (ex : a[na - 1]? = some x) (ey : b[nb - 1]? = some y) (hle : kk y ≤ kk x)
  (h : ∀ r,HiQ a b n r → Q r st) : wpS (model prog w) A E s (hi3 a b g ac bc out na nb) Q st:=by
 have md:=qi T m.mi m.n0 (Nat.lt_of_succ_lt m.m0) ex ey hle
 refine wpS_bind (bP ex ?_)
 by_cases c : na - 1 = 0
 ·rw [if_pos (beq_iff_eq.mpr c)]
  exact wpS_pure (h _ (.inl ⟨_,rfl,yT T md (.inl c)⟩))
 ·rw [if_neg (_root_.mt beq_iff_eq.mp c)]
  have mj : MJH a b (out.push x) (na - 1) nb:=⟨md,Nat.pos_of_ne_zero c,Nat.le_trans (Nat.sub_le _ _) m.n1,m.m0,m.m1⟩
  have hl:=v6 (k:=0) m.n0 hn
  split
  ·exact wpS_pure (h _ (.inr ⟨rfl,mj,hl⟩))
  ·exact wpS_pure (h _ ⟨rfl,mj,hl⟩)
theorem wj {Q : ForInStep HiC → SortSt → Prop} (hk : kindOf st = oneType') (T : Two a b) (F : ie a b) (m : MJH a b out na nb) (hn : na + nb ≤ n + 1) (ex : a[na - 1]? = some x) (ey : b[nb - 1]? = some y) (hle : kk x ≤ kk y)
  (h : ∀ r,HiQ a b n r → Q r st) : wpS (model prog w) A E s (hi2 a b g ac bc out na nb) Q st:=by
 have hb : 0 < b.size:=Nat.lt_of_lt_of_le (Nat.lt_of_succ_lt m.m0) m.m1
 have mb:=wi T m.mi m.n0 (Nat.lt_of_succ_lt m.m0) ex ey hle
 refine wpS_bind (bP ey ?_)
 by_cases c3 : nb - 1 = 1
 ·rw [if_pos (beq_iff_eq.mpr c3)]
  exact wpS_pure (h _ (.inl ⟨_,rfl,qg T F mb c3 hb⟩))
 rw [if_neg (_root_.mt beq_iff_eq.mp c3)]
 have h0:=m.m0; have h1:=m.m1
 have hm : 1 < nb - 1:=o62 c3 h0
 clear c3
 have kx : IsK x:=T.ka x (List.mem_of_getElem? (ch ex))
 refine wpS_bind (bP ex ?_)
 refine wpS_bind (mM hk kx T.sb T.kb (o63 h0 h1) (o64 h0) fun t ht0 hlo hhi=>?_)
 have h2 : ∀ j,t ≤ j → j < nb - 1 → ∀ z,b[j]? = some z → kk x ≤ kk z:=fun j hj hj2 z e=>by
  have:=hhi j hj hj2 z (by rw [Nat.zero_add]; exact e)
  unfold f4 at this; simpa using this
 have h3 : ∀ j,j < t → ∀ z,b[j]? = some z → kk z ≤ kk x:=fun j hj z e=>by
  have:=hlo j hj z (by rw [Nat.zero_add]; exact e)
  unfold f4 at this; exact Int.le_of_lt (by simpa using this)
 dsimp only
 by_cases c : nb - 1 - t > 0
 ·rw [if_pos c]
  have mc:=yF T mb m.n0 ex (i:=t) ht0 h2
  by_cases c4 : t = 1
  ·rw [if_pos (beq_iff_eq.mpr c4)]
   exact wpS_pure (h _ (.inl ⟨_,rfl,qg T F mc c4 hb⟩))
  rw [if_neg (_root_.mt beq_iff_eq.mp c4)]
  by_cases c6 : t = 0
  ·rw [if_pos (beq_iff_eq.mpr c6)]
   exact wpS_pure (h _ (.inl ⟨_,rfl,yT T mc (.inr c6)⟩))
  rw [if_neg (_root_.mt beq_iff_eq.mp c6)]
  have h5 : t - 1 < b.size:=o65 h0 h1 c c4 c6
  exact vN T ⟨mc,m.n0,m.n1,(o66 c4 c6),(o67 h0 h1 h5)⟩ (o68 hn h0 c c4 c6) ex (getElem?_pos b _ h5) (h3 _ (o69 c6) _ (getElem?_pos b _ h5)) h
 ·rw [if_neg c]
  obtain rfl : t = nb - 1:=o70 h0 ht0 c
  have h5 : nb - 1 - 1 < b.size:=o71 h0 h1
  exact vN T ⟨mb,m.n0,m.n1,hm,(o72 h0 h1 c)⟩ (o73 hn h0 c) ex (getElem?_pos b _ h5) (h3 _ (o74 h0 c) _ (getElem?_pos b _ h5)) h
theorem AL {Q : ForInStep HiC → SortSt → Prop} (hk : kindOf st = oneType') (T : Two a b) (F : ie a b) (m : MJH a b out na nb) (hn : na + nb ≤ n + 1)
  (h : ∀ r st',fH st st' → HiQ a b n r → Q r st') : wpS (model prog w) A E s (hi1 a b g ac bc out na nb) Q st:=by
 have n0:=m.n0; have n1:=m.n1; have m0:=m.m0; have m1:=m.m1
 have hy : nb - 1 < b.size:=o75 m0 m1
 have ey : b[nb - 1]? = some b[nb - 1]:=getElem?_pos b _ hy
 have ky : IsK b[nb - 1]:=T.kb _ (List.mem_of_getElem? (ch ey))
 revert ey ky
 generalize b[nb - 1] = y
 intro ey ky
 refine wpS_bind (hO fun st3 hs3=>?_)
 have hk3:=hs3.1.trans hk
 refine wpS_bind (bP ey ?_)
 refine wpS_bind (mM hk3 ky T.sa T.ka (o76 n1) (o77 n0) fun t ht0 hlo hhi=>?_)
 have h2 : ∀ j,t ≤ j → j < na → ∀ z,a[j]? = some z → kk y ≤ kk z:=fun j hj hj2 z e=>by
  have:=hhi j hj hj2 z (by rw [Nat.zero_add]; exact e)
  unfold f4 at this; exact Int.le_of_lt (by simpa using this)
 have h3 : ∀ j,j < t → ∀ z,a[j]? = some z → kk z ≤ kk y:=fun j hj z e=>by
  have:=hlo j hj z (by rw [Nat.zero_add]; exact e)
  unfold f4 at this; simpa using this
 dsimp only
 by_cases c : na - t > 0
 ·rw [if_pos c]
  have ma:=xq T m.mi (Nat.lt_of_succ_lt m0) ey (i:=t) ht0 h2
  by_cases c1 : t = 0
  ·rw [if_pos (beq_iff_eq.mpr c1)]
   exact wpS_pure (h _ _ hs3 (.inl ⟨_,rfl,yT T ma (.inl c1)⟩))
  rw [if_neg (_root_.mt beq_iff_eq.mp c1)]
  have h5 : t - 1 < a.size:=o78 n0 n1 ht0
  exact wj hk3 T F ⟨ma,Nat.pos_of_ne_zero c1,(o79 n1 ht0),m0,m1⟩ (o80 hn ht0) (getElem?_pos a _ h5) ey (h3 _ (o69 c1) _ (getElem?_pos a _ h5)) fun r hr=>h r _ hs3 hr
 ·rw [if_neg c]
  obtain rfl : t = na:=o81 ht0 c
  have h5 : t - 1 < a.size:=o82 n0 n1
  exact wj hk3 T F m hn (getElem?_pos a _ h5) ey (h3 _ (o77 n0) _ (getElem?_pos a _ h5)) fun r hr=>h r _ hs3 hr
theorem zZ {Q : ForInStep HiC → SortSt → Prop} (hk : kindOf st = oneType') (T : Two a b) (F : ie a b) (m : MJH a b out na nb) (hn : na + nb ≤ n + 1)
  (h : ∀ r st',fH st st' → HiQ a b n r → Q r st') : wpS (model prog w) A E s (hiG a b g ac bc out na nb) Q st:=by
 unfold hiG
 split <;> exact AL hk T F m hn h
theorem Bo {Q : ForInStep HiI → SortSt → Prop} (hk : kindOf st = oneType') (T : Two a b) (F : ie a b) (m : MJH a b out na nb)
  (h : ∀ r,IM a b (na + nb) r → Q r st) : wpS (model prog w) A E s (hiI a b g out na nb ac bc) Q st:=by
 have n0:=m.n0; have n1:=m.n1; have m0:=m.m0; have m1:=m.m1
 have hx : na - 1 < a.size:=o82 n0 n1
 have hy : nb - 1 < b.size:=o75 m0 m1
 have ex : a[na - 1]? = some a[na - 1]:=getElem?_pos a _ hx
 have ey : b[nb - 1]? = some b[nb - 1]:=getElem?_pos b _ hy
 have kx : IsK a[na - 1]:=T.ka _ (List.mem_of_getElem? (ch ex))
 have ky : IsK b[nb - 1]:=T.kb _ (List.mem_of_getElem? (ch ey))
 revert ex ey kx ky
 generalize a[na - 1] = x
 generalize b[nb - 1] = y
 intro ex ey kx ky
 refine wpS_bind (bP ey (wpS_bind (bP ex (wpS_bind (mD hk ky kx ?_)))))
 dsimp only
 by_cases hlt : kk y < kk x
 ·rw [if_pos (decide_eq_true hlt)]
  have md:=qi T m.mi n0 (Nat.lt_of_succ_lt m0) ex ey (Int.le_of_lt hlt)
  refine wpS_bind (bP ex ?_)
  by_cases c : na - 1 = 0
  ·rw [if_pos (beq_iff_eq.mpr c)]
   exact wpS_pure (h _ (.inl ⟨_,rfl,yT T md (.inl c)⟩))
  ·rw [if_neg (_root_.mt beq_iff_eq.mp c)]
   have mj : MJH a b (out.push x) (na - 1) nb:=⟨md,Nat.pos_of_ne_zero c,Nat.le_of_lt hx,m0,m1⟩
   have hl:=v6 (k:=0) n0 (Nat.le_refl (na + nb))
   split
   ·exact wpS_pure (h _ (.inr ⟨rfl,mj,hl⟩))
   ·exact wpS_pure (h _ ⟨rfl,mj,hl⟩)
 ·rw [if_neg (by simpa using hlt)]
  have mb:=wi T m.mi n0 (Nat.lt_of_succ_lt m0) ex ey (Int.not_lt.mp hlt)
  refine wpS_bind (bP ey ?_)
  by_cases c : nb - 1 = 1
  ·rw [if_pos (beq_iff_eq.mpr c)]
   exact wpS_pure (h _ (.inl ⟨_,rfl,qg T F mb c (o83 hy c)⟩))
  ·rw [if_neg (_root_.mt beq_iff_eq.mp c)]
   have mj : MJH a b (out.push y) na (nb - 1):=⟨mb,n0,n1,(o84 m0 c),Nat.le_of_lt hy⟩
   have hl:=z8 m0 (Nat.le_refl (na + nb))
   split
   ·exact wpS_pure (h _ (.inr ⟨rfl,mj,hl⟩))
   ·exact wpS_pure (h _ ⟨rfl,mj,hl⟩)
theorem CB {k l n x : Nat} (h : k + l < n) (hx : x + k + l < n) (hn : n ≤ max 0 x) : False:=o85 hx hn
theorem zS {Q : ForInStep HiO → SortSt → Prop} (hk : kindOf st = oneType') (T : Two a b) (F : ie a b) (m : MJH a b out na nb) (hn : na + nb < n) (hN : n ≤ a.size + b.size)
  (h : ∀ r st',fH st st' → Ej a b n r → Q r st') : wpS (model prog w) A E s (Ep a b g ac bc out na nb) Q st:=by
 refine wpS_bind (wpS_lift (wpAny_rule ⟨rfl,?_⟩))
 refine wpS_bind (wpS_mono (wpS_forRange (I:=fun x c st'=>fH st st' ∧ As a b n c.1 c.2.2.2.1 c.2.1 c.2.2.1 ∧ x + c.2.1 + c.2.2.1 < n)
  (Q:=fun c st'=>fH st st' ∧ qP a b n c.1 c.2.2.2.1 c.2.1 c.2.2.1) (fun x c st2 _ _ ⟨hs,hi,hx⟩=>?step) (fun c st' ⟨hs,hi,hx⟩=>(CB hi.2.2 hx (Nat.le_trans hN (Nat.le_max_right _ _))).elim) ⟨⟨rfl,rfl,rfl,rfl⟩,⟨rfl,m,hn⟩,by rw [Nat.zero_add]; exact hn⟩) fun c st' ⟨hs,hp⟩=>?post)
 case post=>
  rcases hp with ⟨res,e,hp⟩ | ⟨e,hj,hl⟩
  ·rw [e]
   exact wpS_pure (h _ _ hs ⟨res,rfl,hp⟩)
  ·rw [e]
   exact wpS_bind (hO fun st3 hs3=>wpS_pure (h _ _ (hs.trans hs3) ⟨rfl,hj,hl⟩))
 case step=>
  refine zZ (n:=c.2.1 + c.2.2.1 - 1) (hs.1.trans hk) T F hi.2.1 (o86) fun r st' hs2 hr=>?_
  have hl:=hi.2.2
  cases r with
  | done c=>exact ⟨hs.trans hs2,qP.mono hr (o87 hn hl)⟩
  | yield c=>
   obtain ⟨q1,q2,q3⟩:=hr
   exact ⟨hs.trans hs2,⟨q1,q2,(o88 hl q3)⟩,gp1 hx q3⟩
theorem AZ {Q : ForInStep HiO → SortSt → Prop} (hk : kindOf st = oneType') (T : Two a b) (F : ie a b) (m : MJH a b out na nb) (hN : na + nb ≤ a.size + b.size)
  (h : ∀ r st',fH st st' → Ej a b (na + nb) r → Q r st') : wpS (model prog w) A E s (hiO a b g out na nb) Q st:=by
 refine wpS_bind (wpS_mono (wpS_forRange (I:=fun x c st'=>st' = st ∧ c.1 = none ∧ MJH a b c.2.2.2.1 c.2.1 c.2.2.1 ∧ x + c.2.1 + c.2.2.1 ≤ na + nb)
  (Q:=fun c st'=>st' = st ∧ qP a b (na + nb) c.1 c.2.2.2.1 c.2.1 c.2.2.1) (fun x c st2 _ _ ⟨hs,e,hj,hx⟩=>?step) (fun c st' ⟨hs,e,hj,hx⟩=>?fin) ⟨rfl,rfl,m,by rw [Nat.zero_add]; exact Nat.le_refl _⟩) fun c st' ⟨hs,hp⟩=>?post)
 case fin=>
  exfalso
  exact gp2 hx hN (hj.n0)
 case post=>
  subst hs
  rcases hp with ⟨res,e,hp⟩ | ⟨e,hj,hl⟩
  ·rw [e]
   exact wpS_pure (h _ _ ⟨rfl,rfl,rfl,rfl⟩ ⟨res,rfl,hp⟩)
  ·rw [e]
   exact zS hk T F hj hl hN h
 case step=>
  subst hs
  refine Bo hk T F hj fun r hr=>?_
  cases r with
  | done d=>exact ⟨rfl,qP.mono hr (Nat.le_trans (by rw [Nat.add_assoc]; exact Nat.le_add_left _ _) hx)⟩
  | yield d=>
   obtain ⟨q1,q2,q3⟩:=hr
   exact ⟨rfl,q1,q2,(o89 hx q3)⟩
theorem s6 {Q : Array Keyed → SortSt → Prop} (hk : kindOf st = oneType') (T : Two a b) (L : iy a b) (F : ie a b) (ha : 0 < a.size) (hb : 0 < b.size)
  (h : ∀ res st',fH st st' → gz a b res → Q res st') : wpS (model prog w) A E s (nB a b) Q st:=by
 rw [rL]
 have hx : a.size - 1 < a.size:=o77 ha
 have hy : b.size - 1 < b.size:=o77 hb
 have ea : a[a.size - 1]? = some a[a.size - 1]:=getElem?_pos a _ hx
 have eb : b[b.size - 1]? = some b[b.size - 1]:=getElem?_pos b _ hy
 have m0 : MH a.toList b.toList (#[] : Array Keyed).toList a.size b.size:=by have:=MH.start a.toList b.toList; rw [Array.length_toList,Array.length_toList] at this; exact this
 have m1:=qi (out:=#[]) T m0 ha hb ea eb (L _ ea _ (List.mem_of_getElem? (ch eb)))
 revert ea m1
 generalize a[a.size - 1] = x
 intro ea m1
 clear eb m0
 have S0 : fH st st:=⟨rfl,rfl,rfl,rfl⟩
 refine wpS_bind (wpS_lift (wpAny_rule ⟨rfl,?_⟩))
 refine wpS_bind (bP ea ?_)
 by_cases hb1 : a.size - 1 = 0
 ·rw [if_pos (beq_iff_eq.mpr hb1)]
  exact wpS_pure (h _ _ S0 (yT T m1 (.inl hb1)))
 rw [if_neg (_root_.mt beq_iff_eq.mp hb1)]
 by_cases ha1 : b.size = 1
 ·rw [if_pos (beq_iff_eq.mpr ha1)]
  exact wpS_pure (h _ _ S0 (qg T F m1 ha1 hb))
 rw [if_neg (_root_.mt beq_iff_eq.mp ha1)]
 have hb2 : 1 < b.size:=o90 hb ha1
 have hab : 0 + (a.size - 1) + b.size < a.size + b.size:=o91 hx
 refine wpS_bind (wpS_get ?_)
 refine wpS_bind (wpS_mono (wpS_forRange (I:=fun x c st'=>fH st st' ∧ c.1 = none ∧ MJH a b c.2.2.2.1 c.2.1 c.2.2.1 ∧ x + c.2.1 + c.2.2.1 < a.size + b.size)
  (Q:=fun c st'=>fH st st' ∧ ∃ res,c.1 = some res ∧ gz a b res) (fun x c st2 _ _ ⟨hs,e,hj,hx⟩=>?step) (fun c st' ⟨hs,e,hj,hx⟩=>?fin) ⟨S0,rfl,⟨m1,Nat.pos_of_ne_zero hb1,Nat.le_of_lt hx,hb2,Nat.le_refl _⟩,hab⟩) fun c st' ⟨hs,hp⟩=>?post)
 case post=>
  obtain ⟨res,e,hp⟩:=hp
  rw [e]
  exact wpS_pure (h _ _ hs hp)
 case fin=>
  exfalso
  exact gp2 (Nat.le_of_lt hx) (Nat.le_refl _) (hj.n0)
 case step=>
  have e1:=hj.n1; have e2:=hj.m1
  refine AZ (hs.1.trans hk) T F hj (Nat.add_le_add e1 e2) fun r st' hs2 hr=>?_
  cases r with
  | done d=>exact ⟨hs.trans hs2,hr⟩
  | yield d=>
   obtain ⟨q1,q2,q3⟩:=hr
   exact ⟨hs.trans hs2,q1,q2,gp3 hx q3⟩
end
end Mine
end
section
namespace Mine
theorem rZ (i : Nat) : mergeAt' i = (do
 let s ← get
 let (some (sa,na,power),some (sb,nb,_)):=((pendingOf s)[i]?,(pendingOf s)[i + 1]?) | unsupported "internal:list.sort.pending"
 set (setPending s (((pendingOf s).setIfInBounds i (sa,na + nb,power)).eraseIdxIfInBounds (i + 1)))
 let some k ← fn false (← elem' (arrOf s) sb) (arrOf s) sa na 0 | return false
 let (sa,na):=(sa + k,na - k)
 if na == 0 then return true
 let some nb ← fn true (← elem' (arrOf s) (sa + na - 1)) (arrOf s) sb nb (nb - 1) | return false
 if nb == 0 then return true
 let x:=(arrOf s).extract sa sb
 let y:=(arrOf s).extract sb (sb + nb)
 let merged ← if na ≤ nb then nT x y else nB x y
 modify fun s=>setArr s (merged.toList.zipIdx.foldl (fun a (p,j)=>a.setIfInBounds (sa + j) p) (arrOf s))
 return (failedOf (← get)).isNone):=rfl
theorem pF {xs : Array Keyed} {b : Nat} : ∀ (ys M P S : List Keyed) (o : Nat) (xs : Array Keyed),xs.toList = P ++ M ++ S → ys.length = M.length → P.length = b + o →
  ((ys.zipIdx o).foldl (fun a (p,j)=>a.setIfInBounds (b + j) p) xs).toList = P ++ ys ++ S
 | [],M,P,S,o,xs,h,hl,_=>by
  have : M = []:=List.eq_nil_of_length_eq_zero hl.symm
  subst this
  exact h
 | y :: ys,[],P,S,o,xs,h,hl,_=>by simp at hl
 | y :: ys,m :: M,P,S,o,xs,h,hl,hp=>by
  rw [List.zipIdx_cons,List.foldl_cons]
  have:=pF (b:=b) (xs:=xs) ys M (P ++ [y]) S (o + 1) (xs.setIfInBounds (b + o) y) (by
   rw [Array.toList_setIfInBounds,h,← hp,List.append_assoc P,List.set_append_right _ _ (Nat.le_refl _),Nat.sub_self]
   simp) (by simpa using hl) (by simp; exact o92 hp)
  rw [this]
  simp
theorem uV {xs : Array Keyed} {L S R : List Keyed} (h : xs.toList = L ++ S ++ R) {j : Nat} (hj : j < S.length) : xs[L.length + j]? = some S[j]:=by
 rw [← Array.getElem?_toList,h,List.append_assoc,List.getElem?_append_right (o58),Nat.add_sub_cancel_left,List.getElem?_append_left hj]
 exact List.getElem?_eq_getElem hj
theorem Asc.idx {l : List Keyed} (h : Asc l) {i j : Nat} (hij : i ≤ j) (hj : j < l.length) : kk (l[i]'(o93 hij hj)) ≤ kk l[j]:=by
 refine h.first (List.getElem?_eq_getElem (o93 hij hj)) _ ?_
 rw [List.mem_iff_getElem?]
 exact ⟨j - i,by rw [List.getElem?_drop,show i + (j - i) = j by exact o52 hij]; exact List.getElem?_eq_getElem hj⟩
section
variable {prog : Program} {w : World} {A : Around} {E : Value → Shared → Prop} {s : Shared}
theorem nF {st : SortSt} {left : Bool} {key : Keyed} {arr : Array Keyed} {base n hint : Nat} {L S R : List Keyed} {Q : Option Nat → SortSt → Prop} (hk : kindOf st = oneType') (hx : IsK key)
  (ha : arr.toList = L ++ S ++ R) (hb : base = L.length) (hn : n = S.length) (sa : Asc S) (ka : ∀ p ∈ S,IsK p) (hh : hint < n)
  (h : ∀ k,k ≤ n → (∀ z ∈ S.take k,f4 left key z = true) → (∀ z ∈ S.drop k,f4 left key z = false) → Q (some k) st) : wpS (model prog w) A E s (fn left key arr base n hint) Q st:=by
 subst hb hn
 refine n8 hk hx (fun j=>match S[j]? with | some z=>f4 left key z | none=>false) (fun j hj=>?_) (fun i j hij hj hp=>?_) hh fun k hk h1 h2=>h k hk (fun z hz=>?_) fun z hz=>?_
 ·refine ⟨S[j],uV ha hj,ka _ (List.getElem_mem _),?_⟩
  rw [List.getElem?_eq_getElem hj]
 ·have:=sa.idx hij hj
  rw [List.getElem?_eq_getElem hj] at hp
  rw [List.getElem?_eq_getElem (o93 hij hj)]
  dsimp only at hp ⊢
  unfold f4 at hp ⊢
  cases left with
  | true=>
   rw [if_pos rfl] at hp ⊢
   rw [decide_eq_true_eq] at hp ⊢
   exact Int.lt_of_le_of_lt this hp
  | false=>
   rw [if_neg (by decide)] at hp ⊢
   rw [Bool.not_eq_true',decide_eq_false_iff_not] at hp ⊢
   exact fun h=>hp (Int.lt_of_lt_of_le h this)
 ·obtain ⟨j,hj⟩:=List.mem_iff_getElem?.mp hz
  have hl:=(List.getElem?_eq_some_iff.mp hj).1
  rw [List.length_take] at hl
  rw [List.getElem?_take_of_lt (o96 hk hl)] at hj
  have:=h1 j (o96 hk hl)
  rw [hj] at this
  exact this
 ·obtain ⟨j,hj⟩:=List.mem_iff_getElem?.mp hz
  rw [List.getElem?_drop] at hj
  have hl:=(List.getElem?_eq_some_iff.mp hj).1
  have:=h2 (k + j) (o58) hl
  rw [hj] at this
  exact this
theorem tJ {st : SortSt} {i : Nat} {L X Y R : List Keyed} {p1 p2 : List (Nat × Nat × Nat)} {pw pw2 : Nat} {Q : Bool → SortSt → Prop} (hk : kindOf st = oneType') (hf : failedOf st = none) (ha : (arrOf st).toList = L ++ X ++ Y ++ R)
  (sx : Asc X) (sy : Asc Y) (kx : ∀ p ∈ X,IsK p) (ky : ∀ p ∈ Y,IsK p) (nx : X ≠ []) (ny : Y ≠ []) (hp : (pendingOf st).toList = p1 ++ (L.length,X.length,pw) :: (L.length + X.length,Y.length,pw2) :: p2) (hi : i = p1.length)
  (h : ∀ (st' : SortSt) M,kindOf st' = oneType' → failedOf st' = none → (arrOf st').toList = L ++ M ++ R → M.Perm (X ++ Y) → Asc M → (pendingOf st').toList = p1 ++ (L.length,X.length + Y.length,pw) :: p2 → Q true st') : wpS (model prog w) A E s (mergeAt' i) Q st:=by
 rw [rZ]
 have lx:=List.length_pos_iff.mpr nx
 have ly:=List.length_pos_iff.mpr ny
 refine wpS_bind (wpS_get ?_)
 have e1 : (pendingOf st)[i]? = some (L.length,X.length,pw):=by rw [← Array.getElem?_toList,hp,hi,List.getElem?_append_right (Nat.le_refl _),Nat.sub_self]; rfl
 have e2 : (pendingOf st)[i + 1]? = some (L.length + X.length,Y.length,pw2):=by rw [← Array.getElem?_toList,hp,hi,List.getElem?_append_right (o97),Nat.add_sub_cancel_left]; rfl
 rw [e1,e2]
 dsimp only
 have e3 : (((pendingOf st).setIfInBounds i (L.length,X.length + Y.length,pw)).eraseIdxIfInBounds (i + 1)).toList = p1 ++ (L.length,X.length + Y.length,pw) :: p2:=by
  rw [Array.toList_eraseIdxIfInBounds,Array.toList_setIfInBounds,hp,hi,List.set_append_right _ _ (Nat.le_refl _),Nat.sub_self,List.eraseIdx_append_of_length_le (o97),Nat.add_sub_cancel_left]
  rfl
 generalize (((pendingOf st).setIfInBounds i (L.length,X.length + Y.length,pw)).eraseIdxIfInBounds (i + 1)) = pp at e3
 refine wpS_bind (wpS_modify (f:=fun _=>setPending st pp) ?_)
 have ax : (arrOf st).toList = L ++ X ++ (Y ++ R):=by rw [ha,List.append_assoc]
 have ay : (arrOf st).toList = (L ++ X) ++ Y ++ R:=ha
 have lb : L.length + X.length = (L ++ X).length:=by simp
 have eb : (arrOf st)[L.length + X.length]? = some Y[0]:=by rw [lb]; exact uV (j:=0) ay ly
 have kb : IsK Y[0]:=ky _ (List.getElem_mem _)
 refine wpS_bind (bP eb ?_)
 refine wpS_bind (nF hk kb ax rfl rfl sx kx lx fun k hk1 hlo hhi=>?_)
 dsimp only
 have b0 : ∀ y ∈ Y,kk Y[0] ≤ kk y:=fun y hy=>sy.first (i:=0) (List.getElem?_eq_getElem ly) y hy
 have q1 : ∀ x ∈ X.take k,kk x ≤ kk Y[0]:=fun x hx=>by have:=hlo x hx; unfold f4 at this; simpa using this
 have q2 : ∀ x ∈ X.drop k,kk Y[0] < kk x:=fun x hx=>by have:=hhi x hx; unfold f4 at this; simpa using this
 by_cases c1 : X.length - k = 0
 ·rw [if_pos (by simpa using c1)]
  have : X.take k = X:=List.take_of_length_le (o98 lb c1)
  rw [this] at q1
  exact wpS_pure (h (setPending st pp) (X ++ Y) hk hf (by rw [show arrOf (setPending st pp) = arrOf st from rfl,ha]; simp) (List.Perm.refl _) (Asc.app.mpr ⟨sx,sy,fun x hx y hy=>Int.le_trans (q1 x hx) (b0 y hy)⟩) e3)
 rw [if_neg (by simpa using c1)]
 have el : (arrOf st)[L.length + k + (X.length - k) - 1]? = some (X[X.length - 1]'(o99 lx lb)):=by
  rw [show L.length + k + (X.length - k) - 1 = L.length + (X.length - 1) by exact HB lx lb hk1]
  exact uV ax (o99 lx lb)
 have kl : IsK (X[X.length - 1]'(o99 lx lb)):=kx _ (List.getElem_mem _)
 have hl : ∀ x ∈ X,kk x ≤ kk (X[X.length - 1]'(o99 lx lb)):=fun x hx=>by
  obtain ⟨j,hj,rfl⟩:=List.mem_iff_getElem.mp hx
  exact sx.idx (G9 lx lb hj) (o99 lx lb)
 refine wpS_bind (bP el ?_)
 refine wpS_bind (nF hk kl ay lb rfl sy ky (o77 ly) fun m hm1 hmlo hmhi=>?_)
 dsimp only
 have q3 : ∀ y ∈ Y.take m,kk y < kk (X[X.length - 1]'(o99 lx lb)):=fun y hy=>by have:=hmlo y hy; unfold f4 at this; simpa using this
 have q4 : ∀ y ∈ Y.drop m,kk (X[X.length - 1]'(o99 lx lb)) ≤ kk y:=fun y hy=>by have:=hmhi y hy; unfold f4 at this; simpa using this
 by_cases c2 : m = 0
 ·rw [if_pos (by simpa using c2)]
  subst c2
  rw [List.drop_zero] at q4
  exact wpS_pure (h (setPending st pp) (X ++ Y) hk hf (by rw [show arrOf (setPending st pp) = arrOf st from rfl,ha]; simp) (List.Perm.refl _) (Asc.app.mpr ⟨sx,sy,fun x hx y hy=>Int.le_trans (hl x hx) (q4 y hy)⟩) e3)
 rw [if_neg (by simpa using c2)]
 have xl : ((arrOf st).extract (L.length + k) (L.length + X.length)).toList = X.drop k:=by
  rw [fC,ax,List.append_assoc,List.drop_append,List.drop_of_length_le (o58),List.nil_append,Nat.add_sub_cancel_left,List.drop_append_of_le_length hk1,List.take_append_of_le_length (by rw [List.length_drop]; exact Gz lb hk1)]
  exact List.take_of_length_le (by rw [List.length_drop]; exact GW lb hk1)
 have yl : ((arrOf st).extract (L.length + X.length) (L.length + X.length + m)).toList = Y.take m:=by
  rw [fC,ay,List.append_assoc,lb,List.drop_left,Nat.add_sub_cancel_left,List.take_append_of_le_length hm1]
 generalize (arrOf st).extract (L.length + k) (L.length + X.length) = ex at xl
 generalize (arrOf st).extract (L.length + X.length) (L.length + X.length + m) = ey at yl
 have sX : ex.size = X.length - k:=by rw [← Array.length_toList,xl,List.length_drop]
 have sY : ey.size = m:=by rw [← Array.length_toList,yl,List.length_take]; exact Jq hm1
 have T : Two ex ey:=⟨by rw [xl]; exact sx.sub (List.drop_sublist ..),by rw [yl]; exact sy.sub (List.take_sublist ..),by rw [xl]; exact fun p hp=>kx p (List.mem_of_mem_drop hp),by rw [yl]; exact fun p hp=>ky p (List.mem_of_mem_take hp)⟩
 have LA : iy ex ey:=fun x hx y hy=>by
  have hx' : ex[ex.size - 1]? = some (X[X.length - 1]'(by exact o99 lx lb)):=by
   rw [← Array.getElem?_toList,xl,List.getElem?_drop,sX,show k + (X.length - k - 1) = X.length - 1 by exact IW lx lb hk1 c1 c2 sY]
   exact List.getElem?_eq_getElem _
  rw [hx'] at hx
  cases hx
  rw [yl] at hy
  exact Int.le_of_lt (q3 y hy)
 have FB : ie ex ey:=fun y hy x hx=>by
  have hy' : ey[0]? = some Y[0]:=by
   rw [← Array.getElem?_toList,yl,List.getElem?_take_of_lt (Hf lb hk1 c2 sY)]
   exact List.getElem?_eq_getElem _
  rw [hy'] at hy
  cases hy
  rw [xl] at hx
  exact Int.le_of_lt (q2 x hx)
 have fin : ∀ res (st1 : SortSt),fH (setPending st pp) st1 → gz ex ey res → wpS (model prog w) A E s (do
   modify fun s=>setArr s (res.toList.zipIdx.foldl (fun a (p,j)=>a.setIfInBounds (L.length + k + j) p) (arrOf s))
   return (failedOf (← get)).isNone) Q st1:=by
  intro res st1 hs hpost
  obtain ⟨hp1,hp2⟩:=hpost
  rw [xl,yl] at hp1
  refine wpS_bind (wpS_modify ?_)
  refine wpS_bind (wpS_get ?_)
  have ef : failedOf (setArr st1 (res.toList.zipIdx.foldl (fun a (p,j)=>a.setIfInBounds (L.length + k + j) p) (arrOf st1))) = none:=hs.2.2.2.trans hf
  rw [ef]
  have earr : arrOf st1 = arrOf st:=hs.2.1
  have rl:=pF (xs:=arrOf st1) (b:=L.length + k) res.toList (X.drop k ++ Y.take m) (L ++ X.take k) (Y.drop m ++ R) 0 (arrOf st1) (by
   rw [earr,ha]
   conv=>lhs; rw [← List.take_append_drop k X,← List.take_append_drop m Y]
   simp only [List.append_assoc]) (by rw [hp1.length_eq]) (by simp; exact I7 lb hk1)
  refine wpS_pure (h _ (X.take k ++ res.toList ++ Y.drop m) (hs.1.trans hk) ef ?_ ?_ ?_ ?_)
  ·refine rl.trans ?_
   simp only [List.append_assoc]
  ·refine ((hp1.append_left (X.take k)).append_right (Y.drop m)).trans ?_
   refine List.Perm.of_eq ?_
   conv=>rhs; rw [← List.take_append_drop k X,← List.take_append_drop m Y]
   simp only [List.append_assoc]
  ·have mres : ∀ z ∈ res.toList,z ∈ X.drop k ∨ z ∈ Y.take m:=fun z hz=>List.mem_append.mp (hp1.mem_iff.mp hz)
   have s1 : Asc (X.take k ++ X.drop k):=by rw [List.take_append_drop]; exact sx
   have s2 : Asc (Y.take m ++ Y.drop m):=by rw [List.take_append_drop]; exact sy
   refine Asc.app.mpr ⟨Asc.app.mpr ⟨(Asc.app.mp s1).1,hp2,fun x hx z hz=>?_⟩,(Asc.app.mp s2).2.1,fun z hz y hy=>?_⟩
   ·rcases mres z hz with hz | hz
    ·exact (Asc.app.mp s1).2.2 x hx z hz
    ·exact Int.le_trans (q1 x hx) (b0 z (List.mem_of_mem_take hz))
   ·rcases List.mem_append.mp hz with hz | hz
    ·exact Int.le_trans (hl z (List.mem_of_mem_take hz)) (q4 y hy)
    ·rcases mres z hz with hz | hz
     ·exact Int.le_trans (hl z (List.mem_of_mem_drop hz)) (q4 y hy)
     ·exact (Asc.app.mp s2).2.2 z hz y hy
  ·exact (congrArg Array.toList hs.2.2.1).trans e3
 by_cases c3 : X.length - k ≤ m
 ·rw [if_pos c3]
  exact wpS_bind (tj hk T LA (I3 lb hk1 c1 c2 sX sY) (FK lb hk1 c2 sY) (fun x y ex ey=>FB y ey x (by rw [← Array.getElem?_toList] at ex; exact List.mem_of_getElem? ex)) fun res st1 hs hpost=>fin res st1 hs hpost)
 ·rw [if_neg c3]
  exact wpS_bind (s6 hk T LA FB (GK sX sY c3) (FK lb hk1 c2 sY) fun res st1 hs hpost=>fin res st1 hs hpost)
end
end Mine
end
section
namespace Mine
structure Wk (a₀ : Array Keyed) (p₀ : Array (Nat × Nat × Nat)) (lo : Nat) (st : SortSt) : Prop where
 perm : (arrOf st).Perm a₀
 keep : ∀ i,i < lo → (arrOf st)[i]? = a₀[i]?
 kind : kindOf st = oneType'
 failed : failedOf st = none
 pend : pendingOf st = p₀
noncomputable def ck (xs : Array Keyed) (lo n : Nat) : Prop:=∀ i j,lo ≤ i → i ≤ j → j < lo + n → K xs i ≤ K xs j
noncomputable def fh (xs : Array Keyed) (lo n : Nat) : Prop:=∀ i j,lo ≤ i → i ≤ j → j < lo + n → K xs j ≤ K xs i
section
variable {a₀ : Array Keyed} {p₀ : Array (Nat × Nat × Nat)} {lo : Nat} {st : SortSt}
theorem Wk.size (h : Wk a₀ p₀ lo st) : (arrOf st).size = a₀.size:=h.perm.size_eq
theorem Wk.set (h : Wk a₀ p₀ lo st) {xs : Array Keyed} (hp : xs.Perm (arrOf st)) (hk : ∀ i,i < lo → xs[i]? = (arrOf st)[i]?) : Wk a₀ p₀ lo (setArr st xs):=
 ⟨hp.trans h.perm,fun i hi=>(hk i hi).trans (h.keep i hi),h.kind,h.failed,h.pend⟩
theorem Wk.at (h : Wk a₀ p₀ lo st) (h0 : IntKeys a₀) {i : Nat} (hi : i < a₀.size) : ∃ t q,(arrOf st)[i]? = some (.int (K (arrOf st) i) t,q):=
 SBase.at (st:=setPending st #[]) ⟨h.perm,h.kind,h.failed,rfl⟩ h0 hi
theorem Wk.bubble (h : Wk a₀ p₀ lo st) {src d : Nat} (hs : src < a₀.size) (hd : lo + d ≤ src) : Wk a₀ p₀ lo (setArr st (PyProof.Rows.bubble (arrOf st) src d)):=by
 refine h.set (bubble_perm _ _ _) fun i hi=>?_
 rw [getElem?_bubble (by rw [h.size]; exact hs) d (Km hd hi),if_neg (fun a=>Hb hd hi a),if_neg (fun a=>Jh hd hi a)]
theorem Wk.mirror (h : Wk a₀ p₀ lo st) {i j : Nat} (hi : lo ≤ i) (hj : j ≤ a₀.size) : Wk a₀ p₀ lo (setArr st (PyProof.Rows.mirror (arrOf st) i j ((j - i) / 2))):=by
 refine h.set (mirror_perm _ _ _ _) fun k hk=>?_
 rw [getElem?_mirror_all (by rw [h.size]; exact hj),if_neg (fun a=>JL hi hk a)]
end
section
variable {prog : Program} {w : World} {A : Around} {E : Value → Shared → Prop} {s : Shared} {a₀ : Array Keyed} {p₀ : Array (Nat × Nat × Nat)} {lo : Nat}
theorem i6 {st : SortSt} {i j : Nat} {Q : Option Bool → SortSt → Prop} (hB : Wk a₀ p₀ lo st) (h0 : IntKeys a₀) (hi : i < a₀.size) (hj : j < a₀.size)
  (h : Q (some (decide (K (arrOf st) i < K (arrOf st) j))) st) : wpS (model prog w) A E s (ltAt' i j) Q st:=by
 obtain ⟨t,p,e1⟩:=hB.at h0 hi
 obtain ⟨u,q,e2⟩:=hB.at h0 hj
 exact wpS_ltAt hB.kind e1 e2 h
theorem ltP {i P T : Nat} (h1 : ¬ i = P) (h2 : ¬ (P < i ∧ i ≤ T)) (h3 : i ≤ T) : i < P:=Nat.lt_of_le_of_ne (Nat.le_of_not_lt fun h=>h2 ⟨h,h3⟩) h1
theorem Da {j P T : Nat} (c : P < j ∧ j ≤ T) : j - 1 < T:=Nat.lt_of_lt_of_le (Nat.sub_lt (Nat.lt_of_le_of_lt (Nat.zero_le _) c.1) Nat.one_pos) c.2
theorem uM {st : SortSt} {n ok : Nat} {Q : Bool → SortSt → Prop} (h0 : IntKeys a₀) (hn : lo + n ≤ a₀.size) (hok : ok ≤ n) (hB : Wk a₀ p₀ lo st) (hs : ck (arrOf st) lo ok)
  (h : ∀ st',Wk a₀ p₀ lo st' → ck (arrOf st') lo n → Q true st') : wpS (model prog w) A E s (binarySort' lo n ok) Q st:=by
 rw [binarySort'_eq]
 refine wpS_bind (wpS_mono (wpS_forRange (I:=fun k c st'=>c = (none,()) ∧ Wk a₀ p₀ lo st' ∧ ck (arrOf st') lo (min k n))
  (Q:=fun c st'=>c = (none,()) ∧ Wk a₀ p₀ lo st' ∧ ck (arrOf st') lo n) ?step ?fin ?init) ?post)
 case post=>
  rintro c st' ⟨rfl,hB',hs'⟩
  exact wpS_pure (h st' hB' hs')
 case init=>
  refine ⟨rfl,hB,fun i j hl hij hj=>?_⟩
  by_cases h1 : ok = 0
  ·have : i = j:=JV hl hij hj h1
   subst this; exact Int.le_refl _
  ·exact hs i j hl hij (Gx hok hj h1)
 case fin=>
  rintro c st' ⟨hc,hB',hs'⟩
  refine ⟨hc,hB',?_⟩
  rwa [show min (max (max ok 1) n) n = n by exact Jt] at hs'
 case step=>
  rintro k c st' hak hkn ⟨rfl,hB',hs'⟩
  rw [show min k n = k by exact Js hkn] at hs'
  have hk : lo + k < a₀.size:=o31 hn hkn
  refine wpS_bind (wpS_mono (wpS_forRange (I:=fun x c t=>t = st' ∧ ∃ l r,c = (none,l,r) ∧ l ≤ r ∧ r ≤ k ∧ r - l ≤ k - x ∧
    (∀ i,lo ≤ i → i < lo + l → K (arrOf st') i ≤ K (arrOf st') (lo + k)) ∧ (∀ i,lo + r ≤ i → i < lo + k → K (arrOf st') (lo + k) < K (arrOf st') i))
   (Q:=fun c t=>t = st' ∧ ∃ l r,c = (none,l,r) ∧ l ≤ k ∧
    (∀ i,lo ≤ i → i < lo + l → K (arrOf st') i ≤ K (arrOf st') (lo + k)) ∧ (∀ i,lo + l ≤ i → i < lo + k → K (arrOf st') (lo + k) < K (arrOf st') i)) ?istep ?ifin ?iinit) ?ipost)
  case iinit=>exact ⟨rfl,0,k,rfl,(o19),(EX),(Gr),fun i hl hi=>absurd hi (Nat.not_lt.mpr hl),fun i h1 h2=>absurd h2 (Nat.not_lt.mpr h1)⟩
  case ifin=>
   rintro c t ⟨rfl,l,r,rfl,hlr,hrk,hm,hlo,hhi⟩
   have : l = r:=o1 hlr hm
   subst this
   exact ⟨rfl,l,l,rfl,hrk,hlo,hhi⟩
  case istep=>
   rintro x c t _ hxk ⟨rfl,l,r,rfl,hlr,hrk,hm,hlo,hhi⟩
   dsimp only
   by_cases hge : l ≥ r
   ·rw [if_pos hge]
    have : l = r:=o2 hlr hge
    subst this
    exact wpS_pure ⟨rfl,l,l,rfl,hrk,hlo,hhi⟩
   ·rw [if_neg hge]
    refine wpS_bind (i6 hB' h0 hk (GI hk hrk hge) ?_)
    by_cases hless : K (arrOf t) (lo + k) < K (arrOf t) (lo + (l + r) / 2)
    ·simp only [hless,decide_true,if_true]
     refine wpS_pure ⟨rfl,l,(l + r) / 2,rfl,(GT hge),(GB hrk hge),(IT hxk hm hge),hlo,fun i h1 h2=>?_⟩
     exact Int.lt_of_lt_of_le hless (hs' _ _ (HH hge) h1 h2)
    ·simp only [hless,decide_false,Bool.false_eq_true,if_false]
     refine wpS_pure ⟨rfl,(l + r) / 2 + 1,r,rfl,(IG hge),hrk,(Id hxk hm hge),fun i h1 h2=>?_,hhi⟩
     exact Int.le_trans (hs' i (lo + (l + r) / 2) h1 (GE h2) (H5 hrk hge)) (Int.not_lt.mp hless)
  case ipost=>
   rintro c t ⟨rfl,l,r,rfl,hlk,hlo,hhi⟩
   show wpS _ _ _ _ (do moveDown' (lo + k) (lo + l); pure (ForInStep.yield (none,()))) _ _
   rw [moveDown'_eq]
   refine wpS_bind (wpS_modify (wpS_pure ⟨rfl,hB'.bubble hk (Iu hlk),?_⟩))
   rw [show min (k + 1) n = k + 1 by exact Gu hkn]
   have hks : lo + k < (arrOf t).size:=by rw [hB'.size]; exact hk
   intro i j hl hij hj
   show K (bubble (arrOf t) (lo + k) (lo + k - (lo + l))) i ≤ K (bubble (arrOf t) (lo + k) (lo + k - (lo + l))) j
   rw [K_bubble hks (by exact FU hlk),K_bubble hks (by exact FU hlk),show lo + k - (lo + k - (lo + l)) = lo + l by exact Iy hlk]
   have hjT : j ≤ lo + k:=Nat.le_of_lt_succ hj
   have hiT : i ≤ lo + k:=Nat.le_trans hij hjT
   split
   ·next e1=>
    split
    ·exact Int.le_refl _
    ·next n2=>
     split
     ·next c2=>exact Int.le_of_lt (hhi _ (Nat.le_sub_one_of_lt c2.1) (Da c2))
     ·next m2=>exact absurd (ltP n2 m2 hjT) (Nat.not_lt.mpr (e1 ▸ hij))
   ·next n1=>
    split
    ·next c1=>
     split
     ·next e2=>exact absurd c1.1 (Nat.not_lt.mpr (e2 ▸ hij))
     ·next n2=>
      split
      ·next c2=>exact hs' _ _ (Nat.le_sub_one_of_lt (Nat.lt_of_le_of_lt (Nat.le_add_right lo l) c1.1)) (Nat.sub_le_sub_right hij 1) (Da c2)
      ·next m2=>exact absurd (Nat.lt_of_lt_of_le c1.1 hij) (Nat.not_lt.mpr (Nat.le_of_lt (ltP n2 m2 hjT)))
    ·next m1=>
     split
     ·exact hlo _ hl (ltP n1 m1 hiT)
     ·next n2=>
      split
      ·next c2=>exact hs' _ _ hl (Nat.le_sub_one_of_lt (Nat.lt_trans (ltP n1 m1 hiT) c2.1)) (Da c2)
      ·next m2=>exact hs' _ _ hl hij (Nat.lt_of_lt_of_le (ltP n2 m2 hjT) (Nat.add_le_add_left hlk lo))
end
end Mine
end
section
namespace Mine
section
variable {prog : Program} {w : World} {A : Around} {E : Value → Shared → Prop} {s : Shared} {a₀ : Array Keyed} {p₀ : Array (Nat × Nat × Nat)} {lo : Nat}
theorem ck.more {xs : Array Keyed} {n : Nat} (h : ck xs lo n) (hn : 1 ≤ n) (hlt : ¬ K xs (lo + n) < K xs (lo + n - 1)) : ck xs lo (n + 1):=by
 intro i j hl hij hj
 by_cases hjx : j < lo + n
 ·exact h i j hl hij hjx
 ·obtain rfl : j = lo + n:=Er hj hjx
  by_cases hi : i = lo + n
  ·subst hi; exact Int.le_refl _
  ·exact Int.le_trans (h i (lo + n - 1) hl (FY hn hij hi) (ED hn hij)) (Int.not_lt.mp hlt)
theorem fh.more {xs : Array Keyed} {n : Nat} (h : fh xs lo n) (hn : 1 ≤ n) (hlt : K xs (lo + n) ≤ K xs (lo + n - 1)) : fh xs lo (n + 1):=by
 intro i j hl hij hj
 by_cases hjx : j < lo + n
 ·exact h i j hl hij hjx
 ·obtain rfl : j = lo + n:=Er hj hjx
  by_cases hi : i = lo + n
  ·subst hi; exact Int.le_refl _
  ·exact Int.le_trans hlt (h i (lo + n - 1) hl (FY hn hij hi) (ED hn hij))
theorem fh.same {xs ys : Array Keyed} {n : Nat} (h : fh xs lo n) (e : ∀ i,K ys i = K xs i) : fh ys lo n:=by
 intro i j hl hij hj
 rw [e,e]
 exact h i j hl hij hj
theorem ck.one (xs : Array Keyed) : ck xs lo 1:=by
 intro i j hl hij hj
 obtain rfl : i = j:=Ex hl hij hj
 exact Int.le_refl _
theorem mH {st : SortSt} {i j : Nat} {Q : Unit → SortSt → Prop} (h : Q () (setArr st (mirror (arrOf st) i j ((j - i) / 2)))) : wpS (model prog w) A E s (reverseSlice' i j) Q st:=by
 rw [reverseSlice'_eq]; exact wpS_modify h
theorem w2 {st : SortSt} {nrem : Nat} {Q : Option Nat → SortSt → Prop} (h0 : IntKeys a₀) (hn : lo + nrem ≤ a₀.size) (h1 : 1 ≤ nrem) (hB : Wk a₀ p₀ lo st)
  (h : ∀ m st',Wk a₀ p₀ lo st' → 1 ≤ m → m ≤ nrem → ck (arrOf st') lo m → Q (some m) st') : wpS (model prog w) A E s (countRun' lo nrem) Q st:=by
 have p3 : ∀ (n : Nat) (st : SortSt),1 ≤ n → n ≤ nrem → Wk a₀ p₀ lo st → fh (arrOf st) lo n → wpS (model prog w) A E s (do
   let mut n:=n
   reverseSlice' lo (lo + n)
   for _ in [n:nrem] do
    let some smaller ← ltAt' (lo + n) (lo + n - 1) | return none
    if smaller then break
    n:=n + 1
   return some n) Q st:=by
  intro n st hn1 hnn hB hs
  dsimp only
  have hsz : lo + n ≤ (arrOf st).size:=by rw [hB.size]; exact w5 hn hnn
  refine wpS_bind (mH ?_)
  have hB':=hB.mirror (i:=lo) (j:=lo + n) (Nat.le_refl _) (w5 hn hnn)
  have hs' : ck (arrOf (setArr st (mirror (arrOf st) lo (lo + n) ((lo + n - lo) / 2)))) lo n:=by
   intro i j hl hij hj
   show K (mirror (arrOf st) lo (lo + n) ((lo + n - lo) / 2)) i ≤ K (mirror (arrOf st) lo (lo + n) ((lo + n - lo) / 2)) j
   rw [K_mirror hsz,K_mirror hsz,if_pos (Hm hl hij hj),if_pos (Gn hl hij hj)]
   exact hs _ _ (Iv hj) (GF hij hj) (Hp hl hj)
  generalize setArr st (mirror (arrOf st) lo (lo + n) ((lo + n - lo) / 2)) = st1 at hB' hs'
  refine wpS_bind (wpS_mono (wpS_forRange (I:=fun x c st'=>st' = st1 ∧ c = (none,x) ∧ ck (arrOf st') lo x)
   (Q:=fun c st'=>st' = st1 ∧ ∃ m,c = (none,m) ∧ n ≤ m ∧ m ≤ nrem ∧ ck (arrOf st') lo m) ?step ?fin ⟨rfl,rfl,hs'⟩) ?post)
  case post=>
   rintro c st' ⟨rfl,m,rfl,hm1,hm2,hm⟩
   exact wpS_pure (h m _ hB' (Gd hn1 hm1) hm2 hm)
  case fin=>
   rintro c st' ⟨rfl,rfl,hm⟩
   rw [show max n nrem = nrem from Nat.max_eq_right hnn] at hm ⊢
   exact ⟨rfl,_,rfl,hnn,Nat.le_refl _,hm⟩
  case step=>
   rintro x c st' hax hxn ⟨rfl,rfl,hm⟩
   dsimp only
   refine wpS_bind (i6 hB' h0 (o31 hn hxn) (Ik hn hn1 hax hxn) ?_)
   by_cases hless : K (arrOf st') (lo + x) < K (arrOf st') (lo + x - 1)
   ·simp only [hless,decide_true,if_true]
    exact wpS_pure ⟨rfl,_,rfl,hax,(CN hxn),hm⟩
   ·simp only [hless,decide_false,Bool.false_eq_true,if_false]
    exact wpS_pure ⟨rfl,rfl,hm.more (Gd hn1 hax) hless⟩
 have p2 : ∀ (n : Nat) (st : SortSt),n + 1 ≤ nrem → Wk a₀ p₀ lo st → fh (arrOf st) lo (n + 1) → wpS (model prog w) A E s (do
   rule "list.sort.descending-run"
   let mut n:=n + 1
   let mut neq:=0
   for _ in [n:nrem] do
    let some smaller ← ltAt' (lo + n) (lo + n - 1) | return none
    if smaller then
     if neq > 0 then reverseSlice' (lo + n - (neq + 1)) (lo + n)
     neq:=0
    else
     let some larger ← ltAt' (lo + n - 1) (lo + n) | return none
     if larger then break
     neq:=neq + 1
    n:=n + 1
   if neq > 0 then reverseSlice' (lo + n - (neq + 1)) (lo + n)
   reverseSlice' lo (lo + n)
   for _ in [n:nrem] do
    let some smaller ← ltAt' (lo + n) (lo + n - 1) | return none
    if smaller then break
    n:=n + 1
   return some n) Q st:=by
  intro n st hnn hB hs
  dsimp only
  refine wpS_bind (wpS_lift (wpAny_rule ⟨rfl,?_⟩))
  refine wpS_bind (wpS_mono (wpS_forRange (I:=fun x c st'=>∃ neq,c = (none,x,neq) ∧ Wk a₀ p₀ lo st' ∧ fh (arrOf st') lo x ∧ neq + 1 ≤ x ∧ (∀ i,lo + x - (neq + 1) ≤ i → i < lo + x → K (arrOf st') i = K (arrOf st') (lo + x - 1)))
   (Q:=fun c st'=>∃ m neq,c = (none,m,neq) ∧ n + 1 ≤ m ∧ m ≤ nrem ∧ Wk a₀ p₀ lo st' ∧ fh (arrOf st') lo m ∧ neq + 1 ≤ m ∧ (∀ i,lo + m - (neq + 1) ≤ i → i < lo + m → K (arrOf st') i = K (arrOf st') (lo + m - 1)))
   ?step ?fin ⟨0,rfl,hB,hs,(DZ),fun i h1 h2=>by congr 1; exact JY h1 h2⟩) ?post)
  case post=>
   rintro c st' ⟨m,neq,rfl,hm1,hm2,hB',hs',hq,he⟩
   dsimp only
   have hsz : lo + m ≤ (arrOf st').size:=by rw [hB'.size]; exact w5 hn hm2
   by_cases hneq : neq > 0
   ·rw [if_pos hneq]
    refine wpS_bind (mH ?_)
    exact p3 m _ (IA hq hneq) hm2 (hB'.mirror (El hq) (w5 hn hm2)) (hs'.same (K_mirror_equal hsz he))
   ·rw [if_neg hneq]
    exact p3 m _ (JM hq hneq) hm2 hB' hs'
  case fin=>
   rintro c st' ⟨neq,rfl,hB',hs',hq,he⟩
   rw [show max (n + 1) nrem = nrem from Nat.max_eq_right hnn] at hs' hq he ⊢
   exact ⟨_,_,rfl,hnn,Nat.le_refl _,hB',hs',hq,he⟩
  case step=>
   rintro x c st' hax hxn ⟨neq,rfl,hB',hs',hq,he⟩
   dsimp only
   have hsz : lo + x ≤ (arrOf st').size:=by rw [hB'.size]; exact F8 hn hxn
   refine wpS_bind (i6 hB' h0 (o31 hn hxn) (Fv hn hxn hq) ?_)
   by_cases hless : K (arrOf st') (lo + x) < K (arrOf st') (lo + x - 1)
   ·simp only [hless,decide_true,if_true]
    have hd:=hs'.more (EA hq) (Int.le_of_lt hless)
    by_cases hneq : neq > 0
    ·rw [if_pos hneq]
     exact wpS_bind (mH (wpS_pure ⟨0,rfl,hB'.mirror (El hq) (F8 hn hxn),hd.same (K_mirror_equal hsz he),(DZ),fun i h1 h2=>by congr 1; exact EQ hax h1 h2⟩))
    ·rw [if_neg hneq]
     exact wpS_pure ⟨0,rfl,hB',hd,(DZ),fun i h1 h2=>by congr 1; exact EQ hax h1 h2⟩
   ·simp only [hless,decide_false,Bool.false_eq_true,if_false]
    refine wpS_bind (i6 hB' h0 (Fv hn hxn hq) (o31 hn hxn) ?_)
    by_cases hlarger : K (arrOf st') (lo + x - 1) < K (arrOf st') (lo + x)
    ·simp only [hlarger,decide_true,if_true]
     exact wpS_pure ⟨x,neq,rfl,hax,(CN hxn),hB',hs',hq,he⟩
    ·simp only [hlarger,decide_false,Bool.false_eq_true,if_false]
     have heqx : K (arrOf st') (lo + x) = K (arrOf st') (lo + x - 1):=It hless hlarger
     refine wpS_pure ⟨neq + 1,rfl,hB',hs'.more (EA hq) (Int.le_of_eq heqx),(Hu hq),fun i h1 h2=>?_⟩
     rw [show lo + (x + 1) - 1 = lo + x by exact Jx hax]
     by_cases hix : i = lo + x
     ·subst hix; rfl
     ·rw [heqx]; exact he i (JH hq h1 h2 hix) (Il h2 hix)
 rw [countRun'_eq]
 refine wpS_bind (wpS_mono (wpS_forRange (I:=fun x c st'=>st' = st ∧ c = (none,x) ∧ ck (arrOf st') lo x)
   (Q:=fun c st'=>st' = st ∧ ∃ m,c = (none,m) ∧ 1 ≤ m ∧ m ≤ nrem ∧ ck (arrOf st') lo m ∧ (m = nrem ∨ K (arrOf st') (lo + m) < K (arrOf st') (lo + m - 1))) ?step ?fin ⟨rfl,rfl,ck.one _⟩) ?post)
 case fin=>
  rintro c st' ⟨rfl,rfl,hm⟩
  rw [show max 1 nrem = nrem from Nat.max_eq_right h1] at hm ⊢
  exact ⟨rfl,_,rfl,h1,Nat.le_refl _,hm,.inl rfl⟩
 case step=>
  rintro x c st' hax hxn ⟨rfl,rfl,hm⟩
  dsimp only
  refine wpS_bind (i6 hB h0 (o31 hn hxn) (Kl hn hax hxn) ?_)
  by_cases hless : K (arrOf st') (lo + x) < K (arrOf st') (lo + x - 1)
  ·simp only [hless,decide_true,if_true]
   exact wpS_pure ⟨rfl,_,rfl,hax,(CN hxn),hm,.inr hless⟩
  ·simp only [hless,decide_false,Bool.false_eq_true,if_false]
   exact wpS_pure ⟨rfl,rfl,hm.more hax hless⟩
 case post=>
  rintro c st' ⟨rfl,n,rfl,hn1,hn2,hsn,hor⟩
  dsimp only
  by_cases hnn : n = nrem
  ·rw [if_pos (by simpa using hnn)]
   exact wpS_pure (h n _ hB hn1 hn2 hsn)
  rw [if_neg (by simpa using hnn)]
  have hlt:=hor.resolve_left hnn
  have hsz : lo + n ≤ (arrOf st').size:=by rw [hB.size]; exact w5 hn hn2
  by_cases hgt : n > 1
  ·rw [if_pos hgt]
   refine wpS_bind (i6 hB h0 (Jr hn h1) (IV hn hn2 hgt) ?_)
   by_cases hrose : K (arrOf st') lo < K (arrOf st') (lo + n - 1)
   ·simp only [hrose,decide_true,if_true]
    exact wpS_pure (h n _ hB hn1 hn2 hsn)
   ·simp only [hrose,decide_false,Bool.false_eq_true,if_false]
    have hall : ∀ k,lo ≤ k → k < lo + n → K (arrOf st') k = K (arrOf st') (lo + n - 1):=by
     intro k hk1 hk
     have a1:=hsn lo k (EX) hk1 hk
     have a2:=hsn k (lo + n - 1) hk1 (Hh hk) (Jp hgt)
     exact Int.le_antisymm a2 (Int.le_trans (Int.not_lt.mp hrose) a1)
    refine wpS_bind (mH (p2 n _ (IC hn2 hnn) (hB.mirror (Nat.le_refl _) (w5 hn hn2)) ?_))
    refine fh.same (xs:=arrOf st') ?_ (K_mirror_equal hsz hall)
    refine fh.more (fun i j hl hij hj=>?_) hn1 (Int.le_of_lt hlt)
    rw [hall i hl (JN hij hj),hall j (EV hl hij) hj]
    exact Int.le_refl _
  ·rw [if_neg hgt]
   obtain rfl : n = 1:=GA hn1 hgt
   refine p2 1 _ (IU h1 hnn) hB (fh.more (fun i j hl hij hj=>?_) hn1 (Int.le_of_lt hlt))
   obtain rfl : i = j:=Ex hl hij hj
   exact Int.le_refl _
end
end Mine
end
section
namespace Mine
noncomputable def Sts : Nat → List (List Keyed) → List (Nat × Nat)
 | _,[]=>[]
 | o,x :: r=>(o,x.length) :: Sts (o + x.length) r
theorem mS : ∀ (o : Nat) (a b : List (List Keyed)),Sts o (a ++ b) = Sts o a ++ Sts (o + a.flatten.length) b
 | o,[],b=>by simp [Sts]
 | o,x :: r,b=>by
  show _ :: Sts _ (r ++ b) = _
  rw [mS,List.flatten_cons,List.length_append,Nat.add_assoc]
  rfl
theorem qA : ∀ (o : Nat) (a : List (List Keyed)),(Sts o a).length = a.length
 | _,[]=>rfl
 | o,x :: r=>by show (Sts _ r).length + 1 = _; rw [qA]; rfl
noncomputable def two (p : Nat × Nat × Nat) : Nat × Nat:=(p.1,p.2.1)
structure cc (a₀ : Array Keyed) (st : SortSt) (segs : List (List Keyed)) (rest : List Keyed) : Prop where
 kind : kindOf st = oneType'
 failed : failedOf st = none
 perm : (arrOf st).Perm a₀
 arr : (arrOf st).toList = segs.flatten ++ rest
 asc : ∀ x ∈ segs,Asc x ∧ x ≠ []
 pend : (pendingOf st).toList.map two = Sts 0 segs
section
variable {a₀ : Array Keyed} {st : SortSt} {segs : List (List Keyed)} {rest : List Keyed}
theorem cc.psize (h : cc a₀ st segs rest) : (pendingOf st).size = segs.length:=by
 have:=congrArg List.length h.pend
 rw [List.length_map,qA,Array.length_toList] at this
 exact this
theorem cc.size (h : cc a₀ st segs rest) : segs.flatten.length + rest.length = a₀.size:=by
 have:=congrArg List.length h.arr
 rw [List.length_append,Array.length_toList,h.perm.size_eq] at this
 exact this.symm
theorem cc.keys (h : cc a₀ st segs rest) (h0 : IntKeys a₀) : ∀ p ∈ (arrOf st).toList,IsK p:=fun p hp=>
 h0 p ((Array.perm_iff_toList_perm.mp h.perm).mem_iff.mp hp)
theorem te : ∀ {l : List (List Keyed)},(∀ x ∈ l,Asc x ∧ x ≠ []) → l.length ≤ l.flatten.length
 | [],_=>Nat.le_refl _
 | x :: r,h=>by
  have h1:=te fun y hy=>h y (List.mem_cons_of_mem _ hy)
  have h2:=List.length_pos_iff.mpr (h x List.mem_cons_self).2
  rw [List.flatten_cons,List.length_append,List.length_cons]
  exact Nat.le_trans (Nat.le_of_eq (Nat.add_comm _ _)) (Nat.add_le_add h2 h1)
end
section
variable {prog : Program} {w : World} {A : Around} {E : Value → Shared → Prop} {s : Shared} {a₀ : Array Keyed}
theorem kp1 {s m : Nat} (e : s = m) (h : 1 < s) : s - 2 + 1 < m:=Nat.lt_of_lt_of_le (Nat.lt_succ_self (s - 2 + 1)) (Nat.le_of_eq ((Nat.sub_add_cancel h).trans e))
theorem kp2 {s m : Nat} (e : s = m) (h : 1 < s) : s - 2 - 1 + 1 < m:=Nat.lt_of_le_of_lt (Nat.add_le_add_right (Nat.sub_le _ 1) 1) (kp1 e h)
theorem nr {st : SortSt} {i : Nat} {segs : List (List Keyed)} {rest : List Keyed} {Q : Bool → SortSt → Prop} (h0 : IntKeys a₀) (hR : cc a₀ st segs rest) (hi : i + 1 < segs.length)
  (h : ∀ (st' : SortSt) segs',cc a₀ st' segs' rest → segs'.length + 1 = segs.length → Q true st') : wpS (model prog w) A E s (mergeAt' i) Q st:=by
 obtain ⟨s1,X,Y,s2,rfl,h1⟩ : ∃ s1 X Y s2,segs = s1 ++ X :: Y :: s2 ∧ s1.length = i:=by
  refine ⟨segs.take i,segs[i],segs[i + 1],segs.drop (i + 2),?_,by rw [List.length_take]; exact J7 hi⟩
  conv=>lhs; rw [← List.take_append_drop i segs]
  rw [List.drop_eq_getElem_cons (Go hi),List.drop_eq_getElem_cons hi]
 have hp:=hR.pend
 rw [mS,Nat.zero_add] at hp
 obtain ⟨p1,r1,e1,hp1,hr1⟩:=List.map_eq_append_iff.mp hp
 obtain ⟨a,r2,rfl,ha,hr2⟩:=List.map_eq_cons_iff.mp hr1
 obtain ⟨b,p2,rfl,hb,hr3⟩:=List.map_eq_cons_iff.mp hr2
 obtain ⟨a1,a2,a3⟩:=a
 obtain ⟨b1,b2,b3⟩:=b
 cases ha
 cases hb
 have hX:=hR.asc X (by simp)
 have hY:=hR.asc Y (by simp)
 have harr : (arrOf st).toList = s1.flatten ++ X ++ Y ++ (s2.flatten ++ rest):=by
  rw [hR.arr]; simp
 have hK:=hR.keys h0
 rw [harr] at hK
 refine tJ (L:=s1.flatten) (X:=X) (Y:=Y) (R:=s2.flatten ++ rest) (p1:=p1) (p2:=p2) hR.kind hR.failed harr hX.1 hY.1 (fun p hp=>hK p (by simp [hp])) (fun p hp=>hK p (by simp [hp])) hX.2 hY.2 e1 ?_ fun st' M k1 k2 k3 k4 k5 k6=>?_
 ·rw [← h1,← qA 0 s1,← hp1,List.length_map]
 ·have hl:=k4.length_eq
  rw [List.length_append] at hl
  refine h st' (s1 ++ M :: s2) ⟨k1,k2,?_,by rw [k3]; simp,fun x hx=>?_,?_⟩ (by simp only [List.length_append,List.length_cons]; exact HZ)
  ·refine Array.Perm.trans (Array.perm_iff_toList_perm.mpr ?_) hR.perm
   rw [k3,harr,List.append_assoc (s1.flatten) X Y]
   exact (k4.append_left _).append_right _
  ·rcases List.mem_append.mp hx with hx | hx
   ·exact hR.asc x (List.mem_append_left _ hx)
   ·rcases List.mem_cons.mp hx with rfl | hx
    ·refine ⟨k5,fun e=>hX.2 (List.eq_nil_of_length_eq_zero ?_)⟩
     subst e
     rw [List.length_nil] at hl
     exact ID hl
    ·exact hR.asc x (by simp [hx])
  ·rw [k6,List.map_append,List.map_cons,hp1,hr3,mS,Nat.zero_add]
   show _ ++ (_,X.length + Y.length) :: _ = _ ++ (_,M.length) :: _
   rw [hl,Nat.add_assoc]
end
section
variable {a₀ : Array Keyed} {st : SortSt} {segs : List (List Keyed)} {rest : List Keyed}
theorem cc.wk (h : cc a₀ st segs rest) (lo : Nat) : Wk (arrOf st) (pendingOf st) lo st:=⟨Array.Perm.refl _,fun _ _=>rfl,h.kind,h.failed,rfl⟩
theorem cc.ints (h : cc a₀ st segs rest) (h0 : IntKeys a₀) : IntKeys (arrOf st):=h.keys h0
theorem Ct {xs : Array Keyed} {lo n : Nat} (h : ck xs lo n) (hn : lo + n ≤ xs.size) : Asc ((xs.toList.drop lo).take n):=by
 unfold Asc
 rw [List.pairwise_iff_getElem]
 intro i j hi hj hij
 rw [List.length_map,List.length_take] at hi hj
 have h1:=h (lo + i) (lo + j) (o58) (Kc hij) (Gs hj)
 rw [K_eq (Kk hn hi),K_eq (Hx hn hi hj)] at h1
 simpa [kk] using h1
theorem cc.run (h : cc a₀ st segs rest) {st' : SortSt} {lo n : Nat} (hl : segs.flatten.length = lo) (hW : Wk (arrOf st) (pendingOf st) lo st') (hs : ck (arrOf st') lo n) (hn : lo + n ≤ a₀.size) :
  ∃ X rest',cc a₀ st' segs (X ++ rest') ∧ Asc X ∧ X.length = n:=by
 have hsz : (arrOf st').size = a₀.size:=hW.size.trans h.perm.size_eq
 refine ⟨((arrOf st').toList.drop lo).take n,((arrOf st').toList.drop lo).drop n,⟨hW.kind,hW.failed,hW.perm.trans h.perm,?_,h.asc,by rw [hW.pend]; exact h.pend⟩,Ct hs (HX hn hsz),by rw [List.length_take,List.length_drop,Array.length_toList]; exact He hn hsz⟩
 rw [List.take_append_drop]
 conv=>lhs; rw [← List.take_append_drop lo (arrOf st').toList]
 congr 1
 have e : segs.flatten = (arrOf st).toList.take lo:=by rw [h.arr,← hl,List.take_left]
 rw [e]
 refine List.ext_getElem? fun i=>?_
 by_cases hi : i < lo
 ·rw [List.getElem?_take_of_lt hi,List.getElem?_take_of_lt hi,Array.getElem?_toList,Array.getElem?_toList]
  exact hW.keep i hi
 ·rw [List.getElem?_take_eq_none (Ft hi),List.getElem?_take_eq_none (Ft hi)]
theorem uS {p : Array (Nat × Nat × Nat)} {i pw : Nat} : (p.modify i fun x=>(x.1,x.2.1,pw)).toList.map two = p.toList.map two:=by
 rw [Array.toList_modify]
 refine List.ext_getElem? fun j=>?_
 rw [List.getElem?_map,List.getElem?_map,List.getElem?_modify]
 cases p.toList[j]? with
 | none=>rfl
 | some v=>
  obtain ⟨v1,v2,v3⟩:=v
  by_cases hij : i = j
  ·simp [hij,two]
  ·simp [hij,two]
theorem cc.pw {pp : Array (Nat × Nat × Nat)} (h : cc a₀ st segs rest) (e : pp.toList.map two = (pendingOf st).toList.map two) : cc a₀ (setPending st pp) segs rest:=
 ⟨h.kind,h.failed,h.perm,h.arr,h.asc,e.trans h.pend⟩
theorem cc.push {X : List Keyed} (h : cc a₀ st segs (X ++ rest)) {lo n : Nat} (hl : segs.flatten.length = lo) (hn : X.length = n) (sx : Asc X) (n1 : 1 ≤ n) : cc a₀ (setPending st ((pendingOf st).push (lo,n,0))) (segs ++ [X]) rest:=by
 refine ⟨h.kind,h.failed,h.perm,?_,fun x hx=>?_,?_⟩
 ·refine h.arr.trans ?_
  simp
 ·rcases List.mem_append.mp hx with hx | hx
  ·exact h.asc x hx
  ·rw [List.mem_singleton] at hx
   subst hx
   exact ⟨sx,fun e=>by subst e; simp at hn; exact Ju n1 hn⟩
 ·show ((pendingOf st).push (lo,n,0)).toList.map two = _
  rw [Array.toList_push,List.map_append,h.pend,mS,Nat.zero_add,hl]
  show _ ++ [(lo,n)] = _ ++ [(lo,X.length)]
  rw [hn]
theorem cc.done (h : cc a₀ st segs []) (h1 : segs.length ≤ 1) : SortedTo (arrOf st) a₀.size:=by
 have hs : Asc (arrOf st).toList:=by
  rw [h.arr,List.append_nil]
  match segs,h1,h.asc with
  | [],_,_=>exact Asc.nil
  | [x],_,a=>simpa using (a x (by simp)).1
 intro i j hij hj
 rw [← h.perm.size_eq] at hj
 rw [K_eq (o93 hij hj),K_eq hj]
 exact hs.idx (i:=i) (j:=j) hij hj
end
section
variable {prog : Program} {w : World} {A : Around} {E : Value → Shared → Prop} {s : Shared} {a₀ : Array Keyed}
theorem rC {st : SortSt} {Q : Unit → SortSt → Prop} (h0 : IntKeys a₀) (hp : (arrOf st).Perm a₀) (hk : kindOf st = oneType') (hf : failedOf st = none) (hpe : pendingOf st = #[])
  (h : ∀ st' : SortSt,(arrOf st').Perm a₀ → failedOf st' = none → SortedTo (arrOf st') a₀.size → Q () st') : wpS (model prog w) A E s sortRuns' Q st:=by
 rw [sortRuns'_eq]
 refine wpS_bind (wpS_get ?_)
 dsimp only
 rw [hp.size_eq]
 generalize minRun' a₀.size a₀.size 0 = minrun
 refine wpS_bind (wpS_mono (wpS_forRange
  (I:=fun x c st'=>∃ segs rest,c = (none,segs.flatten.length) ∧ cc a₀ st' segs rest ∧ x ≤ segs.flatten.length)
  (Q:=fun c st'=>∃ segs,c = (none,a₀.size) ∧ cc a₀ st' segs []) ?step ?fin ⟨[],(arrOf st).toList,rfl,⟨hk,hf,hp,rfl,by simp,by rw [hpe]; rfl⟩,by simp⟩) ?post)
 case fin=>
  rintro c st' ⟨segs,rest,rfl,hR,hx⟩
  have hs:=hR.size
  have : rest = []:=List.eq_nil_of_length_eq_zero (H1 hx hs)
  subst this
  exact ⟨segs,by rw [← hs]; rfl,hR⟩
 case step=>
  rintro x c st' _ hx ⟨segs,rest,rfl,hR,hxl⟩
  have hsz:=hR.size
  dsimp only
  by_cases hge : segs.flatten.length ≥ a₀.size
  ·rw [if_pos hge]
   have : rest = []:=List.eq_nil_of_length_eq_zero (GN hsz hge)
   subst this
   exact wpS_pure ⟨segs,by rw [← hsz]; rfl,hR⟩
  rw [if_neg hge]
  have hW:=hR.wk segs.flatten.length
  have hps:=hR.perm.size_eq
  refine wpS_bind (w2 (hR.ints h0) (GZ hsz hge hps) (IZ hsz hge) hW fun m st2 hW2 hm1 hm2 hs2=>?_)
  dsimp only
  by_cases hlt : m < minrun
  rw [if_pos hlt]
  refine wpS_bind (wpS_lift (wpAny_rule ⟨rfl,?_⟩))
  refine wpS_bind (uM (n:=min (a₀.size - segs.flatten.length) minrun) (hR.ints h0) (Ir hsz hge hps) (GR hm2 hlt) hW2 hs2 fun st3 hW3 hs3=>?_)
  simp only [Bool.not_true,Bool.false_eq_true,if_false]
  have hn1 : 1 ≤ min (a₀.size - segs.flatten.length) minrun:=Gj hm1 hm2 hlt
  have hn2 : segs.flatten.length + min (a₀.size - segs.flatten.length) minrun ≤ a₀.size:=JZ hsz hge
  clear hm1 hm2 hlt hs2 hW2
  revert hs3 hn1 hn2
  generalize min (a₀.size - segs.flatten.length) minrun = n
  intro hs3 hn1 hn2
  rotate_left
  rw [if_neg hlt]
  have hm2 : segs.flatten.length + m ≤ a₀.size:=GJ hsz hge hm2
  clear hlt
  revert hW2 hs2 hm1 hm2
  generalize m = n
  generalize st2 = st3
  intro hW3 hn1 hs3 hn2
  all_goals
   obtain ⟨X,rest',hR3,sX,hX⟩:=hR.run rfl hW3 hs3 hn2
   refine wpS_bind (wpS_get ?_)
   cases hb : (pendingOf st3).back? with
   | none=>
    dsimp only
    refine wpS_bind (wpS_modify (wpS_pure ⟨_,_,?_,hR3.push rfl hX sX hn1,?_⟩))
    ·simp only [List.flatten_append,List.length_append,List.flatten_cons,List.flatten_nil,List.append_nil]; rw [hX]
    ·simp only [List.flatten_append,List.length_append,List.flatten_cons,List.flatten_nil,List.append_nil]; exact Nat.add_le_add hxl (hX ▸ hn1)
   | some t=>
    obtain ⟨s1,n1,t3⟩:=t
    refine wpS_bind (wpS_mono (wpS_forRange (I:=fun x c st'=>c = (none,()) ∧ ∃ segs',cc a₀ st' segs' (X ++ rest')) (Q:=fun c st'=>c = (none,()) ∧ ∃ segs',cc a₀ st' segs' (X ++ rest')) ?_ (fun _ _ hh=>hh) ⟨rfl,segs,hR3⟩) ?_)
    ·rintro y c st5 _ _ ⟨rfl,segs5,hR5⟩
     refine wpS_bind (wpS_get ?_)
     have hsz5:=hR5.psize
     by_cases hp1 : (pendingOf st5).size > 1
     ·rw [if_pos hp1,getElem?_pos (pendingOf st5) ((pendingOf st5).size - 2) (Nat.sub_lt (Nat.lt_of_succ_lt hp1) (by decide))]
      dsimp only
      by_cases hpw : (pendingOf st5)[(pendingOf st5).size - 2].2.2 ≤ power' a₀.size (2 * s1 + n1) (2 * s1 + n1 + n1 + n) a₀.size
      ·rw [if_pos hpw]
       exact wpS_pure ⟨rfl,segs5,hR5⟩
      ·rw [if_neg hpw]
       refine wpS_bind (nr h0 hR5 (kp1 hsz5 hp1) fun st6 segs6 hR6 _=>?_)
       simp only [Bool.not_true,Bool.false_eq_true,if_false]
       exact wpS_pure ⟨rfl,segs6,hR6⟩
     ·rw [if_neg hp1]
      exact wpS_pure ⟨rfl,segs5,hR5⟩
    ·rintro c st5 ⟨rfl,segs5,hR5⟩
     dsimp only
     have z1:=hR3.size
     have z2:=hR5.size
     have e5 : segs5.flatten.length = segs.flatten.length:=Nat.add_right_cancel (z2.trans z1.symm)
     refine wpS_bind (wpS_modify ?_)
     refine wpS_bind (wpS_modify (wpS_pure ⟨_,_,?_,(hR5.pw uS).push e5 hX sX hn1,?_⟩))
     ·simp only [List.flatten_append,List.length_append,List.flatten_cons,List.flatten_nil,List.append_nil]; rw [hX,e5]
     ·simp only [List.flatten_append,List.length_append,List.flatten_cons,List.flatten_nil,List.append_nil]; exact Nat.add_le_add (e5 ▸ hxl) (hX ▸ hn1)
 case post=>
  rintro c st' ⟨segs,rfl,hR⟩
  dsimp only
  refine wpS_bind (wpS_mono (wpS_forRange (I:=fun x c st'=>c = (none,()) ∧ ∃ segs,cc a₀ st' segs [] ∧ x + segs.length ≤ a₀.size) (Q:=fun c st'=>c = (none,()) ∧ ∃ segs,cc a₀ st' segs [] ∧ segs.length ≤ 1) ?_ ?_ ⟨rfl,segs,hR,?_⟩) ?_)
  ·rintro y c st5 _ hy ⟨rfl,segs5,hR5,hl5⟩
   refine wpS_bind (wpS_get ?_)
   have hsz5:=hR5.psize
   by_cases hp1 : (pendingOf st5).size ≤ 1
   ·rw [if_pos hp1]
    exact wpS_pure ⟨rfl,segs5,hR5,(Kb hsz5 hp1)⟩
   ·rw [if_neg hp1]
    refine wpS_bind (nr h0 hR5 ?_ fun st6 segs6 hR6 hl6=>?_)
    ·(repeat' split) <;> first | exact kp1 hsz5 (Nat.not_le.mp hp1) | exact kp2 hsz5 (Nat.not_le.mp hp1)
    ·simp only [Bool.not_true,Bool.false_eq_true,if_false]
     exact wpS_pure ⟨rfl,segs6,hR6,(HD hl5 hsz5 hl6)⟩
  ·rintro c st5 ⟨rfl,segs5,hR5,hl5⟩
   exact ⟨rfl,segs5,hR5,(Hr hl5)⟩
  ·have:=hR.size
   exact Nat.le_trans (Nat.le_of_eq (Nat.zero_add _)) (Nat.le_trans (te hR.asc) (Nat.le_of_eq this))
  ·rintro c st5 ⟨rfl,segs5,hR5,hl5⟩
   exact wpS_pure (h _ hR5.perm hR5.failed (hR5.done hl5))
end
end Mine
end
section
namespace Mine
section
variable {prog : Program} {w : World} {A : Around} {E : Value → Shared → Prop} {s : Shared}
theorem rm {h : Heap} {a : Addr} {vs : List Value} {n : Nat} (ho : h.get? a = some (seqObj "list" vs.toArray n)) (out : Array Value) :
  (∀ b o,b ≠ a → h.get? b = some o → (sortedHeap h a vs out).get? b = some o) ∧ ∃ m,(sortedHeap h a vs out).get? a = some (seqObj "list" out m):=by
 have e1:=get?_update_seq ho (fun _=>#[])
 have e2 : (((h.update a (Obj.mapSeq fun _=>#[])).push (seqObj "tuple" vs.toArray 0)).push (seqObj "list" #[] 0)).get? a = _:=Heap.get?_push_of_some _ (Heap.get?_push_of_some _ e1)
 have SB1 : Heap.SameBut a h (h.update a (Obj.mapSeq fun _=>#[])):=Heap.SameBut.update ..
 have SB2 : Heap.SameBut a (((h.update a (Obj.mapSeq fun _=>#[])).push (seqObj "tuple" vs.toArray 0)).push (seqObj "list" #[] 0)) (sortedHeap h a vs out):=Heap.SameBut.update ..
 refine ⟨fun b o hb e=>?_,_,get?_update_seq e2 (fun _=>out)⟩
 exact (SB2.2 b hb).trans (Heap.get?_push_of_some _ (Heap.get?_push_of_some _ ((SB1.2 b hb).trans e)))
theorem ot {a : Addr} {vs : List Value} {ns : List Int} {n : Nat} {P : Fin → Shared → Prop} (ho : s.heap.get? a = some (seqObj "list" vs.toArray n)) (hI : IntsAre vs ns) (hn : vs.length ≤ sizeLine)
  (h : ∀ (out : Array Value) (ns' : List Int),IntsAre out.toList ns' → ns'.Perm ns → ns'.Pairwise (· ≤ ·) → P (.done (.ret .none)) { s with heap:=sortedHeap s.heap a vs out }) :
  wpAny (model prog w) A (Builtin.«list.sort» ⟨[.ref a],[]⟩) P E s:=by
 have ez : vs.toArray.size = vs.length:=List.size_toArray
 have fin : ∀ st' : SortSt,(arrOf st').Perm (pairsOf vs) → SortedTo (arrOf st') (pairsOf vs).size → P (.done (.ret .none)) { s with heap:=sortedHeap s.heap a vs ((arrOf st').map (·.2)) }:=fun st' hp hs=>by
  obtain ⟨ns',h1,h2,h3⟩:=sorted_out hI hp hs
  exact h _ ns' h1 h2 h3
 have o1:=get?_update_seq ho (fun _=>#[])
 generalize (if (#[] : Array Value).size == vs.toArray.size then n else n + 1) = m at o1
 have o2 : (((s.heap.update a (Obj.mapSeq fun _=>#[])).push (seqObj "tuple" vs.toArray 0)).push (seqObj "list" #[] 0)).get? a = some (seqObj "list" #[] m):=Heap.get?_push_of_some _ (Heap.get?_push_of_some _ o1)
 rw [list_sort_plain]
 refine wpAny_bind (listItems_at ho rfl (wpAny_bind (listUpdate_at ho rfl ?_ (by rw [ez]; exact hn) (Nat.zero_le _))))
 refine wpAny_bind (seqEpoch_at o1 rfl (wpAny_bind (wpAny_newTuple ?_ (by exact hn))))
 refine wpAny_bind (wpAny_newList ?_)
 refine wpAny_holding ?_
 show wpAny (model prog w) A _ P E { s with heap:=((s.heap.update a (Obj.mapSeq fun _=>#[])).push (seqObj "tuple" vs.toArray 0)).push (seqObj "list" #[] 0) }
 dsimp only
 by_cases h2 : vs.toArray.size < 2
 ·rw [if_pos h2,if_pos h2]
  refine wpAny_bind (wpAny_pure ?_)
  rw [StateT.run_pure]
  refine wpAny_bind (wpAny_pure ?_)
  refine wpAny_bind (seqEpoch_at o2 rfl (wpAny_bind (listUpdate_at o2 rfl ?_ (Nat.zero_le _) (by rw [Array.size_map]; show (pairsOf vs).size ≤ _; rw [pairsOf_size]; exact FL hn ez))))
  simp only [bne_self_eq_false,Bool.false_eq_true,if_false]
  refine wpAny_pure (fin (SortSt.mk' general' (pairsOf vs) #[] 7 none) (Array.Perm.refl _) fun i j hij hj=>?_)
  have : i = j:=by rw [pairsOf_size] at hj; exact HU ez h2 hij hj
  subst this; exact Int.le_refl _
 ·rw [if_neg h2,if_neg h2]
  have hkk : keyKind' vs.toArray = pure oneType':=by
   match vs,hI,ez,h2 with
   | [],_,ez,h2=>exact absurd ez (by rw [ez] at h2; simp at h2)
   | [_],_,ez,h2=>exact absurd ez (by rw [ez] at h2; simp at h2)
   | v₁ :: v₂ :: rest,hI,_,_=>exact keyKind_ints hI
  rw [hkk]
  refine wpAny_bind (wpAny_pure ?_)
  refine wpAny_bind (wpAny_mono (rC (a₀:=pairsOf vs) (st:=SortSt.mk' oneType' (vs.toArray.zip vs.toArray) #[] 7 none)
   (Q:=fun _ st'=>(arrOf st').Perm (pairsOf vs) ∧ failedOf st' = none ∧ SortedTo (arrOf st') (pairsOf vs).size) hI.intKeys (Array.Perm.refl _) rfl rfl rfl fun st' a1 a2 a3=>⟨a1,a2,a3⟩) ?_ fun _ _ e=>e)
  rintro ⟨⟨⟩,st'⟩ s' ⟨rfl,hp,hf,hs⟩
  dsimp only at hp hf hs ⊢
  refine wpAny_bind (seqEpoch_at o2 rfl (wpAny_bind (listUpdate_at o2 rfl ?_ (Nat.zero_le _) (by rw [Array.size_map,hp.size_eq,pairsOf_size]; exact FL hn ez))))
  rw [hf]
  simp only [bne_self_eq_false,Bool.false_eq_true,if_false]
  exact wpAny_pure (fin st' hp hs)
theorem u2 {x : Value} {ns : List Int} {Q : Value → Shared → Prop}
  (hcol : ∀ R : List Value → Shared → Prop,(∀ h' tk vs,(∀ b o,s.heap.get? b = some o → h'.get? b = some o) → s.heap.objs.size ≤ h'.objs.size → IntsAre vs ns → vs.length ≤ sizeLine → R vs { s with heap:=h',toks:=tk }) → wpAny (model prog w) A.in1 (collect x) R E s)
  (h : ∀ (a : Addr) h' tk (out : List Value) ns' n,s.heap.objs.size ≤ a → (∀ b o,s.heap.get? b = some o → h'.get? b = some o) → h'.get? a = some (seqObj "list" out.toArray n) → IntsAre out ns' → ns'.Perm ns → ns'.Pairwise (· ≤ ·) → Q (.ref a) { s with heap:=h',toks:=tk }) :
  wpAny (model prog w) A (call (.builtin "sorted") [x]) Q E s:=by
 refine Calls.call_function_entry kind_sorted plain_sorted entry_sorted (args_sorted1 _) ?_
 unfold Builtin.«sorted»
 refine wpAny_bind (m:=checkCount "sorted" 1 1 _) (wpAny_pure ?_)
 refine wpAny_bind (hcol _ fun h1 tk vs keep hle hI hn=>?_)
 refine wpAny_bind (wpAny_newList ?_ hn)
 have oL : (h1.push (seqObj "list" vs.toArray 0)).get? h1.objs.size = some (seqObj "list" vs.toArray 0):=Heap.get?_push_size _ rfl
 show wpAny _ _ _ _ _ { s with heap:=h1.push (seqObj "list" vs.toArray 0),toks:=tk }
 refine wpAny_bind (wpAny_holding (wpAny_call_entry slot_list_sort ⟨_,oL,rfl⟩ entry_list_sort (ot oL hI hn fun out ns' a1 a2 a3=>⟨_,rfl,?_⟩) (args_list_sort _)))
 obtain ⟨k1,m,k2⟩:=rm oL out
 have lt : ∀ b o,s.heap.get? b = some o → b ≠ h1.objs.size:=fun b o e=>Nat.ne_of_lt (Heap.lt_size (keep b o e))
 exact wpAny_pure ⟨_,rfl,h _ _ _ out.toList ns' m hle (fun b o e=>k1 b o (lt b o e) (Heap.get?_push_of_some _ (keep b o e))) k2 a1 a2 a3⟩
theorem tf {T : String} {r d : Addr} {n : Nat} {P : Nat → Value → Prop} {OK : Heap → Prop} {R : List Value → Shared → Prop} (Ks : KdlSrc prog w T r d n P OK) (hh : A.handled = none) (hok : OK s.heap) (hn : n ≤ sizeLine)
  (h : ∀ (h' : Heap) (tk : Nat) (acc : List Value),(∀ b o,s.heap.get? b = some o → h'.get? b = some o) → s.heap.objs.size ≤ h'.objs.size → acc.length = n → (∀ (i : Nat) v,acc[i]? = some v → P i v) → R acc { s with heap:=h',toks:=tk }) :
  wpAny (model prog w) A (collect (.ref r)) R E s:=by
 have hlt:=Ks.there _ hok
 unfold collect
 refine wpAny_bind (wpAny_runValue (codeAny_builtin entry_proto_collect' ?_))
 rw [Around.under_plainId PySem.F.plain_proto_collect _]
 show wpAny _ A.in1 (newList [] >>= fun l=>again (.builtin "list.__iadd__" ⟨[l,.ref r],[]⟩)) _ _ s
 refine wpAny_bind (wpAny_newObj_type (wpAny_pure ⟨plainId_quiet PySem.F.plain_list_iadd _,codeAny_builtin entry_list_iadd' ?_⟩))
 rw [Around.under_plainId PySem.F.plain_list_iadd _]
 have oS : (s.heap.push { cls:=.type "list",data:=.seq ([] : List Value).toArray }).get? s.heap.objs.size = some { cls:=.type "list",data:=.seq #[] }:=Heap.get?_push_size _ rfl
 show wpAny _ A.in1 (Builtin.List.listExtendWith (.ref s.heap.objs.size) (.ref r) (.ref s.heap.objs.size)) _ _ _
 have key:=kdl_extend (A:=A) (s:={ s with heap:=s.heap.push { cls:=.type "list",data:=.seq ([] : List Value).toArray } })
  (R:=fun (q : Result) (s' : Shared)=>∃ (h' : Heap) (tk : Nat) (acc' : Array Value) (c' : Nat),q = .ok (.ret (.ref s.heap.objs.size)) ∧ s' = { s with heap:=h',toks:=tk } ∧
   (∀ b o,s.heap.get? b = some o → h'.get? b = some o) ∧ h'.get? s.heap.objs.size = some { cls:=.type "list",dict:=none,data:=.seq acc' c',slots:=#[] } ∧ ItemsOf P acc' n)
  Ks hh (Ks.keep _ _ hok fun b _ o e=>Heap.get?_push_of_some _ e) s.heap.objs.size (Nat.ne_of_gt hlt.1) (Nat.ne_of_gt hlt.2) (.ref s.heap.objs.size) 0 oS
  (fun h' tk acc' c' hk hS' hacc=>⟨h',tk,acc',c',rfl,rfl,fun b o e=>hk b o (Nat.ne_of_lt (Heap.lt_size e)) (Heap.get?_push_of_some _ e),hS',hacc⟩) hn
 have out : ∀ (h' : Heap) (tk : Nat) (acc' : Array Value) (c' : Nat),(∀ b o,s.heap.get? b = some o → h'.get? b = some o) → h'.get? s.heap.objs.size = some { cls:=.type "list",dict:=none,data:=.seq acc' c',slots:=#[] } → ItemsOf P acc' n → R acc'.toList { s with heap:=h',toks:=tk }:=
  fun h' tk acc' c' hk hS hacc=>h h' tk acc'.toList hk (Nat.le_of_lt (Heap.lt_size hS)) (by rw [Array.length_toList]; exact hacc.1) fun i v e=>hacc.2 i v (by rw [← Array.getElem?_toList]; exact e)
 refine wpAny_mono key (fun f s' x=>?_) fun e s' x=>?_
 ·cases f with
  | done f=>
   obtain ⟨h',tk,acc',c',e,rfl,hk,hS,hacc⟩:=x
   cases e
   exact wpAny_bind (wpAny_load hS (wpAny_pure (out h' tk acc' c' hk hS hacc)))
  | again c₁=>
   refine ⟨x.1,codeAny_mono x.2 fun q s₂ y=>?_⟩
   obtain ⟨h',tk,acc',c',rfl,rfl,hk,hS,hacc⟩:=y
   exact wpAny_bind (wpAny_load hS (wpAny_pure (out h' tk acc' c' hk hS hacc)))
 ·obtain ⟨_,_,_,_,e',_⟩:=x
  cases e'
end
end Mine
end
section
namespace Mine
section
variable {prog : Program} {w : World} {B : Heap} {b : Nat} {sg : Sg}
noncomputable def jA : List ae → Option (List Int)
 | []=>some []
 | .int i :: r=>(jA r).map (i :: ·)
 | _=>none
noncomputable def ni (a : ae) (M : List ah) : Option (List Int):=match a with
 | .mref i=>(match M[i]? with
  | some (.idict kvs)=>some (kvs.map (·.1))
  | some (.lst vs)=>jA vs
  | _=>none)
 | _=>none
noncomputable def gs (ns : List Int) : List Int:=ns.mergeSort (fun a b=>decide (a ≤ b))
noncomputable def dQ : List ae → Mo ae
 | [a]=>fun M=>(match ni a M with
  | some ns=>if bW ns.length then tz ((gs ns).map .int) M else none
  | none=>none)
 | _=>dK
theorem vQ : ∀ {vs : List ae} {ns : List Int},jA vs = some ns → vs = ns.map .int
 | [],ns,e=>by cases e; rfl
 | .int i :: r,ns,e=>by
  unfold jA at e
  cases h : jA r with
  | none=>rw [h] at e; cases e
  | some ms=>rw [h] at e; cases e; rw [vQ h]; rfl
 | .none :: _,_,e=>by cases e
 | .bool _ :: _,_,e=>by cases e
 | .str _ :: _,_,e=>by cases e
 | .lst _ :: _,_,e=>by cases e
 | .tup _ :: _,_,e=>by cases e
 | .inst _ _ :: _,_,e=>by cases e
 | .rng _ _ _ :: _,_,e=>by cases e
 | .mref _ :: _,_,e=>by cases e
theorem bO.int_inv {h : Heap} {G : Gh} {v : Value} {n : Int} (r : bO h G v (.int n)) : ∃ t,v = .int n t:=by
 cases r; exact ⟨_,rfl⟩
theorem bf.nil_inv {h : Heap} {G : Gh} {xs : List Value} (r : bf h G xs []) : xs = []:=by
 cases r; rfl
theorem bf.cons_inv {h : Heap} {G : Gh} {xs : List Value} {a : ae} {as : List ae} (r : bf h G xs (a :: as)) : ∃ x ys,xs = x :: ys ∧ bO h G x a ∧ bf h G ys as:=by
 cases r with
 | cons r1 r2=>exact ⟨_,_,rfl,r1,r2⟩
theorem yV {h : Heap} {G : Gh} {ns : List Int} : ∀ {items : List Value},bf h G items (ns.map .int) → IntsAre items ns:=by
 induction ns with
 | nil=>intro items r; rw [r.nil_inv]; exact .nil
 | cons n ns ih=>
  intro items r
  obtain ⟨x,ys,rfl,r1,r2⟩:=r.cons_inv
  obtain ⟨t,rfl⟩:=r1.int_inv
  exact .cons n t (ih r2)
theorem pd {h : Heap} {G : Gh} {ns : List Int} {items : List Value} (r : IntsAre items ns) : bf h G items (ns.map .int):=by
 induction r with
 | nil=>exact .nil
 | cons n t _ ih=>exact .cons (.int n t) ih
theorem xZ {ns : List Int} {items : List Value} (r : IntsAre items ns) : items.length = ns.length:=by
 induction r with
 | nil=>rfl
 | cons n t _ ih=>rw [List.length_cons,List.length_cons,ih]
theorem tV {h : Heap} {G : Gh} {ps : List (Int × Value)} {kvs : List (Int × ae)} (r : dR h G ps kvs) : ps.map (·.1) = kvs.map (·.1):=by
 induction r with
 | nil=>rfl
 | cons _ _ ih=>rw [List.map_cons,List.map_cons,ih]
theorem ye {kvs : List (Int × Value)} : ∀ {items : List Value},items.length = kvs.length → (∀ (i : Nat) v,items[i]? = some v → ∃ k x,kvs[i]? = some (k,x) ∧ Value.isInt k v = true) → IntsAre items (kvs.map (·.1)):=by
 induction kvs with
 | nil=>intro items hl h; rw [List.eq_nil_of_length_eq_zero hl]; exact .nil
 | cons p kvs ih=>
  intro items hl h
  cases items with
  | nil=>cases hl
  | cons v items=>
   obtain ⟨k,x,h1,h2⟩:=h 0 v rfl
   cases h1
   obtain ⟨t,rfl⟩:=Value.isInt_shape h2
   exact .cons k t (ih (Nat.succ.inj hl) fun i u e=>h (i + 1) u e)
theorem m8 (hsys : ∃ o,B.get? sysModules = some o) : il prog w B b (.builtin "sorted") dQ:=by
 intro A s G M xs as r M' R C rs e Q E h
 unfold dQ at e
 split at e
 ·cases rs with
  | cons r1 r2=>
   cases r2
   split at e
   ·rename_i hv
    split at e
    ·rename_i hs
     obtain ⟨rfl,rfl⟩:=dO e
     refine u2 (ns:=ns) ?_ fun a h' tk out ns' n ha keep o hI hp hsd=>?_
     ·intro R' hR
      unfold ni at hv
      split at hv
      ·split at hv
       ·rename_i hm
        cases hv
        cases r1 with
        | @mref _ ad r1=>
         obtain ⟨d,ps,r',t,hd,q⟩:=C.muts i _ hm
         rw [r1] at r'; cases r'
         obtain ⟨ep,hat⟩:=hd.dictAt
         have hk:=tV q
         have hl : ps.length = (kvs.map (·.1)).length:=by rw [← hk,List.length_map]
         refine tf (kdl_dict (knd:=intKind prog w) (kvs:=ps) (ep:=ep) (lz C hsys t)) R.hd hat (by rw [hl]; exact b8 hs) fun h' tk acc k hle hn hP=>?_
         have:=ye (kvs:=ps) hn fun i v e=>by obtain ⟨kk,x,e1,e2⟩:=hP i v e; exact ⟨kk,x,e1,e2⟩
         rw [hk] at this
         exact hR h' tk acc k hle this (by rw [hn,hl]; exact b8 hs)
       ·rename_i hm
        obtain ⟨ad,items,n,rfl,ρ,t,o,q⟩:=C.mlist r1 hm
        have ev:=vQ hv
        subst ev
        have hI:=yV q
        have hl:=xZ hI
        refine collect_list (vs:=items) ⟨_,o,rfl,n,rfl⟩ ?_ (by rw [hl]; exact b8 hs)
        have SB : Heap.SameBut s.heap.objs.size (s.heap.push (seqObj "list" #[] 0)) ((s.heap.push (seqObj "list" #[] 0)).update s.heap.objs.size (Obj.mapSeq (· ++ items.toArray))):=Heap.SameBut.update ..
        refine hR _ s.toks items (fun b o e=>(SB.2 b (Nat.ne_of_lt (Heap.lt_size e))).trans (Heap.get?_push_of_some _ e)) (by rw [SB.1,size_push']; exact o97) hI (by rw [hl]; exact b8 hs)
       ·cases hv
      ·cases hv
     ·have e1 : ns' = gs ns:=((List.mergeSort_perm ..).trans hp.symm).eq_of_pairwise (fun x y _ _ h1 h2=>Int.le_antisymm h1 h2) (by
       have:=List.pairwise_mergeSort (le:=fun a b : Int=>decide (a ≤ b)) (fun a b c h1 h2=>decide_eq_true (Int.le_trans (of_decide_eq_true h1) (of_decide_eq_true h2))) (fun a b=>by have:=Int.le_total a b; simpa using this) ns
       exact this.imp fun h=>of_decide_eq_true h) hsd |>.symm
      subst e1
      obtain ⟨c1,c2,c3⟩:=C.keepNew keep a ha o (pd hI)
      exact h h' tk _ _ c1 c2 c3
    ·cases e
   ·cases e
 ·cases e
end
end Mine
end
section
namespace Mine
inductive Fn where
 | Node
 | f_const
 | ProcTree
 | f_nodes_of
 | f_is_scalar
 | f_inner_nodes
 | f_followed
 | Follower
 | slot_of
 | f_used
 | f_with_store
 | f_place_uses
 | f_value_uses
 | f_call_uses
 | f_std_uses
 | f_branch_uses
 | f_while_uses
 | f_for_uses
 | f_case_uses
 | f_statement_uses
 | f_unset_uses
 | Type
 | Obj
 | Types
 | tnew
 | f_law_pool
 | f_law_draw
 | f_law_place
 | f_law_var
 | f_law_value
 | f_law_test
 | f_law_block
 | f_law_arms
 | f_law_deed
 | f_law_uses
 | f_law_stored
 | f_law_joined
 | f_law_ways
 | f_law_turns
 | f_law
noncomputable def oh : Fn → Addr
 | .Node=>32
 | .f_const=>43
 | .ProcTree=>60
 | .f_nodes_of=>71
 | .f_is_scalar=>78
 | .f_inner_nodes=>85
 | .f_followed=>92
 | .Follower=>116
 | .slot_of=>113
 | .f_used=>127
 | .f_with_store=>134
 | .f_place_uses=>141
 | .f_value_uses=>148
 | .f_call_uses=>155
 | .f_std_uses=>162
 | .f_branch_uses=>169
 | .f_while_uses=>176
 | .f_for_uses=>183
 | .f_case_uses=>190
 | .f_statement_uses=>197
 | .f_unset_uses=>202
 | .Type=>219
 | .Obj=>240
 | .Types=>276
 | .tnew=>266
 | .f_law_pool=>287
 | .f_law_draw=>294
 | .f_law_place=>301
 | .f_law_var=>308
 | .f_law_value=>315
 | .f_law_test=>322
 | .f_law_block=>327
 | .f_law_arms=>334
 | .f_law_deed=>341
 | .f_law_uses=>348
 | .f_law_stored=>353
 | .f_law_joined=>358
 | .f_law_ways=>365
 | .f_law_turns=>372
 | .f_law=>379
noncomputable def j6 : Sg:=⟨aM (mt 1 0),["self", "op", "place", "type_of", "kids", "value"]⟩
noncomputable def df (c : Fn → List ae → Mo ae) : Loc → Mo (Fl × Loc):=
 (au (bk (bR "op") (af 0) (af 1)) (au (bk (bR "place") (af 0) (af 2)) (au (bk (bR "type") (af 0) (af 3)) (au (bk (bR "kids") (af 0) (af 4)) (au (bk (bR "value") (af 0) (af 5)) (bk (bR "sure") (af 0) (ar (.bool false))))))))
noncomputable def si : Sg:=⟨aM (st 2),["t", "value", "place"]⟩
noncomputable def jR (c : Fn → List ae → Mo ae) : Loc → Mo (Fl × Loc):=
 (bL (aD (aq (c .Node) (ab (ar (.str "const")) (ab (af 2) (ab (af 0) (ab (aD (bB am)) (ab (af 1) am))))))))
noncomputable def gN : Sg:=⟨aM (mt 3 0),["self", "obj"]⟩
noncomputable def ed (c : Fn → List ae → Mo ae) : Loc → Mo (Fl × Loc):=
 (au (bk (bR "obj") (af 0) (af 1)) (au (bk (bR "params") (af 0) (aD (bB am))) (au (bk (bR "locals") (af 0) (aD (bB am))) (au (bk (bR "procs") (af 0) (aD (bB am))) (au (bk (bR "body") (af 0) (ar .none)) (au (bk (bR "result") (af 0) (ar .none)) (bk (bR "level") (af 0) (aE eF (aS (aK "level") (af 1)) (ar (.int 1))))))))))
noncomputable def lE : Sg:=⟨aM (st 4),["node", "found", "waiting", "one", "kid"]⟩
noncomputable def fm (c : Fn → List ae → Mo ae) : Loc → Mo (Fl × Loc):=
 (au (a7 1 (bB am)) (au (a7 2 (bB am)) (au (sIf (a6 (aE iA (af 0) (ar .none))) (bx (bF be (af 2) (ab (af 0) am))) bD) (au (dy (a6 (aE oGt (aq fi (ab (af 2) am)) (ar (.int 0)))) (au (a7 3 (bF kP (af 2) am)) (au (bx (bF be (af 1) (ab (af 3) am))) (i8 4 (aS (aK "kids") (af 3)) (sIf (a6 (aE iA (af 4) (ar .none))) (bx (bF be (af 2) (ab (af 4) am))) bD)))) 1000) (bL (af 1))))))
noncomputable def j1 : Sg:=⟨aM (st 6),["t"]⟩
noncomputable def gt (c : Fn → List ae → Mo ae) : Loc → Mo (Fl × Loc):=
 (bL (aE oIn (aS (aK "form") (af 0)) (ju (ab (ar (.str "boolean")) (ab (ar (.str "char")) (ab (ar (.str "byte")) (ab (ar (.str "integer")) (ab (ar (.str "set")) (ab (ar (.str "nil")) (ab (ar (.str "pointer")) (ab (ar (.str "proc")) am)))))))))))
noncomputable def iQ : Sg:=⟨aM (st 8),["tree", "found", "waiting", "one"]⟩
noncomputable def dY (c : Fn → List ae → Mo ae) : Loc → Mo (Fl × Loc):=
 (au (a7 1 (bB am)) (au (a7 2 (aq m5 (ab (aS (aK "procs") (af 0)) am))) (au (dy (a6 (aE oGt (aq fi (ab (af 2) am)) (ar (.int 0)))) (au (a7 3 (bF kP (af 2) am)) (au (bx (bF eP (af 1) (ab (aD (aq (c .f_nodes_of) (ab (aS (aK "body") (af 3)) am))) am))) (au (bx (bF eP (af 1) (ab (aD (aq (c .f_nodes_of) (ab (aS (aK "result") (af 3)) am))) am))) (bx (bF eP (af 2) (ab (aS (aK "procs") (af 3)) am)))))) 1000) (bL (af 1)))))
noncomputable def lS : Sg:=⟨aM (st 9),["tree", "away", "node", "found", "obj"]⟩
noncomputable def gg (c : Fn → List ae → Mo ae) : Loc → Mo (Fl × Loc):=
 (au (a7 1 ln) (au (dW 2 (aD (aq (c .f_inner_nodes) (ab (af 0) am))) (sIf (ki (a6 (aE oEq (aS (aK "op") (af 2)) (ar (.str "var")))) (a6 (aE oEq (aS (aK "level") (aS (aK "value") (af 2))) (aS (aK "level") (af 0))))) (gC fI (af 1) (aS (aK "slot") (aS (aK "value") (af 2))) (ar (.bool true))) bD)) (au (a7 3 ln) (au (dW 4 (aS (aK "locals") (af 0)) (sIf (ki (a6 (aq (c .f_is_scalar) (ab (aS (aK "type") (af 4)) am))) (a6 (aE dw (aS (aK "slot") (af 4)) (af 1)))) (gC fI (af 3) (aS (aK "slot") (af 4)) (af 4)) bD)) (bL (af 3))))))
noncomputable def gI : Sg:=⟨aM (mt 10 0),["self", "tree"]⟩
noncomputable def dt (c : Fn → List ae → Mo ae) : Loc → Mo (Fl × Loc):=
 (au (bk (bR "level") (af 0) (aS (aK "level") (af 1))) (au (bk (bR "slots") (af 0) (aq (c .f_followed) (ab (af 1) am))) (bk (bR "found") (af 0) ln)))
noncomputable def fL : Sg:=⟨aM (mt 10 1),["self", "node"]⟩
noncomputable def cM (c : Fn → List ae → Mo ae) : Loc → Mo (Fl × Loc):=
 (au (sIf (ki (a6 (aE oEq (aS (aK "op") (af 1)) (ar (.str "var")))) (ki (a6 (aE oEq (aS (aK "level") (aS (aK "value") (af 1))) (aS (aK "level") (af 0)))) (a6 (aE oIn (aS (aK "slot") (aS (aK "value") (af 1))) (aS (aK "slots") (af 0)))))) (bL (aS (aK "slot") (aS (aK "value") (af 1)))) bD) (bL (aS wR (ar (.int 1)))))
noncomputable def v0 : Sg:=⟨aM (st 11),["st", "node", "sure", "slot"]⟩
noncomputable def n5 (c : Fn → List ae → Mo ae) : Loc → Mo (Fl × Loc):=
 (au (a7 3 (ew 116 "slot_of" (c .slot_of) (af 0) (ab (af 1) am))) (sIf (ki (a6 (aE oGe (af 3) (ar (.int 0)))) (a6 (aE oEq (aE mx (aE zY (af 2) (af 3)) (ar (.int 1))) (ar (.int 0))))) (gC fI (aS (aK "found") (af 0)) (aS (aK "place") (af 1)) (af 3)) bD))
noncomputable def jn : Sg:=⟨aM (st 12),["st", "node", "sure", "slot"]⟩
noncomputable def eK (c : Fn → List ae → Mo ae) : Loc → Mo (Fl × Loc):=
 (au (dy (a6 (aE oEq (aS (aK "op") (af 1)) (ar (.str "guard")))) (a7 1 (aE aV (aS (aK "kids") (af 1)) (ar (.int 0)))) 1000) (au (a7 3 (ew 116 "slot_of" (c .slot_of) (af 0) (ab (af 1) am))) (au (sIf (a6 (aE oLt (af 3) (ar (.int 0)))) (bL (af 2)) bD) (bL (aE oOr (af 2) (aE Bd (ar (.int 1)) (af 3)))))))
noncomputable def jk : Sg:=⟨aM (st 13),["st", "node", "sure", "kid"]⟩
noncomputable def eM (c : Fn → List ae → Mo ae) : Loc → Mo (Fl × Loc):=
 (au (sIf (a6 (aE oGe (ew 116 "slot_of" (c .slot_of) (af 0) (ab (af 1) am)) (ar (.int 0)))) (bL (af 2)) bD) (au (sIf (a6 (aE oEq (aS (aK "op") (af 1)) (ar (.str "var")))) (bL (af 2)) bD) (au (sIf (tOr (a6 (aE oEq (aS (aK "op") (af 1)) (ar (.str "deref")))) (a6 (aE oEq (aS (aK "op") (af 1)) (ar (.str "guard"))))) (bL (aq (c .f_value_uses) (ab (af 0) (ab (aE aV (aS (aK "kids") (af 1)) (ar (.int 0))) (ab (af 2) am))))) bD) (au (a7 2 (aq (c .f_place_uses) (ab (af 0) (ab (aE aV (aS (aK "kids") (af 1)) (ar (.int 0))) (ab (af 2) am))))) (au (dW 3 (aD (gY 1 (aS (aK "kids") (af 1)))) (a7 2 (aq (c .f_value_uses) (ab (af 0) (ab (af 3) (ab (af 2) am)))))) (bL (af 2)))))))
noncomputable def jp : Sg:=⟨aM (st 14),["st", "node", "sure", "kid"]⟩
noncomputable def cT (c : Fn → List ae → Mo ae) : Loc → Mo (Fl × Loc):=
 (au (sIf (a6 (aE oEq (aS (aK "op") (af 1)) (ar (.str "var")))) (au (bx (aq (c .f_used) (ab (af 0) (ab (af 1) (ab (af 2) am))))) (bL (af 2))) bD) (au (sIf (tOr (a6 (aE oEq (aS (aK "op") (af 1)) (ar (.str "&")))) (a6 (aE oEq (aS (aK "op") (af 1)) (ar (.str "OR"))))) (au (a7 2 (aq (c .f_value_uses) (ab (af 0) (ab (aE aV (aS (aK "kids") (af 1)) (ar (.int 0))) (ab (af 2) am))))) (au (bx (aq (c .f_value_uses) (ab (af 0) (ab (aE aV (aS (aK "kids") (af 1)) (ar (.int 1))) (ab (af 2) am))))) (bL (af 2)))) bD) (au (sIf (a6 (aE oEq (aS (aK "op") (af 1)) (ar (.str "call")))) (bL (aq (c .f_call_uses) (ab (af 0) (ab (af 1) (ab (af 2) am))))) bD) (au (dW 3 (aS (aK "kids") (af 1)) (a7 2 (aq (c .f_value_uses) (ab (af 0) (ab (af 3) (ab (af 2) am)))))) (bL (af 2))))))
noncomputable def kE : Sg:=⟨aM (st 15),["st", "node", "sure", "head", "params", "handed", "spot", "given"]⟩
noncomputable def fz (c : Fn → List ae → Mo ae) : Loc → Mo (Fl × Loc):=
 (au (a7 3 (aE aV (aS (aK "kids") (af 1)) (ar (.int 0)))) (au (a7 2 (aq (c .f_value_uses) (ab (af 0) (ab (af 3) (ab (af 2) am))))) (au (a7 4 (aS (aK "params") (aS (aK "type") (af 3)))) (au (a7 5 (bB am)) (au (dW 6 (aq cV (ab (aE kN (aq fi (ab (aS (aK "kids") (af 1)) am)) (ar (.int 1))) am)) (au (a7 7 (aE aV (aS (aK "kids") (af 1)) (aE eF (af 6) (ar (.int 1))))) (sIf (ki (a6 (aE oEq (aS (aK "kind") (aE aV (af 4) (af 6))) (ar (.str "par")))) (a6 (aE oNe (aS (aK "op") (af 7)) (ar (.str "const"))))) (au (a7 2 (aq (c .f_place_uses) (ab (af 0) (ab (af 7) (ab (af 2) am))))) (bx (bF be (af 5) (ab (af 7) am)))) (a7 2 (aq (c .f_value_uses) (ab (af 0) (ab (af 7) (ab (af 2) am)))))))) (au (dW 7 (aD (af 5)) (a7 2 (aq (c .f_with_store) (ab (af 0) (ab (af 7) (ab (af 2) am)))))) (bL (af 2))))))))
noncomputable def lC : Sg:=⟨aM (st 16),["st", "node", "sure", "first", "kid"]⟩
noncomputable def f0 (c : Fn → List ae → Mo ae) : Loc → Mo (Fl × Loc):=
 (au (a7 3 (aE aV (aS (aK "kids") (af 1)) (ar (.int 0)))) (au (sIf (a6 (aE oEq (aS (aK "value") (af 1)) (ar (.str "ASSERT")))) (bL (aq (c .f_value_uses) (ab (af 0) (ab (af 3) (ab (af 2) am))))) bD) (au (a7 2 (aq (c .f_place_uses) (ab (af 0) (ab (af 3) (ab (af 2) am))))) (au (dW 4 (aD (gY 1 (aS (aK "kids") (af 1)))) (a7 2 (aq (c .f_value_uses) (ab (af 0) (ab (af 4) (ab (af 2) am)))))) (au (sIf (a6 (aE oNe (aS (aK "value") (af 1)) (ar (.str "NEW")))) (bx (aq (c .f_used) (ab (af 0) (ab (af 3) (ab (af 2) am))))) bD) (bL (aq (c .f_with_store) (ab (af 0) (ab (af 3) (ab (af 2) am))))))))))
noncomputable def iD : Sg:=⟨aM (st 17),["st", "node", "sure", "ends", "place", "end"]⟩
noncomputable def dv (c : Fn → List ae → Mo ae) : Loc → Mo (Fl × Loc):=
 (au (a7 3 (bB am)) (au (dW 4 (aq cV (ab (ar (.int 0)) (ab (aE kN (aq fi (ab (aS (aK "kids") (af 1)) am)) (ar (.int 1))) (ab (ar (.int 2)) am)))) (au (a7 2 (aq (c .f_value_uses) (ab (af 0) (ab (aE aV (aS (aK "kids") (af 1)) (af 4)) (ab (af 2) am))))) (bx (bF be (af 3) (ab (aq (c .f_statement_uses) (ab (af 0) (ab (aE aV (aS (aK "kids") (af 1)) (aE eF (af 4) (ar (.int 1)))) (ab (af 2) am)))) am))))) (au (sIf (a6 (aS (aK "value") (af 1))) (a7 2 (aq (c .f_statement_uses) (ab (af 0) (ab (aE aV (aS (aK "kids") (af 1)) (aS wR (ar (.int 1)))) (ab (af 2) am))))) bD) (au (dW 5 (aD (af 3)) (a7 2 (aE mx (af 2) (af 5)))) (bL (af 2))))))
noncomputable def jo : Sg:=⟨aM (st 18),["st", "node", "sure", "place"]⟩
noncomputable def e8 (c : Fn → List ae → Mo ae) : Loc → Mo (Fl × Loc):=
 (au (dW 3 (aq cV (ab (ar (.int 0)) (ab (aq fi (ab (aS (aK "kids") (af 1)) am)) (ab (ar (.int 2)) am)))) (au (a7 2 (aq (c .f_value_uses) (ab (af 0) (ab (aE aV (aS (aK "kids") (af 1)) (af 3)) (ab (af 2) am))))) (bx (aq (c .f_statement_uses) (ab (af 0) (ab (aE aV (aS (aK "kids") (af 1)) (aE eF (af 3) (ar (.int 1)))) (ab (af 2) am))))))) (bL (af 2)))
noncomputable def lF : Sg:=⟨aM (st 19),["st", "node", "sure", "head", "first", "last", "block"]⟩
noncomputable def fY (c : Fn → List ae → Mo ae) : Loc → Mo (Fl × Loc):=
 (au (mz [3,4,5,6] (aS (aK "kids") (af 1))) (au (a7 2 (aq (c .f_value_uses) (ab (af 0) (ab (af 4) (ab (aq (c .f_place_uses) (ab (af 0) (ab (af 3) (ab (af 2) am)))) am))))) (au (a7 2 (aq (c .f_value_uses) (ab (af 0) (ab (af 5) (ab (aq (c .f_with_store) (ab (af 0) (ab (af 3) (ab (af 2) am)))) am))))) (au (bx (aq (c .f_statement_uses) (ab (af 0) (ab (af 6) (ab (af 2) am))))) (bL (af 2))))))
noncomputable def jM : Sg:=⟨aM (st 20),["st", "node", "sure", "end", "block"]⟩
noncomputable def fA (c : Fn → List ae → Mo ae) : Loc → Mo (Fl × Loc):=
 (au (a7 2 (aq (c .f_value_uses) (ab (af 0) (ab (aE aV (aS (aK "kids") (af 1)) (ar (.int 0))) (ab (af 2) am))))) (au (a7 3 (aS wR (ar (.int 1)))) (au (dW 4 (aD (gY 1 (aS (aK "kids") (af 1)))) (a7 3 (aE mx (af 3) (aq (c .f_statement_uses) (ab (af 0) (ab (af 4) (ab (af 2) am))))))) (bL (af 3)))))
noncomputable def gp : Sg:=⟨aM (st 21),["st", "node", "sure", "op", "kid"]⟩
noncomputable def bj (c : Fn → List ae → Mo ae) : Loc → Mo (Fl × Loc):=
 (au (a7 3 (aS (aK "op") (af 1))) (au (sIf (a6 (aE oEq (af 3) (ar (.str "block")))) (au (dW 4 (aS (aK "kids") (af 1)) (a7 2 (aq (c .f_statement_uses) (ab (af 0) (ab (af 4) (ab (af 2) am)))))) (bL (af 2))) bD) (au (sIf (a6 (aE oEq (af 3) (ar (.str "assign")))) (au (a7 2 (aq (c .f_place_uses) (ab (af 0) (ab (aE aV (aS (aK "kids") (af 1)) (ar (.int 0))) (ab (af 2) am))))) (au (a7 2 (aq (c .f_value_uses) (ab (af 0) (ab (aE aV (aS (aK "kids") (af 1)) (ar (.int 1))) (ab (af 2) am))))) (bL (aq (c .f_with_store) (ab (af 0) (ab (aE aV (aS (aK "kids") (af 1)) (ar (.int 0))) (ab (af 2) am))))))) bD) (au (sIf (a6 (aE oEq (af 3) (ar (.str "call")))) (bL (aq (c .f_call_uses) (ab (af 0) (ab (af 1) (ab (af 2) am))))) bD) (au (sIf (a6 (aE oEq (af 3) (ar (.str "std")))) (bL (aq (c .f_std_uses) (ab (af 0) (ab (af 1) (ab (af 2) am))))) bD) (au (sIf (a6 (aE oEq (af 3) (ar (.str "if")))) (bL (aq (c .f_branch_uses) (ab (af 0) (ab (af 1) (ab (af 2) am))))) bD) (au (sIf (a6 (aE oEq (af 3) (ar (.str "while")))) (bL (aq (c .f_while_uses) (ab (af 0) (ab (af 1) (ab (af 2) am))))) bD) (au (sIf (a6 (aE oEq (af 3) (ar (.str "repeat")))) (bL (aq (c .f_value_uses) (ab (af 0) (ab (aE aV (aS (aK "kids") (af 1)) (ar (.int 1))) (ab (aq (c .f_statement_uses) (ab (af 0) (ab (aE aV (aS (aK "kids") (af 1)) (ar (.int 0))) (ab (af 2) am)))) am))))) bD) (au (sIf (a6 (aE oEq (af 3) (ar (.str "for")))) (bL (aq (c .f_for_uses) (ab (af 0) (ab (af 1) (ab (af 2) am))))) bD) (bL (aq (c .f_case_uses) (ab (af 0) (ab (af 1) (ab (af 2) am))))))))))))))
noncomputable def jh : Sg:=⟨aM (st 22),["tree", "st", "sure"]⟩
noncomputable def eJ (c : Fn → List ae → Mo ae) : Loc → Mo (Fl × Loc):=
 (au (a7 1 (aq (c .Follower) (ab (af 0) am))) (au (a7 2 (aq (c .f_statement_uses) (ab (af 1) (ab (aS (aK "body") (af 0)) (ab (ar (.int 0)) am))))) (au (sIf (a6 (aE iA (aS (aK "result") (af 0)) (ar .none))) (bx (aq (c .f_value_uses) (ab (af 1) (ab (aS (aK "result") (af 0)) (ab (af 2) am))))) bD) (bL (iO [(1, "st")] (aD (aq dQ (ab (aS (aK "found") (af 1)) am))) uJ (ju (ab (af 0) (ab (aS (aK "name") (aE aV (aS (aK "slots") (af 1)) (aE aV (aS (aK "found") (af 1)) (af 0)))) am))))))))
noncomputable def km : Sg:=⟨aM (mt 24 0),["self", "number", "form", "size"]⟩
noncomputable def gu (c : Fn → List ae → Mo ae) : Loc → Mo (Fl × Loc):=
 (au (bk (bR "number") (af 0) (af 1)) (au (bk (bR "form") (af 0) (af 2)) (au (bk (bR "size") (af 0) (af 3)) (au (bk (bR "base") (af 0) (ar .none)) (au (bk (bR "length") (af 0) (ar (.int 0))) (au (bk (bR "fields") (af 0) (aD (bB am))) (au (bk (bR "level") (af 0) (ar (.int 0))) (au (bk (bR "params") (af 0) (aD (bB am))) (au (bk (bR "module") (af 0) (ar (.str ""))) (au (bk (bR "label") (af 0) (ar (.str ""))) (au (bk (bR "hidden") (af 0) (aD (bB am))) (bk (bR "exno") (af 0) (ar (.int 0))))))))))))))
noncomputable def lA : Sg:=⟨aM (mt 25 0),["self", "name", "kind", "type_of", "place"]⟩
noncomputable def hJ (c : Fn → List ae → Mo ae) : Loc → Mo (Fl × Loc):=
 (au (bk (bR "name") (af 0) (af 1)) (au (bk (bR "kind") (af 0) (af 2)) (au (bk (bR "type") (af 0) (af 3)) (au (bk (bR "place") (af 0) (af 4)) (au (bk (bR "exported") (af 0) (ar (.bool false))) (au (bk (bR "readonly") (af 0) (ar (.bool false))) (au (bk (bR "level") (af 0) (ar (.int 0))) (au (bk (bR "module") (af 0) (ar (.str ""))) (au (bk (bR "value") (af 0) (ar .none)) (au (bk (bR "slot") (af 0) (ar (.int 0))) (au (bk (bR "offset") (af 0) (ar (.int 0))) (au (bk (bR "number") (af 0) (ar (.int 0))) (au (bk (bR "isparam") (af 0) (ar (.bool false))) (bk (bR "narrowed") (af 0) (ar .none)))))))))))))))
noncomputable def jr : Sg:=⟨aM (mt 26 0),["self"]⟩
noncomputable def fS (c : Fn → List ae → Mo ae) : Loc → Mo (Fl × Loc):=
 (au (bk (bR "counter") (af 0) (ar (.int 0))) (au (bk (bR "known") (af 0) ln) (au (bk (bR "boolean") (af 0) (aD (ew 276 "new" (c .tnew) (af 0) (ab (ar (.str "boolean")) (ab (ar (.int 1)) am))))) (au (bk (bR "char") (af 0) (aD (ew 276 "new" (c .tnew) (af 0) (ab (ar (.str "char")) (ab (ar (.int 1)) am))))) (au (bk (bR "byte") (af 0) (aD (ew 276 "new" (c .tnew) (af 0) (ab (ar (.str "byte")) (ab (ar (.int 1)) am))))) (au (bk (bR "integer") (af 0) (aD (ew 276 "new" (c .tnew) (af 0) (ab (ar (.str "integer")) (ab (ar (.int 4)) am))))) (au (bk (bR "mask") (af 0) (aD (ew 276 "new" (c .tnew) (af 0) (ab (ar (.str "set")) (ab (ar (.int 4)) am))))) (au (bk (bR "nil") (af 0) (aD (ew 276 "new" (c .tnew) (af 0) (ab (ar (.str "nil")) (ab (ar (.int 4)) am))))) (bk (bR "none") (af 0) (aD (ew 276 "new" (c .tnew) (af 0) (ab (ar (.str "none")) (ab (ar (.int 0)) am)))))))))))))
noncomputable def jJ : Sg:=⟨aM (mt 26 1),["self", "form", "size", "module", "label", "made"]⟩
noncomputable def gx (c : Fn → List ae → Mo ae) : Loc → Mo (Fl × Loc):=
 (au (sS (aK "counter") eF (bR "counter") (af 0) (ar (.int 1))) (au (a7 5 (aq (c .Type) (ab (aS (aK "counter") (af 0)) (ab (af 1) (ab (af 2) am))))) (au (bk (bR "module") (af 5) (af 3)) (au (bk (bR "label") (af 5) (af 4)) (au (sIf (a6 (aE oNe (af 4) (ar (.str "")))) (gC fI (aS (aK "known") (af 0)) (ju (ab (af 3) (ab (af 4) am))) (af 5)) bD) (bL (af 5)))))))
noncomputable def lL : Sg:=⟨aM (st 28),["script", "figures", "cell", "left_over", "lap"]⟩
noncomputable def fX (c : Fn → List ae → Mo ae) : Loc → Mo (Fl × Loc):=
 (au (a7 1 (bB am)) (au (dW 2 (aD (nk 60 (af 0))) (au (a7 3 (eIf (a6 (aE oGe (af 2) (ar (.int 0)))) (af 2) (aE kN (ar (.int 5)) (aE lk (ar (.int 3)) (af 2))))) (dW 4 (aq cV (ab (ar (.int 40)) am)) (au (bx (bF be (af 1) (ab (aE tG (af 3) (ar (.int 997))) am))) (au (a7 3 (aE qY (af 3) (ar (.int 997)))) (sIf (a6 (aE oEq (af 3) (ar (.int 0)))) yr bD)))))) (au (a7 1 (nk 240 (af 1))) (au (bx (bF iM (af 1) am)) (bL (af 1))))))
noncomputable def lR : Sg:=⟨aM (st 29),["pool", "bound_at"]⟩
noncomputable def gf (c : Fn → List ae → Mo ae) : Loc → Mo (Fl × Loc):=
 (bL (eIf (a6 (aE oNe (af 0) (bB am))) (aE tG (bF kP (af 0) am) (af 1)) (ar (.int 0))))
noncomputable def jS : Sg:=⟨aM (st 30),["book"]⟩
noncomputable def gq (c : Fn → List ae → Mo ae) : Loc → Mo (Fl × Loc):=
 (au (eQ aV eF fI (af 0) (ar (.str "place")) (ar (.int 1))) (bL (aE aV (af 0) (ar (.str "place")))))
noncomputable def nA : Sg:=⟨aM (st 31),["book", "spot"]⟩
noncomputable def gL (c : Fn → List ae → Mo ae) : Loc → Mo (Fl × Loc):=
 (bL (aD (aq (c .Node) (ab (ar (.str "var")) (ab (aq (c .f_law_place) (ab (af 0) am)) (ab (aS (aK "integer") (aE aV (af 0) (ar (.str "types")))) (ab (aD (bB am)) (ab (aE aV (aE aV (af 0) (ar (.str "vars"))) (af 1)) am))))))))
noncomputable def kc : Sg:=⟨aM (st 32),["book", "pool", "draw", "left"]⟩
noncomputable def fy (c : Fn → List ae → Mo ae) : Loc → Mo (Fl × Loc):=
 (au (a7 2 (aq (c .f_law_draw) (ab (af 1) (ab (ar (.int 4)) am)))) (au (sIf (a6 (aE oEq (af 2) (ar (.int 3)))) (au (a7 3 (aq (c .f_law_var) (ab (af 0) (ab (aq (c .f_law_draw) (ab (af 1) (ab (ar (.int 4)) am))) am)))) (bL (aD (aq (c .Node) (ab (ar (.str "+")) (ab (aq (c .f_law_place) (ab (af 0) am)) (ab (aS (aK "integer") (aE aV (af 0) (ar (.str "types")))) (ab (aD (bB (ab (af 3) (ab (aq (c .f_law_var) (ab (af 0) (ab (aq (c .f_law_draw) (ab (af 1) (ab (ar (.int 4)) am))) am))) am)))) am)))))))) bD) (au (sIf (a6 (aE oEq (af 2) (ar (.int 2)))) (bL (aq (c .f_const) (ab (aS (aK "integer") (aE aV (af 0) (ar (.str "types")))) (ab (ar (.int 1)) (ab (aq (c .f_law_place) (ab (af 0) am)) am))))) bD) (bL (aq (c .f_law_var) (ab (af 0) (ab (aq (c .f_law_draw) (ab (af 1) (ab (ar (.int 4)) am))) am)))))))
noncomputable def lT : Sg:=⟨aM (st 33),["book", "pool", "truth_of", "left", "draw", "right"]⟩
noncomputable def gc (c : Fn → List ae → Mo ae) : Loc → Mo (Fl × Loc):=
 (au (a7 2 (aS (aK "boolean") (aE aV (af 0) (ar (.str "types"))))) (au (a7 3 (aD (aq (c .Node) (ab (ar (.str "<")) (ab (aq (c .f_law_place) (ab (af 0) am)) (ab (af 2) (ab (aD (bB (ab (aq (c .f_law_value) (ab (af 0) (ab (af 1) am))) (ab (aq (c .f_law_value) (ab (af 0) (ab (af 1) am))) am)))) am))))))) (au (a7 4 (aq (c .f_law_draw) (ab (af 1) (ab (ar (.int 4)) am)))) (au (sIf (a6 (aE oLt (af 4) (ar (.int 2)))) (bL (af 3)) bD) (au (a7 5 (aD (aq (c .Node) (ab (ar (.str "=")) (ab (aq (c .f_law_place) (ab (af 0) am)) (ab (af 2) (ab (aD (bB (ab (aq (c .f_law_value) (ab (af 0) (ab (af 1) am))) (ab (aq (c .f_law_value) (ab (af 0) (ab (af 1) am))) am)))) am))))))) (bL (aD (aq (c .Node) (ab (eIf (a6 (aE oEq (af 4) (ar (.int 2)))) (ar (.str "&")) (ar (.str "OR"))) (ab (aq (c .f_law_place) (ab (af 0) am)) (ab (af 2) (ab (aD (bB (ab (af 3) (ab (af 5) am)))) am))))))))))))
noncomputable def kq : Sg:=⟨aM (st 34),["book", "pool", "deep", "kids"]⟩
noncomputable def fG (c : Fn → List ae → Mo ae) : Loc → Mo (Fl × Loc):=
 (au (a7 3 (iO [(0, "book"),(1, "pool"),(2, "deep")] (aq cV (ab (aE eF (ar (.int 1)) (aq (c .f_law_draw) (ab (af 1) (ab (ar (.int 2)) am)))) am)) uJ (aq (c .f_law_deed) (ab (af 1) (ab (af 2) (ab (af 3) am)))))) (bL (aD (aq (c .Node) (ab (ar (.str "block")) (ab (aq (c .f_law_place) (ab (af 0) am)) (ab (ar .none) (ab (aD (af 3)) am))))))))
noncomputable def l9 : Sg:=⟨aM (st 35),["book", "pool", "deep", "count", "kids", "lap"]⟩
noncomputable def f7 (c : Fn → List ae → Mo ae) : Loc → Mo (Fl × Loc):=
 (au (a7 4 (bB am)) (au (dW 5 (aq cV (ab (af 3) am)) (au (bx (bF be (af 4) (ab (aq (c .f_law_test) (ab (af 0) (ab (af 1) am))) am))) (bx (bF be (af 4) (ab (aq (c .f_law_block) (ab (af 0) (ab (af 1) (ab (aE eF (af 2) (ar (.int 1))) am)))) am))))) (bL (af 4))))
noncomputable def lX : Sg:=⟨aM (st 36),["book", "pool", "deep", "draw", "at", "kids", "rows", "lap", "other", "left", "callee", "handed", "inner"]⟩
noncomputable def f5 (c : Fn → List ae → Mo ae) : Loc → Mo (Fl × Loc):=
 (au (eQ aV kN fI (af 0) (ar (.str "spare")) (ar (.int 1))) (au (a7 3 (aq (c .f_law_draw) (ab (af 1) (ab (eIf (ki (a6 (aE oLt (af 2) (ar (.int 3)))) (a6 (aE oGt (aE aV (af 0) (ar (.str "spare"))) (ar (.int 0))))) (ar (.int 9)) (ar (.int 3))) am)))) (au (a7 4 (aq (c .f_law_place) (ab (af 0) am))) (au (sIf (a6 (aE oEq (af 3) (ar (.int 0)))) (au (a7 9 (aq (c .f_law_var) (ab (af 0) (ab (aq (c .f_law_draw) (ab (af 1) (ab (ar (.int 4)) am))) am)))) (bL (aD (aq (c .Node) (ab (ar (.str "assign")) (ab (af 4) (ab (ar .none) (ab (aD (bB (ab (af 9) (ab (aq (c .f_law_value) (ab (af 0) (ab (af 1) am))) am)))) am)))))))) bD) (au (sIf (a6 (aE oEq (af 3) (ar (.int 1)))) (au (a7 9 (aq (c .f_law_var) (ab (af 0) (ab (aq (c .f_law_draw) (ab (af 1) (ab (ar (.int 4)) am))) am)))) (bL (aD (aq (c .Node) (ab (ar (.str "std")) (ab (af 4) (ab (ar .none) (ab (aD (bB (ab (af 9) (ab (aq (c .f_law_value) (ab (af 0) (ab (af 1) am))) am)))) (ab (ar (.str "INC")) am))))))))) bD) (au (sIf (a6 (aE oEq (af 3) (ar (.int 2)))) (au (a7 10 (aD (aq (c .Node) (ab (ar (.str "proc")) (ab (aq (c .f_law_place) (ab (af 0) am)) (ab (aS (aK "type") (aE aV (af 0) (ar (.str "callee")))) (ab (aD (bB am)) (ab (aE aV (af 0) (ar (.str "callee"))) am)))))))) (au (a7 11 (aq (c .f_law_var) (ab (af 0) (ab (aq (c .f_law_draw) (ab (af 1) (ab (ar (.int 4)) am))) am)))) (bL (aD (aq (c .Node) (ab (ar (.str "call")) (ab (af 4) (ab (ar .none) (ab (aD (bB (ab (af 10) (ab (af 11) (ab (aq (c .f_law_value) (ab (af 0) (ab (af 1) am))) am))))) am))))))))) bD) (au (sIf (tOr (a6 (aE oEq (af 3) (ar (.int 3)))) (a6 (aE oEq (af 3) (ar (.int 4))))) (au (a7 5 (aq (c .f_law_arms) (ab (af 0) (ab (af 1) (ab (af 2) (ab (aE eF (ar (.int 1)) (aq (c .f_law_draw) (ab (af 1) (ab (ar (.int 2)) am)))) am)))))) (au (a7 8 (aE oEq (aq (c .f_law_draw) (ab (af 1) (ab (ar (.int 2)) am))) (ar (.int 1)))) (au (sIf (a6 (af 8)) (bx (bF be (af 5) (ab (aq (c .f_law_block) (ab (af 0) (ab (af 1) (ab (aE eF (af 2) (ar (.int 1))) am)))) am))) bD) (bL (aD (aq (c .Node) (ab (ar (.str "if")) (ab (af 4) (ab (ar .none) (ab (aD (af 5)) (ab (af 8) am))))))))))) bD) (au (sIf (a6 (aE oEq (af 3) (ar (.int 5)))) (bL (aD (aq (c .Node) (ab (ar (.str "while")) (ab (af 4) (ab (ar .none) (ab (aD (aq (c .f_law_arms) (ab (af 0) (ab (af 1) (ab (af 2) (ab (aE eF (ar (.int 1)) (aq (c .f_law_draw) (ab (af 1) (ab (ar (.int 2)) am)))) am)))))) am))))))) bD) (au (sIf (a6 (aE oEq (af 3) (ar (.int 6)))) (au (a7 12 (aq (c .f_law_block) (ab (af 0) (ab (af 1) (ab (aE eF (af 2) (ar (.int 1))) am))))) (bL (aD (aq (c .Node) (ab (ar (.str "repeat")) (ab (af 4) (ab (ar .none) (ab (aD (bB (ab (af 12) (ab (aq (c .f_law_test) (ab (af 0) (ab (af 1) am))) am)))) am)))))))) bD) (au (sIf (a6 (aE oEq (af 3) (ar (.int 7)))) (au (a7 5 (bB (ab (aq (c .f_law_var) (ab (af 0) (ab (aq (c .f_law_draw) (ab (af 1) (ab (ar (.int 4)) am))) am))) (ab (aq (c .f_law_value) (ab (af 0) (ab (af 1) am))) (ab (aq (c .f_law_value) (ab (af 0) (ab (af 1) am))) am))))) (bL (aD (aq (c .Node) (ab (ar (.str "for")) (ab (af 4) (ab (ar .none) (ab (aD (aE gZ (af 5) (bB (ab (aq (c .f_law_block) (ab (af 0) (ab (af 1) (ab (aE eF (af 2) (ar (.int 1))) am)))) am)))) (ab (ar (.int 1)) am))))))))) bD) (au (a7 5 (bB (ab (aq (c .f_law_value) (ab (af 0) (ab (af 1) am))) am))) (au (a7 6 (bB am)) (au (dW 7 (aq cV (ab (aE eF (ar (.int 1)) (aq (c .f_law_draw) (ab (af 1) (ab (ar (.int 2)) am)))) am)) (au (bx (bF be (af 6) (ab (aD (bB (ab (ju (ab (af 7) (ab (af 7) am))) am))) am))) (bx (bF be (af 5) (ab (aq (c .f_law_block) (ab (af 0) (ab (af 1) (ab (aE eF (af 2) (ar (.int 1))) am)))) am))))) (au (a7 8 (aE oEq (aq (c .f_law_draw) (ab (af 1) (ab (ar (.int 2)) am))) (ar (.int 1)))) (au (sIf (a6 (af 8)) (bx (bF be (af 5) (ab (aq (c .f_law_block) (ab (af 0) (ab (af 1) (ab (aE eF (af 2) (ar (.int 1))) am)))) am))) bD) (bL (aD (aq (c .Node) (ab (ar (.str "case")) (ab (af 4) (ab (ar .none) (ab (aD (af 5)) (ab (ju (ab (af 6) (ab (af 8) am))) am)))))))))))))))))))))))
noncomputable def lJ : Sg:=⟨aM (st 37),["node", "states", "hits", "kid", "state"]⟩
noncomputable def eA (c : Fn → List ae → Mo ae) : Loc → Mo (Fl × Loc):=
 (au (sIf (a6 (aE oEq (aS (aK "op") (af 0)) (ar (.str "var")))) (au (dW 4 (af 1) (sIf (a6 (aE dw (aS (aK "slot") (aS (aK "value") (af 0))) (af 4))) (gC fI (af 2) (aS (aK "place") (af 0)) (aS (aK "value") (af 0))) bD)) v5) bD) (dW 3 (aS (aK "kids") (af 0)) (bx (aq (c .f_law_uses) (ab (af 3) (ab (af 1) (ab (af 2) am)))))))
noncomputable def jm : Sg:=⟨aM (st 38),["states", "spot", "found", "state", "wider"]⟩
noncomputable def eT (c : Fn → List ae → Mo ae) : Loc → Mo (Fl × Loc):=
 (au (a7 2 (bB am)) (au (dW 3 (af 0) (au (a7 4 (aq dQ (ab (aE gZ (iO [(1, "spot")] (af 3) (a6 (aE oNe (af 0) (af 1))) (af 0)) (bB (ab (af 1) am))) am))) (sIf (a6 (aE dw (af 4) (af 2))) (bx (bF be (af 2) (ab (aD (af 4)) am))) bD))) (bL (aD (af 2)))))
noncomputable def jj : Sg:=⟨aM (st 39),["one", "other"]⟩
noncomputable def eU (c : Fn → List ae → Mo ae) : Loc → Mo (Fl × Loc):=
 (bL (aD (aE gZ (af 0) (iO [(0, "one")] (af 1) (a6 (aE dw (af 0) (af 1))) (af 0)))))
noncomputable def lB : Sg:=⟨aM (st 40),["node", "states", "hits", "kids", "kid", "ends", "spot", "last"]⟩
noncomputable def cg (c : Fn → List ae → Mo ae) : Loc → Mo (Fl × Loc):=
 (au (sIf (a6 (aE oEq (af 1) (bB am))) (bL (aD (bB am))) bD) (au (a7 3 (aS (aK "kids") (af 0))) (au (sIf (a6 (aE oEq (aS (aK "op") (af 0)) (ar (.str "block")))) (au (dW 4 (af 3) (a7 1 (aq (c .f_law_ways) (ab (af 4) (ab (af 1) (ab (af 2) am)))))) (bL (af 1))) bD) (au (sIf (a6 (aE oEq (aS (aK "op") (af 0)) (ar (.str "assign")))) (au (bx (aq (c .f_law_uses) (ab (aE aV (af 3) (ar (.int 1))) (ab (af 1) (ab (af 2) am))))) (bL (aq (c .f_law_stored) (ab (af 1) (ab (aS (aK "slot") (aS (aK "value") (aE aV (af 3) (ar (.int 0))))) am))))) bD) (au (sIf (a6 (aE oEq (aS (aK "op") (af 0)) (ar (.str "std")))) (au (bx (aq (c .f_law_uses) (ab (aE aV (af 3) (ar (.int 1))) (ab (af 1) (ab (af 2) am))))) (au (bx (aq (c .f_law_uses) (ab (aE aV (af 3) (ar (.int 0))) (ab (af 1) (ab (af 2) am))))) (bL (aq (c .f_law_stored) (ab (af 1) (ab (aS (aK "slot") (aS (aK "value") (aE aV (af 3) (ar (.int 0))))) am)))))) bD) (au (sIf (a6 (aE oEq (aS (aK "op") (af 0)) (ar (.str "call")))) (au (bx (aq (c .f_law_uses) (ab (aE aV (af 3) (ar (.int 2))) (ab (af 1) (ab (af 2) am))))) (bL (aq (c .f_law_stored) (ab (af 1) (ab (aS (aK "slot") (aS (aK "value") (aE aV (af 3) (ar (.int 1))))) am))))) bD) (au (sIf (a6 (aE oEq (aS (aK "op") (af 0)) (ar (.str "if")))) (au (a7 5 (aD (bB am))) (au (dW 6 (aq cV (ab (aE qY (aq fi (ab (af 3) am)) (ar (.int 2))) am)) (au (bx (aq (c .f_law_uses) (ab (aE aV (af 3) (aE lk (ar (.int 2)) (af 6))) (ab (af 1) (ab (af 2) am))))) (a7 5 (aq (c .f_law_joined) (ab (af 5) (ab (aq (c .f_law_ways) (ab (aE aV (af 3) (aE eF (aE lk (ar (.int 2)) (af 6)) (ar (.int 1)))) (ab (af 1) (ab (af 2) am)))) am)))))) (au (a7 7 (eIf (a6 (aS (aK "value") (af 0))) (aq (c .f_law_ways) (ab (aE aV (af 3) (aS wR (ar (.int 1)))) (ab (af 1) (ab (af 2) am)))) (af 1))) (bL (aq (c .f_law_joined) (ab (af 5) (ab (af 7) am))))))) bD) (au (sIf (a6 (aE oEq (aS (aK "op") (af 0)) (ar (.str "case")))) (au (bx (aq (c .f_law_uses) (ab (aE aV (af 3) (ar (.int 0))) (ab (af 1) (ab (af 2) am))))) (au (a7 5 (aD (bB am))) (au (dW 4 (aD (gY 1 (af 3))) (a7 5 (aq (c .f_law_joined) (ab (af 5) (ab (aq (c .f_law_ways) (ab (af 4) (ab (af 1) (ab (af 2) am)))) am))))) (bL (af 5))))) bD) (bL (aq (c .f_law_turns) (ab (af 0) (ab (af 1) (ab (af 2) am)))))))))))))
noncomputable def kn : Sg:=⟨aM (st 41),["node", "states", "hits", "kids", "so_far", "wider", "spot"]⟩
noncomputable def dI (c : Fn → List ae → Mo ae) : Loc → Mo (Fl × Loc):=
 (au (a7 3 (aS (aK "kids") (af 0))) (au (sIf (a6 (aE oEq (aS (aK "op") (af 0)) (ar (.str "repeat")))) (au (a7 4 (aq (c .f_law_ways) (ab (aE aV (af 3) (ar (.int 0))) (ab (af 1) (ab (af 2) am))))) (dy (a6 (ar (.bool true))) (au (bx (aq (c .f_law_uses) (ab (aE aV (af 3) (ar (.int 1))) (ab (af 4) (ab (af 2) am))))) (au (a7 5 (aq (c .f_law_joined) (ab (af 4) (ab (aq (c .f_law_ways) (ab (aE aV (af 3) (ar (.int 0))) (ab (af 4) (ab (af 2) am)))) am)))) (au (sIf (a6 (aE oEq (aq fi (ab (af 5) am)) (aq fi (ab (af 4) am)))) (bL (af 4)) bD) (a7 4 (af 5))))) 1000)) bD) (au (sIf (a6 (aE oEq (aS (aK "op") (af 0)) (ar (.str "for")))) (au (bx (aq (c .f_law_uses) (ab (aE aV (af 3) (ar (.int 1))) (ab (af 1) (ab (af 2) am))))) (au (a7 4 (aq (c .f_law_stored) (ab (af 1) (ab (aS (aK "slot") (aS (aK "value") (aE aV (af 3) (ar (.int 0))))) am)))) (dy (a6 (ar (.bool true))) (au (bx (aq (c .f_law_uses) (ab (aE aV (af 3) (ar (.int 2))) (ab (af 4) (ab (af 2) am))))) (au (a7 5 (aq (c .f_law_joined) (ab (af 4) (ab (aq (c .f_law_ways) (ab (aE aV (af 3) (ar (.int 3))) (ab (af 4) (ab (af 2) am)))) am)))) (au (sIf (a6 (aE oEq (aq fi (ab (af 5) am)) (aq fi (ab (af 4) am)))) (bL (af 4)) bD) (a7 4 (af 5))))) 1000))) bD) (au (a7 4 (af 1)) (dy (a6 (ar (.bool true))) (au (a7 5 (af 4)) (au (dW 6 (aq cV (ab (ar (.int 0)) (ab (aq fi (ab (af 3) am)) (ab (ar (.int 2)) am)))) (au (bx (aq (c .f_law_uses) (ab (aE aV (af 3) (af 6)) (ab (af 4) (ab (af 2) am))))) (a7 5 (aq (c .f_law_joined) (ab (af 5) (ab (aq (c .f_law_ways) (ab (aE aV (af 3) (aE eF (af 6) (ar (.int 1)))) (ab (af 4) (ab (af 2) am)))) am)))))) (au (sIf (a6 (aE oEq (aq fi (ab (af 5) am)) (aq fi (ab (af 4) am)))) (bL (af 4)) bD) (a7 4 (af 5))))) 1000)))))
noncomputable def zn : Sg:=⟨aM (st 42),["script", "pool", "types", "book", "spot", "signature", "by_name", "callee", "tree", "inner_used", "hits", "ends", "due", "at", "one", "inner_proc"]⟩
noncomputable def pZ (c : Fn → List ae → Mo ae) : Loc → Mo (Fl × Loc):=
 (a7 1 (aq (c .f_law_pool) (ab (af 0) am)))
noncomputable def mX (c : Fn → List ae → Mo ae) : Loc → Mo (Fl × Loc):=
 (a7 2 (aq (c .Types) am))
noncomputable def mI (c : Fn → List ae → Mo ae) : Loc → Mo (Fl × Loc):=
 (a7 3 (zJ (tg "types" (af 2) (tg "place" (ar (.int 0)) (tg "spare" (ar (.int 14)) (tg "vars" (bB am) Fj))))))
noncomputable def mQ (c : Fn → List ae → Mo ae) : Loc → Mo (Fl × Loc):=
 (dW 4 (aq cV (ab (ar (.int 4)) am)) (au (a7 14 (aq (c .Obj) (ab (aE aV (ar (.str "abcd")) (af 4)) (ab (ar (.str "var")) (ab (aS (aK "integer") (af 2)) (ab (ar (.int 0)) am)))))) (au (bk (bR "level") (af 14) (ar (.int 1))) (au (bk (bR "slot") (af 14) (af 4)) (bx (bF be (aE aV (af 3) (ar (.str "vars"))) (ab (aD (af 14)) am)))))))
noncomputable def mE (c : Fn → List ae → Mo ae) : Loc → Mo (Fl × Loc):=
 (a7 5 (ew 276 "new" (c .tnew) (af 2) (ab (ar (.str "proc")) (ab (ar (.int 4)) am))))
noncomputable def mO (c : Fn → List ae → Mo ae) : Loc → Mo (Fl × Loc):=
 (bk (bR "base") (af 5) (aS (aK "none") (af 2)))
noncomputable def mU (c : Fn → List ae → Mo ae) : Loc → Mo (Fl × Loc):=
 (a7 6 (aq (c .Obj) (ab (ar (.str "x")) (ab (ar (.str "par")) (ab (aS (aK "integer") (af 2)) (ab (ar (.int 0)) am))))))
noncomputable def mN (c : Fn → List ae → Mo ae) : Loc → Mo (Fl × Loc):=
 (Ef 5 (bk (bR "params") (af 5) (aD (bB (ab (aD (af 6)) (ab (aD (aq (c .Obj) (ab (ar (.str "y")) (ab (ar (.str "var")) (ab (aS (aK "integer") (af 2)) (ab (ar (.int 0)) am)))))) am))))))
noncomputable def mK (c : Fn → List ae → Mo ae) : Loc → Mo (Fl × Loc):=
 (a7 7 (aq (c .Obj) (ab (ar (.str "Q")) (ab (ar (.str "proc")) (ab (af 5) (ab (ar (.int 0)) am))))))
noncomputable def mL (c : Fn → List ae → Mo ae) : Loc → Mo (Fl × Loc):=
 (bk (bR "module") (af 7) (ar (.str "M")))
noncomputable def kH (c : Fn → List ae → Mo ae) : Loc → Mo (Fl × Loc):=
 (bk (bR "value") (af 7) (ar (.str "Q")))
noncomputable def j0 (c : Fn → List ae → Mo ae) : Loc → Mo (Fl × Loc):=
 (gC fI (af 3) (ar (.str "callee")) (aD (af 7)))
noncomputable def j4 (c : Fn → List ae → Mo ae) : Loc → Mo (Fl × Loc):=
 (a7 8 (aq (c .ProcTree) (ab (aq (c .Obj) (ab (ar (.str "P")) (ab (ar (.str "proc")) (ab (af 5) (ab (ar (.int 0)) am))))) am)))
noncomputable def kC (c : Fn → List ae → Mo ae) : Loc → Mo (Fl × Loc):=
 (bk (bR "locals") (af 8) (aD (aq m5 (ab (aE aV (af 3) (ar (.str "vars"))) am))))
noncomputable def re (c : Fn → List ae → Mo ae) : Loc → Mo (Fl × Loc):=
 (a7 9 (aE oEq (aq (c .f_law_draw) (ab (af 1) (ab (ar (.int 3)) am))) (ar (.int 2))))
noncomputable def jO (c : Fn → List ae → Mo ae) : Loc → Mo (Fl × Loc):=
 (sIf (a6 (af 9)) (au (a7 15 (aq (c .ProcTree) (ab (aq (c .Obj) (ab (ar (.str "R")) (ab (ar (.str "proc")) (ab (af 5) (ab (ar (.int 0)) am))))) am))) (au (bk (bR "level") (af 15) (ar (.int 2))) (au (bk (bR "body") (af 15) (aD (aq (c .Node) (ab (ar (.str "block")) (ab (ar (.int 0)) (ab (ar .none) (ab (aD (bB (ab (aD (aq (c .Node) (ab (ar (.str "assign")) (ab (ar (.int 0)) (ab (ar .none) (ab (aD (bB (ab (aq (c .f_law_var) (ab (af 3) (ab (ar (.int 3)) am))) (ab (aq (c .f_const) (ab (aS (aK "integer") (af 2)) (ab (ar (.int 1)) (ab (ar (.int 0)) am)))) am)))) am)))))) am))) am))))))) (bk (bR "procs") (af 8) (aD (bB (ab (af 15) am))))))) bD)
noncomputable def nN (c : Fn → List ae → Mo ae) : Loc → Mo (Fl × Loc):=
 (bk (bR "body") (af 8) (aq (c .f_law_block) (ab (af 3) (ab (af 1) (ab (ar (.int 0)) am)))))
noncomputable def nO (c : Fn → List ae → Mo ae) : Loc → Mo (Fl × Loc):=
 (sIf (a6 (aE oEq (aq (c .f_law_draw) (ab (af 1) (ab (ar (.int 2)) am))) (ar (.int 1)))) (bk (bR "result") (af 8) (aq (c .f_law_value) (ab (af 3) (ab (af 1) am)))) bD)
noncomputable def jW (c : Fn → List ae → Mo ae) : Loc → Mo (Fl × Loc):=
 (a7 10 ln)
noncomputable def ku (c : Fn → List ae → Mo ae) : Loc → Mo (Fl × Loc):=
 (a7 11 (aq (c .f_law_ways) (ab (aS (aK "body") (af 8)) (ab (aD (bB (ab (aD (bB am)) am))) (ab (af 10) am)))))
noncomputable def jQ (c : Fn → List ae → Mo ae) : Loc → Mo (Fl × Loc):=
 (sIf (a6 (aE iA (aS (aK "result") (af 8)) (ar .none))) (bx (aq (c .f_law_uses) (ab (aS (aK "result") (af 8)) (ab (af 11) (ab (af 10) am))))) bD)
noncomputable def iN (c : Fn → List ae → Mo ae) : Loc → Mo (Fl × Loc):=
 (a7 12 (bB am))
noncomputable def iL (c : Fn → List ae → Mo ae) : Loc → Mo (Fl × Loc):=
 (dW 13 (aD (aq dQ (ab (af 10) am))) (sIf (tOr (tO (a6 (af 9))) (a6 (aE oNe (aS (aK "slot") (aE aV (af 10) (af 13))) (ar (.int 3))))) (bx (bF be (af 12) (ab (ju (ab (af 13) (ab (aS (aK "name") (aE aV (af 10) (af 13))) am))) am))) bD))
noncomputable def iE (c : Fn → List ae → Mo ae) : Loc → Mo (Fl × Loc):=
 (bL (aE oEq (aq (c .f_unset_uses) (ab (af 8) am)) (af 12)))
noncomputable def tP (c : Fn → List ae → Mo ae) : Loc → Mo (Fl × Loc):=
 au (pZ c) (au (mX c) (au (mI c) (au (mQ c) (au (mE c) (au (mO c) (au (mU c) (au (mN c) (au (mK c) (au (mL c) (au (kH c) (au (j0 c) (au (j4 c) (au (kC c) (au (re c) (au (jO c) (au (nN c) (au (nO c) (au (jW c) (au (ku c) (au (jQ c) (au (iN c) (au (iL c) (iE c)))))))))))))))))))))))
noncomputable def mf (c : Fn → List ae → Mo ae) : Fn → List ae → Mo ae
 | .Node=>gQ 32 (aO 6 6 [.none] (df c))
 | .f_const=>aO 3 3 [] (jR c)
 | .ProcTree=>gQ 60 (aO 2 2 [] (ed c))
 | .f_nodes_of=>aO 1 5 [] (fm c)
 | .f_is_scalar=>aO 1 1 [] (gt c)
 | .f_inner_nodes=>aO 1 4 [] (dY c)
 | .f_followed=>aO 1 5 [] (gg c)
 | .Follower=>gQ 116 (aO 2 2 [] (dt c))
 | .slot_of=>aO 2 2 [] (cM c)
 | .f_used=>aO 3 4 [] (n5 c)
 | .f_with_store=>aO 3 4 [] (eK c)
 | .f_place_uses=>aO 3 4 [] (eM c)
 | .f_value_uses=>aO 3 4 [] (cT c)
 | .f_call_uses=>aO 3 8 [] (fz c)
 | .f_std_uses=>aO 3 5 [] (f0 c)
 | .f_branch_uses=>aO 3 6 [] (dv c)
 | .f_while_uses=>aO 3 4 [] (e8 c)
 | .f_for_uses=>aO 3 7 [] (fY c)
 | .f_case_uses=>aO 3 5 [] (fA c)
 | .f_statement_uses=>aO 3 5 [] (bj c)
 | .f_unset_uses=>aO 1 3 [] (eJ c)
 | .Type=>gQ 219 (aO 4 4 [] (gu c))
 | .Obj=>gQ 240 (aO 5 5 [] (hJ c))
 | .Types=>gQ 276 (aO 1 1 [] (fS c))
 | .tnew=>aO 5 6 [.str "",.str ""] (gx c)
 | .f_law_pool=>aO 1 5 [] (fX c)
 | .f_law_draw=>aO 2 2 [] (gf c)
 | .f_law_place=>aO 1 1 [] (gq c)
 | .f_law_var=>aO 2 2 [] (gL c)
 | .f_law_value=>aO 2 4 [] (fy c)
 | .f_law_test=>aO 2 6 [] (gc c)
 | .f_law_block=>aO 3 4 [] (fG c)
 | .f_law_arms=>aO 4 6 [] (f7 c)
 | .f_law_deed=>aO 3 13 [] (f5 c)
 | .f_law_uses=>aO 3 5 [] (eA c)
 | .f_law_stored=>aO 2 5 [] (eT c)
 | .f_law_joined=>aO 2 2 [] (eU c)
 | .f_law_ways=>aO 3 8 [] (cg c)
 | .f_law_turns=>aO 3 7 [] (dI c)
 | .f_law=>aO 1 16 [] (tP c)
noncomputable def sem : Nat → Fn → List ae → Mo ae
 | 0=>fun _ _=>dK
 | d + 1=>mf (sem d)
theorem Jn (d : Nat) : sem (d + 1) .Node = gQ 32 (aO 6 6 [.none] (df (sem d))):=rfl
theorem AI (d : Nat) : sem (d + 1) .f_const = aO 3 3 [] (jR (sem d)):=rfl
theorem Cl (d : Nat) : sem (d + 1) .ProcTree = gQ 60 (aO 2 2 [] (ed (sem d))):=rfl
theorem nJ (d : Nat) : sem (d + 1) .f_nodes_of = aO 1 5 [] (fm (sem d)):=rfl
theorem BF (d : Nat) : sem (d + 1) .f_is_scalar = aO 1 1 [] (gt (sem d)):=rfl
theorem oB (d : Nat) : sem (d + 1) .f_inner_nodes = aO 1 4 [] (dY (sem d)):=rfl
theorem vb (d : Nat) : sem (d + 1) .f_followed = aO 1 5 [] (gg (sem d)):=rfl
theorem ub (d : Nat) : sem (d + 1) .Follower = gQ 116 (aO 2 2 [] (dt (sem d))):=rfl
theorem wW (d : Nat) : sem (d + 1) .slot_of = aO 2 2 [] (cM (sem d)):=rfl
theorem Dx (d : Nat) : sem (d + 1) .f_used = aO 3 4 [] (n5 (sem d)):=rfl
theorem qf (d : Nat) : sem (d + 1) .f_with_store = aO 3 4 [] (eK (sem d)):=rfl
theorem qk (d : Nat) : sem (d + 1) .f_place_uses = aO 3 4 [] (eM (sem d)):=rfl
theorem fQ (d : Nat) : sem (d + 1) .f_value_uses = aO 3 4 [] (cT (sem d)):=rfl
theorem rD (d : Nat) : sem (d + 1) .f_call_uses = aO 3 8 [] (fz (sem d)):=rfl
theorem uA (d : Nat) : sem (d + 1) .f_std_uses = aO 3 5 [] (f0 (sem d)):=rfl
theorem jl (d : Nat) : sem (d + 1) .f_branch_uses = aO 3 6 [] (dv (sem d)):=rfl
theorem qM (d : Nat) : sem (d + 1) .f_while_uses = aO 3 4 [] (e8 (sem d)):=rfl
theorem uc (d : Nat) : sem (d + 1) .f_for_uses = aO 3 7 [] (fY (sem d)):=rfl
theorem tn (d : Nat) : sem (d + 1) .f_case_uses = aO 3 5 [] (fA (sem d)):=rfl
theorem bQ (d : Nat) : sem (d + 1) .f_statement_uses = aO 3 5 [] (bj (sem d)):=rfl
theorem qH (d : Nat) : sem (d + 1) .f_unset_uses = aO 1 3 [] (eJ (sem d)):=rfl
theorem IO (d : Nat) : sem (d + 1) .Type = gQ 219 (aO 4 4 [] (gu (sem d))):=rfl
theorem Ku (d : Nat) : sem (d + 1) .Obj = gQ 240 (aO 5 5 [] (hJ (sem d))):=rfl
theorem Ge (d : Nat) : sem (d + 1) .Types = gQ 276 (aO 1 1 [] (fS (sem d))):=rfl
theorem HJ (d : Nat) : sem (d + 1) .tnew = aO 5 6 [.str "",.str ""] (gx (sem d)):=rfl
theorem uu (d : Nat) : sem (d + 1) .f_law_pool = aO 1 5 [] (fX (sem d)):=rfl
theorem tS (d : Nat) : sem (d + 1) .f_law_draw = aO 2 2 [] (gf (sem d)):=rfl
theorem B3 (d : Nat) : sem (d + 1) .f_law_place = aO 1 1 [] (gq (sem d)):=rfl
theorem wn (d : Nat) : sem (d + 1) .f_law_var = aO 2 2 [] (gL (sem d)):=rfl
theorem sJ (d : Nat) : sem (d + 1) .f_law_value = aO 2 4 [] (fy (sem d)):=rfl
theorem uB (d : Nat) : sem (d + 1) .f_law_test = aO 2 6 [] (gc (sem d)):=rfl
theorem rX (d : Nat) : sem (d + 1) .f_law_block = aO 3 4 [] (fG (sem d)):=rfl
theorem uG (d : Nat) : sem (d + 1) .f_law_arms = aO 4 6 [] (f7 (sem d)):=rfl
theorem va (d : Nat) : sem (d + 1) .f_law_deed = aO 3 13 [] (f5 (sem d)):=rfl
theorem jz (d : Nat) : sem (d + 1) .f_law_uses = aO 3 5 [] (eA (sem d)):=rfl
theorem q0 (d : Nat) : sem (d + 1) .f_law_stored = aO 2 5 [] (eT (sem d)):=rfl
theorem qZ (d : Nat) : sem (d + 1) .f_law_joined = aO 2 2 [] (eU (sem d)):=rfl
theorem cY (d : Nat) : sem (d + 1) .f_law_ways = aO 3 8 [] (cg (sem d)):=rfl
theorem iJ (d : Nat) : sem (d + 1) .f_law_turns = aO 3 7 [] (dI (sem d)):=rfl
theorem Fk (d : Nat) : sem (d + 1) .f_law = aO 1 16 [] (tP (sem d)):=rfl
end Mine
end
section
namespace Mine
section
variable (P : Params)
theorem qV : cJ (kF P) "body" = true:=by kernel_rfl
theorem vd : cJ (kF P) "boolean" = true:=by kernel_rfl
theorem m7 : cJ (kF P) "counter" = true:=by kernel_rfl
theorem Ap : cJ (kF P) "form" = true:=by kernel_rfl
theorem nG : cJ (kF P) "found" = true:=by kernel_rfl
theorem ej : cJ (kF P) "integer" = true:=by kernel_rfl
theorem bE : cJ (kF P) "kids" = true:=by kernel_rfl
theorem Ad : cJ (kF P) "kind" = true:=by kernel_rfl
theorem y9 : cJ (kF P) "known" = true:=by kernel_rfl
theorem gV : cJ (kF P) "level" = true:=by kernel_rfl
theorem wS : cJ (kF P) "locals" = true:=by kernel_rfl
theorem vV : cJ (kF P) "name" = true:=by kernel_rfl
theorem AT : cJ (kF P) "none" = true:=by kernel_rfl
theorem dZ : cJ (kF P) "op" = true:=by kernel_rfl
theorem wN : cJ (kF P) "params" = true:=by kernel_rfl
theorem tr : cJ (kF P) "place" = true:=by kernel_rfl
theorem sf : cJ (kF P) "procs" = true:=by kernel_rfl
theorem gP : cJ (kF P) "result" = true:=by kernel_rfl
theorem eO : cJ (kF P) "slot" = true:=by kernel_rfl
theorem to : cJ (kF P) "slots" = true:=by kernel_rfl
theorem qv : cJ (kF P) "type" = true:=by kernel_rfl
theorem cN : cJ (kF P) "value" = true:=by kernel_rfl
theorem vx : bA (kF P) "base" = true:=by kernel_rfl
theorem pO : bA (kF P) "body" = true:=by kernel_rfl
theorem uR : bA (kF P) "boolean" = true:=by kernel_rfl
theorem Az : bA (kF P) "byte" = true:=by kernel_rfl
theorem Bt : bA (kF P) "char" = true:=by kernel_rfl
theorem nM : bA (kF P) "counter" = true:=by kernel_rfl
theorem At : bA (kF P) "exno" = true:=by kernel_rfl
theorem s4 : bA (kF P) "exported" = true:=by kernel_rfl
theorem w9 : bA (kF P) "fields" = true:=by kernel_rfl
theorem AA : bA (kF P) "form" = true:=by kernel_rfl
theorem xO : bA (kF P) "found" = true:=by kernel_rfl
theorem w1 : bA (kF P) "hidden" = true:=by kernel_rfl
theorem uw : bA (kF P) "integer" = true:=by kernel_rfl
theorem uW : bA (kF P) "isparam" = true:=by kernel_rfl
theorem Ag : bA (kF P) "kids" = true:=by kernel_rfl
theorem Bh : bA (kF P) "kind" = true:=by kernel_rfl
theorem y8 : bA (kF P) "known" = true:=by kernel_rfl
theorem sm : bA (kF P) "label" = true:=by kernel_rfl
theorem wX : bA (kF P) "length" = true:=by kernel_rfl
theorem gR : bA (kF P) "level" = true:=by kernel_rfl
theorem pf : bA (kF P) "locals" = true:=by kernel_rfl
theorem A5 : bA (kF P) "mask" = true:=by kernel_rfl
theorem iZ : bA (kF P) "module" = true:=by kernel_rfl
theorem AC : bA (kF P) "name" = true:=by kernel_rfl
theorem tA : bA (kF P) "narrowed" = true:=by kernel_rfl
theorem DG : bA (kF P) "nil" = true:=by kernel_rfl
theorem AS : bA (kF P) "none" = true:=by kernel_rfl
theorem po : bA (kF P) "number" = true:=by kernel_rfl
theorem Dy : bA (kF P) "obj" = true:=by kernel_rfl
theorem w3 : bA (kF P) "offset" = true:=by kernel_rfl
theorem D6 : bA (kF P) "op" = true:=by kernel_rfl
theorem k0 : bA (kF P) "params" = true:=by kernel_rfl
theorem sB : bA (kF P) "place" = true:=by kernel_rfl
theorem s7 : bA (kF P) "procs" = true:=by kernel_rfl
theorem sH : bA (kF P) "readonly" = true:=by kernel_rfl
theorem pz : bA (kF P) "result" = true:=by kernel_rfl
theorem zW : bA (kF P) "size" = true:=by kernel_rfl
theorem vK : bA (kF P) "slot" = true:=by kernel_rfl
theorem xD : bA (kF P) "slots" = true:=by kernel_rfl
theorem Br : bA (kF P) "sure" = true:=by kernel_rfl
theorem wl : bA (kF P) "type" = true:=by kernel_rfl
theorem on : bA (kF P) "value" = true:=by kernel_rfl
theorem tx : nsIn (kF P) mainGlobals "Follower" = some (some (.ref 116)):=by kernel_rfl
theorem so : keepIn (kF P) (.ref 116) = true:=by kernel_rfl
theorem cO : nsIn (kF P) mainGlobals "Node" = some (some (.ref 32)):=by kernel_rfl
theorem cP : keepIn (kF P) (.ref 32) = true:=by kernel_rfl
theorem k8 : nsIn (kF P) mainGlobals "Obj" = some (some (.ref 240)):=by kernel_rfl
theorem kR : keepIn (kF P) (.ref 240) = true:=by kernel_rfl
theorem lZ : nsIn (kF P) mainGlobals "ProcTree" = some (some (.ref 60)):=by kernel_rfl
theorem lY : keepIn (kF P) (.ref 60) = true:=by kernel_rfl
theorem Bg : nsIn (kF P) mainGlobals "Type" = some (some (.ref 219)):=by kernel_rfl
theorem An : keepIn (kF P) (.ref 219) = true:=by kernel_rfl
theorem xn : nsIn (kF P) mainGlobals "Types" = some (some (.ref 276)):=by kernel_rfl
theorem zu : keepIn (kF P) (.ref 276) = true:=by kernel_rfl
theorem jY : nsIn (kF P) mainGlobals "_law_arms" = some (some (.ref 334)):=by kernel_rfl
theorem j3 : keepIn (kF P) (.ref 334) = true:=by kernel_rfl
theorem cX : nsIn (kF P) mainGlobals "_law_block" = some (some (.ref 327)):=by kernel_rfl
theorem cW : keepIn (kF P) (.ref 327) = true:=by kernel_rfl
theorem qb : nsIn (kF P) mainGlobals "_law_deed" = some (some (.ref 341)):=by kernel_rfl
theorem qt : keepIn (kF P) (.ref 341) = true:=by kernel_rfl
theorem bp : nsIn (kF P) mainGlobals "_law_draw" = some (some (.ref 294)):=by kernel_rfl
theorem bq : keepIn (kF P) (.ref 294) = true:=by kernel_rfl
theorem da : nsIn (kF P) mainGlobals "_law_joined" = some (some (.ref 358)):=by kernel_rfl
theorem dc : keepIn (kF P) (.ref 358) = true:=by kernel_rfl
theorem cv : nsIn (kF P) mainGlobals "_law_place" = some (some (.ref 301)):=by kernel_rfl
theorem cq : keepIn (kF P) (.ref 301) = true:=by kernel_rfl
theorem qK : nsIn (kF P) mainGlobals "_law_pool" = some (some (.ref 287)):=by kernel_rfl
theorem pK : keepIn (kF P) (.ref 287) = true:=by kernel_rfl
theorem eR : nsIn (kF P) mainGlobals "_law_stored" = some (some (.ref 353)):=by kernel_rfl
theorem eL : keepIn (kF P) (.ref 353) = true:=by kernel_rfl
theorem kB : nsIn (kF P) mainGlobals "_law_test" = some (some (.ref 322)):=by kernel_rfl
theorem jP : keepIn (kF P) (.ref 322) = true:=by kernel_rfl
theorem oJ : nsIn (kF P) mainGlobals "_law_turns" = some (some (.ref 372)):=by kernel_rfl
theorem oP : keepIn (kF P) (.ref 372) = true:=by kernel_rfl
theorem b5 : nsIn (kF P) mainGlobals "_law_uses" = some (some (.ref 348)):=by kernel_rfl
theorem b6 : keepIn (kF P) (.ref 348) = true:=by kernel_rfl
theorem bZ : nsIn (kF P) mainGlobals "_law_value" = some (some (.ref 315)):=by kernel_rfl
theorem b4 : keepIn (kF P) (.ref 315) = true:=by kernel_rfl
theorem dd : nsIn (kF P) mainGlobals "_law_var" = some (some (.ref 308)):=by kernel_rfl
theorem dg : keepIn (kF P) (.ref 308) = true:=by kernel_rfl
theorem cD : nsIn (kF P) mainGlobals "_law_ways" = some (some (.ref 365)):=by kernel_rfl
theorem cC : keepIn (kF P) (.ref 365) = true:=by kernel_rfl
theorem nS : nsIn (kF P) mainGlobals "branch_uses" = some (some (.ref 169)):=by kernel_rfl
theorem nC : keepIn (kF P) (.ref 169) = true:=by kernel_rfl
theorem kA : nsIn (kF P) mainGlobals "call_uses" = some (some (.ref 155)):=by kernel_rfl
theorem j5 : keepIn (kF P) (.ref 155) = true:=by kernel_rfl
theorem pT : nsIn (kF P) mainGlobals "case_uses" = some (some (.ref 190)):=by kernel_rfl
theorem qG : keepIn (kF P) (.ref 190) = true:=by kernel_rfl
theorem rP : nsIn (kF P) mainGlobals "const" = some (some (.ref 43)):=by kernel_rfl
theorem rV : keepIn (kF P) (.ref 43) = true:=by kernel_rfl
theorem r8 : nsIn (kF P) mainGlobals "followed" = some (some (.ref 92)):=by kernel_rfl
theorem sz : keepIn (kF P) (.ref 92) = true:=by kernel_rfl
theorem tF : nsIn (kF P) mainGlobals "for_uses" = some (some (.ref 183)):=by kernel_rfl
theorem s9 : keepIn (kF P) (.ref 183) = true:=by kernel_rfl
theorem nu : nsIn (kF P) mainGlobals "inner_nodes" = some (some (.ref 85)):=by kernel_rfl
theorem nv : keepIn (kF P) (.ref 85) = true:=by kernel_rfl
theorem pQ : nsIn (kF P) mainGlobals "is_scalar" = some (some (.ref 78)):=by kernel_rfl
theorem ql : keepIn (kF P) (.ref 78) = true:=by kernel_rfl
theorem fc : nsIn (kF P) mainGlobals "len" = some none:=by kernel_rfl
theorem vo : nsIn (kF P) mainGlobals "list" = some none:=by kernel_rfl
theorem lI : nsIn (kF P) mainGlobals "nodes_of" = some (some (.ref 71)):=by kernel_rfl
theorem lG : keepIn (kF P) (.ref 71) = true:=by kernel_rfl
theorem d5 : nsIn (kF P) mainGlobals "place_uses" = some (some (.ref 141)):=by kernel_rfl
theorem d4 : keepIn (kF P) (.ref 141) = true:=by kernel_rfl
theorem d7 : nsIn (kF P) mainGlobals "range" = some none:=by kernel_rfl
theorem sh : nsIn (kF P) mainGlobals "reversed" = some none:=by kernel_rfl
theorem lc : nsIn (kF P) mainGlobals "sorted" = some none:=by kernel_rfl
theorem bX : nsIn (kF P) mainGlobals "statement_uses" = some (some (.ref 197)):=by kernel_rfl
theorem bY : keepIn (kF P) (.ref 197) = true:=by kernel_rfl
theorem tu : nsIn (kF P) mainGlobals "std_uses" = some (some (.ref 162)):=by kernel_rfl
theorem th : keepIn (kF P) (.ref 162) = true:=by kernel_rfl
theorem oG : nsIn (kF P) mainGlobals "unset_uses" = some (some (.ref 202)):=by kernel_rfl
theorem oR : keepIn (kF P) (.ref 202) = true:=by kernel_rfl
theorem vM : nsIn (kF P) mainGlobals "used" = some (some (.ref 127)):=by kernel_rfl
theorem vU : keepIn (kF P) (.ref 127) = true:=by kernel_rfl
theorem bo : nsIn (kF P) mainGlobals "value_uses" = some (some (.ref 148)):=by kernel_rfl
theorem bn : keepIn (kF P) (.ref 148) = true:=by kernel_rfl
theorem oN : nsIn (kF P) mainGlobals "while_uses" = some (some (.ref 176)):=by kernel_rfl
theorem ou : keepIn (kF P) (.ref 176) = true:=by kernel_rfl
theorem ft : nsIn (kF P) mainGlobals "with_store" = some (some (.ref 134)):=by kernel_rfl
theorem fw : keepIn (kF P) (.ref 134) = true:=by kernel_rfl
end
section
variable {prog : Program} {w : World} {B : Heap} {b : Nat} {sg : Sg}
theorem vr (i : Nat) {x : Str} {pos : Pos} (hi : sg.names[i]? = some x:=by rfl) (hd : (x == ("__debug__" : Str)) = false:=by kernel_rfl) : bT prog w B b sg (.Name x pos) (af i):=EH hi hd
end
section
variable {prog : Program} {w : World} {B : Heap} {b : Nat} {P : Params} {p : Program} {loose : List Str} {mg mb : Str → Option Value}
variable (Γ : Gl (kF P) B p loose mg mb) (hsys : ∃ o,B.get? sysModules = some o) (hb : 9 ≤ b) {c : Fn → List ae → Mo ae} (hc : ∀ g,cu prog w B b (.ref (oh g)) (c g))
include Γ hsys hb hc
theorem rT : cy prog w B b j6 (aU (mt 1 0)) (df c):=
 (ap (aZ (vr 0) (vr 1) (bm Γ (D6 _))) (ap (aZ (vr 0) (vr 2) (bm Γ (sB _))) (ap (aZ (vr 0) (vr 3) (bm Γ (wl _))) (ap (aZ (vr 0) (vr 4) (bm Γ (Ag _))) (ap (aZ (vr 0) (vr 5) (bm Γ (on _))) (aN (aZ (vr 0) iV (bm Γ (Br _)))))))))
theorem AQ : cy prog w B b si (aU (st 2)) (jR c):=
 (aN (bl (aH (az Γ (cO _) (cP _) (aa aW (aa (vr 2) (aa (vr 0) (aa (aH (bw ak)) (aa (vr 1) ak))))) (hc .Node).call))))
theorem mh : cy prog w B b gN (aU (mt 3 0)) (ed c):=
 (ap (aZ (vr 0) (vr 1) (bm Γ (Dy _))) (ap (aZ (vr 0) (aH (bw ak)) (bm Γ (k0 _))) (ap (aZ (vr 0) (aH (bw ak)) (bm Γ (pf _))) (ap (aZ (vr 0) (aH (bw ak)) (bm Γ (s7 _))) (ap (aZ (vr 0) db (bm Γ (pO _))) (ap (aZ (vr 0) db (bm Γ (pz _))) (aN (aZ (vr 0) (cx (aG (vr 1) (aQ Γ (gV _))) aJ fK) (bm Γ (gR _))))))))))
theorem ux : cy prog w B b lE (aU (st 4)) (fm c):=
 (ap (aC (i:=1) rfl (bw ak)) (ap (aC (i:=2) rfl (bw ak)) (ap (ce (bh (vr 0) db mY) (aN (bS (cj (vr 2) (aa (vr 0) ak) cK F.slot_list_append F.type_list_append))) bz) (ap (jc 1000 (bh (c9 Γ (fc _) boot_len (by decide) (aa (vr 2) ak) gG) aJ DB) (ap (aC (i:=3) rfl (cj (vr 2) ak x6 F.slot_list_pop F.type_list_pop)) (ap (bS (cj (vr 1) (aa (vr 3) ak) cK F.slot_list_append F.type_list_append)) (aN (yO Γ (i:=4) rfl (sh _) (aG (vr 3) (aQ Γ (bE _))) (aN (ce (bh (vr 4) db mY) (aN (bS (cj (vr 2) (aa (vr 4) ak) cK F.slot_list_append F.type_list_append))) bz)) (by kernel_rfl)))))) (aN (bl (vr 1)))))))
theorem ri : cy prog w B b j1 (aU (st 6)) (gt c):=
 (aN (bl (ss (aG (vr 0) (aQ Γ (Ap _))) (pA (aa aW (aa aW (aa aW (aa aW (aa aW (aa aW (aa aW (aa aW ak))))))))) (Fp hsys hb))))
theorem oC : cy prog w B b iQ (aU (st 8)) (dY c):=
 (ap (aC (i:=1) rfl (bw ak)) (ap (aC (i:=2) rfl (ee Γ (vo _) boot_list (by decide) (aa (aG (vr 0) (aQ Γ (sf _))) ak) yS)) (ap (jc 1000 (bh (c9 Γ (fc _) boot_len (by decide) (aa (vr 2) ak) gG) aJ DB) (ap (aC (i:=3) rfl (cj (vr 2) ak x6 F.slot_list_pop F.type_list_pop)) (ap (bS (cj (vr 1) (aa (aH (az Γ (lI _) (lG _) (aa (aG (vr 3) (aQ Γ (qV _))) ak) (hc .f_nodes_of).call)) ak) nQ F.slot_list_extend F.type_list_extend)) (ap (bS (cj (vr 1) (aa (aH (az Γ (lI _) (lG _) (aa (aG (vr 3) (aQ Γ (gP _))) ak) (hc .f_nodes_of).call)) ak) nQ F.slot_list_extend F.type_list_extend)) (aN (bS (cj (vr 2) (aa (aG (vr 3) (aQ Γ (sf _))) ak) nQ F.slot_list_extend F.type_list_extend))))))) (aN (bl (vr 1))))))
theorem u8 : cy prog w B b lS (aU (st 9)) (gg c):=
 (ap (aC (i:=1) rfl jZ) (ap (dk (i:=2) rfl (aH (az Γ (nu _) (nv _) (aa (vr 0) ak) (hc .f_inner_nodes).call)) (aN (ce (gy (h8 (bh (aG (vr 2) (aQ Γ (dZ _))) aW (cw hb)) (gT (bh (aG (aG (vr 2) (aQ Γ (cN _))) (aQ Γ (gV _))) (aG (vr 0) (aQ Γ (gV _))) (cw hb))))) (aN (lw (vr 1) (aG (aG (vr 2) (aQ Γ (cN _))) (aQ Γ (eO _))) iV lU)) bz))) (ap (aC (i:=3) rfl jZ) (ap (dk (i:=4) rfl (aG (vr 0) (aQ Γ (wS _))) (aN (ce (gy (h8 (fo (az Γ (pQ _) (ql _) (aa (aG (vr 4) (aQ Γ (qv _))) ak) (hc .f_is_scalar).call)) (gT (bh (aG (vr 4) (aQ Γ (eO _))) (vr 1) (mT hsys hb))))) (aN (lw (vr 3) (aG (vr 4) (aQ Γ (eO _))) (vr 4) lU)) bz))) (aN (bl (vr 3)))))))
theorem mu : cy prog w B b gI (aU (mt 10 0)) (dt c):=
 (ap (aZ (vr 0) (aG (vr 1) (aQ Γ (gV _))) (bm Γ (gR _))) (ap (aZ (vr 0) (az Γ (r8 _) (sz _) (aa (vr 1) ak) (hc .f_followed).call) (bm Γ (xD _))) (aN (aZ (vr 0) jZ (bm Γ (xO _))))))
theorem jx : cy prog w B b fL (aU (mt 10 1)) (cM c):=
 (ap (ce (gy (h8 (bh (aG (vr 1) (aQ Γ (dZ _))) aW (cw hb)) (h8 (bh (aG (aG (vr 1) (aQ Γ (cN _))) (aQ Γ (gV _))) (aG (vr 0) (aQ Γ (gV _))) (cw hb)) (gT (bh (aG (aG (vr 1) (aQ Γ (cN _))) (aQ Γ (eO _))) (aG (vr 0) (aQ Γ (to _))) (Fp hsys hb)))))) (aN (bl (aG (aG (vr 1) (aQ Γ (cN _))) (aQ Γ (eO _))))) bz) (aN (bl (Bu aJ wh))))
theorem CE : cy prog w B b v0 (aU (st 11)) (n5 c):=
 (ap (aC (i:=3) rfl (eX Γ (vr 0) (aa (vr 1) ak) (hc .slot_of).call (by kernel_rfl) (by kernel_rfl) (by kernel_rfl) (by kernel_rfl))) (aN (ce (gy (h8 (bh (vr 3) aJ CD) (gT (bh (cx (cx (vr 2) (vr 3) Em) aJ yp) aJ (cw hb))))) (aN (lw (aG (vr 0) (aQ Γ (nG _))) (aG (vr 1) (aQ Γ (tr _))) (vr 3) lU)) bz)))
theorem qX : cy prog w B b jn (aU (st 12)) (eK c):=
 (ap (jc 1000 (bh (aG (vr 1) (aQ Γ (dZ _))) aW (cw hb)) (aN (aC (i:=1) rfl (bC (aG (vr 1) (aQ Γ (bE _))) aJ aI)))) (ap (aC (i:=3) rfl (eX Γ (vr 0) (aa (vr 1) ak) (hc .slot_of).call (by kernel_rfl) (by kernel_rfl) (by kernel_rfl) (by kernel_rfl))) (ap (ce (bh (vr 3) aJ DF) (aN (bl (vr 2))) bz) (aN (bl (cx (vr 2) (cx aJ (vr 3) Fd) HE))))))
theorem qq : cy prog w B b jk (aU (st 13)) (eM c):=
 (ap (ce (bh (eX Γ (vr 0) (aa (vr 1) ak) (hc .slot_of).call (by kernel_rfl) (by kernel_rfl) (by kernel_rfl) (by kernel_rfl)) aJ CD) (aN (bl (vr 2))) bz) (ap (ce (bh (aG (vr 1) (aQ Γ (dZ _))) aW (cw hb)) (aN (bl (vr 2))) bz) (ap (ce (gy (p8 (bh (aG (vr 1) (aQ Γ (dZ _))) aW (cw hb)) (mJ (bh (aG (vr 1) (aQ Γ (dZ _))) aW (cw hb))))) (aN (bl (az Γ (bo _) (bn _) (aa (vr 0) (aa (bC (aG (vr 1) (aQ Γ (bE _))) aJ aI) (aa (vr 2) ak))) (hc .f_value_uses).call))) bz) (ap (aC (i:=2) rfl (az Γ (d5 _) (d4 _) (aa (vr 0) (aa (bC (aG (vr 1) (aQ Γ (bE _))) aJ aI) (aa (vr 2) ak))) (hc .f_place_uses).call)) (ap (dk (i:=3) rfl (aH (qJ (aG (vr 1) (aQ Γ (bE _))))) (aN (aC (i:=2) rfl (az Γ (bo _) (bn _) (aa (vr 0) (aa (vr 3) (aa (vr 2) ak))) (hc .f_value_uses).call)))) (aN (bl (vr 2))))))))
theorem qh : cy prog w B b jp (aU (st 14)) (cT c):=
 (ap (ce (bh (aG (vr 1) (aQ Γ (dZ _))) aW (cw hb)) (ap (bS (az Γ (vM _) (vU _) (aa (vr 0) (aa (vr 1) (aa (vr 2) ak))) (hc .f_used).call)) (aN (bl (vr 2)))) bz) (ap (ce (gy (p8 (bh (aG (vr 1) (aQ Γ (dZ _))) aW (cw hb)) (mJ (bh (aG (vr 1) (aQ Γ (dZ _))) aW (cw hb))))) (ap (aC (i:=2) rfl (az Γ (bo _) (bn _) (aa (vr 0) (aa (bC (aG (vr 1) (aQ Γ (bE _))) aJ aI) (aa (vr 2) ak))) (hc .f_value_uses).call)) (ap (bS (az Γ (bo _) (bn _) (aa (vr 0) (aa (bC (aG (vr 1) (aQ Γ (bE _))) aJ aI) (aa (vr 2) ak))) (hc .f_value_uses).call)) (aN (bl (vr 2))))) bz) (ap (ce (bh (aG (vr 1) (aQ Γ (dZ _))) aW (cw hb)) (aN (bl (az Γ (kA _) (j5 _) (aa (vr 0) (aa (vr 1) (aa (vr 2) ak))) (hc .f_call_uses).call))) bz) (ap (dk (i:=3) rfl (aG (vr 1) (aQ Γ (bE _))) (aN (aC (i:=2) rfl (az Γ (bo _) (bn _) (aa (vr 0) (aa (vr 3) (aa (vr 2) ak))) (hc .f_value_uses).call)))) (aN (bl (vr 2)))))))
theorem sE : cy prog w B b kE (aU (st 15)) (fz c):=
 (ap (aC (i:=3) rfl (bC (aG (vr 1) (aQ Γ (bE _))) aJ aI)) (ap (aC (i:=2) rfl (az Γ (bo _) (bn _) (aa (vr 0) (aa (vr 3) (aa (vr 2) ak))) (hc .f_value_uses).call)) (ap (aC (i:=4) rfl (aG (aG (vr 3) (aQ Γ (qv _))) (aQ Γ (wN _)))) (ap (aC (i:=5) rfl (bw ak)) (ap (dk (i:=6) rfl (ee Γ (d7 _) boot_range (by decide) (aa (cx (c9 Γ (fc _) boot_len (by decide) (aa (aG (vr 1) (aQ Γ (bE _))) ak) gG) aJ xJ) ak) fv) (ap (aC (i:=7) rfl (bC (aG (vr 1) (aQ Γ (bE _))) (cx (vr 6) aJ fK) aI)) (aN (ce (gy (h8 (bh (aG (bC (vr 4) (vr 6) aI) (aQ Γ (Ad _))) aW (cw hb)) (gT (bh (aG (vr 7) (aQ Γ (dZ _))) aW (wI hb))))) (ap (aC (i:=2) rfl (az Γ (d5 _) (d4 _) (aa (vr 0) (aa (vr 7) (aa (vr 2) ak))) (hc .f_place_uses).call)) (aN (bS (cj (vr 5) (aa (vr 7) ak) cK F.slot_list_append F.type_list_append)))) (aN (aC (i:=2) rfl (az Γ (bo _) (bn _) (aa (vr 0) (aa (vr 7) (aa (vr 2) ak))) (hc .f_value_uses).call))))))) (ap (dk (i:=7) rfl (aH (vr 5)) (aN (aC (i:=2) rfl (az Γ (ft _) (fw _) (aa (vr 0) (aa (vr 7) (aa (vr 2) ak))) (hc .f_with_store).call)))) (aN (bl (vr 2)))))))))
theorem uh : cy prog w B b lC (aU (st 16)) (f0 c):=
 (ap (aC (i:=3) rfl (bC (aG (vr 1) (aQ Γ (bE _))) aJ aI)) (ap (ce (bh (aG (vr 1) (aQ Γ (cN _))) aW (cw hb)) (aN (bl (az Γ (bo _) (bn _) (aa (vr 0) (aa (vr 3) (aa (vr 2) ak))) (hc .f_value_uses).call))) bz) (ap (aC (i:=2) rfl (az Γ (d5 _) (d4 _) (aa (vr 0) (aa (vr 3) (aa (vr 2) ak))) (hc .f_place_uses).call)) (ap (dk (i:=4) rfl (aH (qJ (aG (vr 1) (aQ Γ (bE _))))) (aN (aC (i:=2) rfl (az Γ (bo _) (bn _) (aa (vr 0) (aa (vr 4) (aa (vr 2) ak))) (hc .f_value_uses).call)))) (ap (ce (bh (aG (vr 1) (aQ Γ (cN _))) aW (wI hb)) (aN (bS (az Γ (vM _) (vU _) (aa (vr 0) (aa (vr 3) (aa (vr 2) ak))) (hc .f_used).call))) bz) (aN (bl (az Γ (ft _) (fw _) (aa (vr 0) (aa (vr 3) (aa (vr 2) ak))) (hc .f_with_store).call))))))))
theorem oA : cy prog w B b iD (aU (st 17)) (dv c):=
 (ap (aC (i:=3) rfl (bw ak)) (ap (dk (i:=4) rfl (ee Γ (d7 _) boot_range (by decide) (aa aJ (aa (cx (c9 Γ (fc _) boot_len (by decide) (aa (aG (vr 1) (aQ Γ (bE _))) ak) gG) aJ xJ) (aa aJ ak))) fv) (ap (aC (i:=2) rfl (az Γ (bo _) (bn _) (aa (vr 0) (aa (bC (aG (vr 1) (aQ Γ (bE _))) (vr 4) aI) (aa (vr 2) ak))) (hc .f_value_uses).call)) (aN (bS (cj (vr 3) (aa (az Γ (bX _) (bY _) (aa (vr 0) (aa (bC (aG (vr 1) (aQ Γ (bE _))) (cx (vr 4) aJ fK) aI) (aa (vr 2) ak))) (hc .f_statement_uses).call) ak) cK F.slot_list_append F.type_list_append))))) (ap (ce (fo (aG (vr 1) (aQ Γ (cN _)))) (aN (aC (i:=2) rfl (az Γ (bX _) (bY _) (aa (vr 0) (aa (bC (aG (vr 1) (aQ Γ (bE _))) (Bu aJ wh) aI) (aa (vr 2) ak))) (hc .f_statement_uses).call))) bz) (ap (dk (i:=5) rfl (aH (vr 3)) (aN (aC (i:=2) rfl (cx (vr 2) (vr 5) yp)))) (aN (bl (vr 2)))))))
theorem pH : cy prog w B b jo (aU (st 18)) (e8 c):=
 (ap (dk (i:=3) rfl (ee Γ (d7 _) boot_range (by decide) (aa aJ (aa (c9 Γ (fc _) boot_len (by decide) (aa (aG (vr 1) (aQ Γ (bE _))) ak) gG) (aa aJ ak))) fv) (ap (aC (i:=2) rfl (az Γ (bo _) (bn _) (aa (vr 0) (aa (bC (aG (vr 1) (aQ Γ (bE _))) (vr 3) aI) (aa (vr 2) ak))) (hc .f_value_uses).call)) (aN (bS (az Γ (bX _) (bY _) (aa (vr 0) (aa (bC (aG (vr 1) (aQ Γ (bE _))) (cx (vr 3) aJ fK) aI) (aa (vr 2) ak))) (hc .f_statement_uses).call))))) (aN (bl (vr 2))))
theorem uK : cy prog w B b lF (aU (st 19)) (fY c):=
 (ap (zI (is:=[3,4,5,6]) (.cons rfl (.cons rfl (.cons rfl (.cons rfl .nil)))) (aG (vr 1) (aQ Γ (bE _)))) (ap (aC (i:=2) rfl (az Γ (bo _) (bn _) (aa (vr 0) (aa (vr 4) (aa (az Γ (d5 _) (d4 _) (aa (vr 0) (aa (vr 3) (aa (vr 2) ak))) (hc .f_place_uses).call) ak))) (hc .f_value_uses).call)) (ap (aC (i:=2) rfl (az Γ (bo _) (bn _) (aa (vr 0) (aa (vr 5) (aa (az Γ (ft _) (fw _) (aa (vr 0) (aa (vr 3) (aa (vr 2) ak))) (hc .f_with_store).call) ak))) (hc .f_value_uses).call)) (ap (bS (az Γ (bX _) (bY _) (aa (vr 0) (aa (vr 6) (aa (vr 2) ak))) (hc .f_statement_uses).call)) (aN (bl (vr 2)))))))
theorem rp : cy prog w B b jM (aU (st 20)) (fA c):=
 (ap (aC (i:=2) rfl (az Γ (bo _) (bn _) (aa (vr 0) (aa (bC (aG (vr 1) (aQ Γ (bE _))) aJ aI) (aa (vr 2) ak))) (hc .f_value_uses).call)) (ap (aC (i:=3) rfl (Bu aJ wh)) (ap (dk (i:=4) rfl (aH (qJ (aG (vr 1) (aQ Γ (bE _))))) (aN (aC (i:=3) rfl (cx (vr 3) (az Γ (bX _) (bY _) (aa (vr 0) (aa (vr 4) (aa (vr 2) ak))) (hc .f_statement_uses).call) yp)))) (aN (bl (vr 3))))))
theorem kU : cy prog w B b gp (aU (st 21)) (bj c):=
 (ap (aC (i:=3) rfl (aG (vr 1) (aQ Γ (dZ _)))) (ap (ce (bh (vr 3) aW (cw hb)) (ap (dk (i:=4) rfl (aG (vr 1) (aQ Γ (bE _))) (aN (aC (i:=2) rfl (az Γ (bX _) (bY _) (aa (vr 0) (aa (vr 4) (aa (vr 2) ak))) (hc .f_statement_uses).call)))) (aN (bl (vr 2)))) bz) (ap (ce (bh (vr 3) aW (cw hb)) (ap (aC (i:=2) rfl (az Γ (d5 _) (d4 _) (aa (vr 0) (aa (bC (aG (vr 1) (aQ Γ (bE _))) aJ aI) (aa (vr 2) ak))) (hc .f_place_uses).call)) (ap (aC (i:=2) rfl (az Γ (bo _) (bn _) (aa (vr 0) (aa (bC (aG (vr 1) (aQ Γ (bE _))) aJ aI) (aa (vr 2) ak))) (hc .f_value_uses).call)) (aN (bl (az Γ (ft _) (fw _) (aa (vr 0) (aa (bC (aG (vr 1) (aQ Γ (bE _))) aJ aI) (aa (vr 2) ak))) (hc .f_with_store).call))))) bz) (ap (ce (bh (vr 3) aW (cw hb)) (aN (bl (az Γ (kA _) (j5 _) (aa (vr 0) (aa (vr 1) (aa (vr 2) ak))) (hc .f_call_uses).call))) bz) (ap (ce (bh (vr 3) aW (cw hb)) (aN (bl (az Γ (tu _) (th _) (aa (vr 0) (aa (vr 1) (aa (vr 2) ak))) (hc .f_std_uses).call))) bz) (ap (ce (bh (vr 3) aW (cw hb)) (aN (bl (az Γ (nS _) (nC _) (aa (vr 0) (aa (vr 1) (aa (vr 2) ak))) (hc .f_branch_uses).call))) bz) (ap (ce (bh (vr 3) aW (cw hb)) (aN (bl (az Γ (oN _) (ou _) (aa (vr 0) (aa (vr 1) (aa (vr 2) ak))) (hc .f_while_uses).call))) bz) (ap (ce (bh (vr 3) aW (cw hb)) (aN (bl (az Γ (bo _) (bn _) (aa (vr 0) (aa (bC (aG (vr 1) (aQ Γ (bE _))) aJ aI) (aa (az Γ (bX _) (bY _) (aa (vr 0) (aa (bC (aG (vr 1) (aQ Γ (bE _))) aJ aI) (aa (vr 2) ak))) (hc .f_statement_uses).call) ak))) (hc .f_value_uses).call))) bz) (ap (ce (bh (vr 3) aW (cw hb)) (aN (bl (az Γ (tF _) (s9 _) (aa (vr 0) (aa (vr 1) (aa (vr 2) ak))) (hc .f_for_uses).call))) bz) (aN (bl (az Γ (pT _) (qG _) (aa (vr 0) (aa (vr 1) (aa (vr 2) ak))) (hc .f_case_uses).call))))))))))))
theorem pG : cy prog w B b jh (aU (st 22)) (eJ c):=
 (ap (aC (i:=1) rfl (az Γ (tx _) (so _) (aa (vr 0) ak) (hc .Follower).call)) (ap (aC (i:=2) rfl (az Γ (bX _) (bY _) (aa (vr 1) (aa (aG (vr 0) (aQ Γ (qV _))) (aa aJ ak))) (hc .f_statement_uses).call)) (ap (ce (bh (aG (vr 0) (aQ Γ (gP _))) db mY) (aN (bS (az Γ (bo _) (bn _) (aa (vr 1) (aa (aG (vr 0) (aQ Γ (gP _))) (aa (vr 2) ak))) (hc .f_value_uses).call))) bz) (aN (bl (uY (fr:=[(1, "st")]) (jL (by kernel_rfl)) (aH (c9 Γ (lc _) boot_sorted (by decide) (aa (aG (vr 1) (aQ Γ (nG _))) ak) (m8 hsys))) BR (pA (aa (vr 0) (aa (aG (bC (aG (vr 1) (aQ Γ (to _))) (bC (aG (vr 1) (aQ Γ (nG _))) (vr 0) aI) aI) (aQ Γ (vV _))) ak)))))))))
theorem rG : cy prog w B b km (aU (mt 24 0)) (gu c):=
 (ap (aZ (vr 0) (vr 1) (bm Γ (po _))) (ap (aZ (vr 0) (vr 2) (bm Γ (AA _))) (ap (aZ (vr 0) (vr 3) (bm Γ (zW _))) (ap (aZ (vr 0) db (bm Γ (vx _))) (ap (aZ (vr 0) aJ (bm Γ (wX _))) (ap (aZ (vr 0) (aH (bw ak)) (bm Γ (w9 _))) (ap (aZ (vr 0) aJ (bm Γ (gR _))) (ap (aZ (vr 0) (aH (bw ak)) (bm Γ (k0 _))) (ap (aZ (vr 0) aW (bm Γ (iZ _))) (ap (aZ (vr 0) aW (bm Γ (sm _))) (ap (aZ (vr 0) (aH (bw ak)) (bm Γ (w1 _))) (aN (aZ (vr 0) aJ (bm Γ (At _)))))))))))))))
theorem ue : cy prog w B b lA (aU (mt 25 0)) (hJ c):=
 (ap (aZ (vr 0) (vr 1) (bm Γ (AC _))) (ap (aZ (vr 0) (vr 2) (bm Γ (Bh _))) (ap (aZ (vr 0) (vr 3) (bm Γ (wl _))) (ap (aZ (vr 0) (vr 4) (bm Γ (sB _))) (ap (aZ (vr 0) iV (bm Γ (s4 _))) (ap (aZ (vr 0) iV (bm Γ (sH _))) (ap (aZ (vr 0) aJ (bm Γ (gR _))) (ap (aZ (vr 0) aW (bm Γ (iZ _))) (ap (aZ (vr 0) db (bm Γ (on _))) (ap (aZ (vr 0) aJ (bm Γ (vK _))) (ap (aZ (vr 0) aJ (bm Γ (w3 _))) (ap (aZ (vr 0) aJ (bm Γ (po _))) (ap (aZ (vr 0) iV (bm Γ (uW _))) (aN (aZ (vr 0) db (bm Γ (tA _)))))))))))))))))
theorem pM : cy prog w B b jr (aU (mt 26 0)) (fS c):=
 (ap (aZ (vr 0) aJ (bm Γ (nM _))) (ap (aZ (vr 0) jZ (bm Γ (y8 _))) (ap (aZ (vr 0) (aH (eX Γ (vr 0) (aa aW (aa aJ ak)) (hc .tnew).call (by kernel_rfl) (by kernel_rfl) (by kernel_rfl) (by kernel_rfl))) (bm Γ (uR _))) (ap (aZ (vr 0) (aH (eX Γ (vr 0) (aa aW (aa aJ ak)) (hc .tnew).call (by kernel_rfl) (by kernel_rfl) (by kernel_rfl) (by kernel_rfl))) (bm Γ (Bt _))) (ap (aZ (vr 0) (aH (eX Γ (vr 0) (aa aW (aa aJ ak)) (hc .tnew).call (by kernel_rfl) (by kernel_rfl) (by kernel_rfl) (by kernel_rfl))) (bm Γ (Az _))) (ap (aZ (vr 0) (aH (eX Γ (vr 0) (aa aW (aa aJ ak)) (hc .tnew).call (by kernel_rfl) (by kernel_rfl) (by kernel_rfl) (by kernel_rfl))) (bm Γ (uw _))) (ap (aZ (vr 0) (aH (eX Γ (vr 0) (aa aW (aa aJ ak)) (hc .tnew).call (by kernel_rfl) (by kernel_rfl) (by kernel_rfl) (by kernel_rfl))) (bm Γ (A5 _))) (ap (aZ (vr 0) (aH (eX Γ (vr 0) (aa aW (aa aJ ak)) (hc .tnew).call (by kernel_rfl) (by kernel_rfl) (by kernel_rfl) (by kernel_rfl))) (bm Γ (DG _))) (aN (aZ (vr 0) (aH (eX Γ (vr 0) (aa aW (aa aJ ak)) (hc .tnew).call (by kernel_rfl) (by kernel_rfl) (by kernel_rfl) (by kernel_rfl))) (bm Γ (AS _))))))))))))
theorem rN : cy prog w B b jJ (aU (mt 26 1)) (gx c):=
 (ap (wU (vr 0) (aQ Γ (m7 _)) aJ zE (bm Γ (nM _))) (ap (aC (i:=5) rfl (az Γ (Bg _) (An _) (aa (aG (vr 0) (aQ Γ (m7 _))) (aa (vr 1) (aa (vr 2) ak))) (hc .Type).call)) (ap (aZ (vr 5) (vr 3) (bm Γ (iZ _))) (ap (aZ (vr 5) (vr 4) (bm Γ (sm _))) (ap (ce (bh (vr 4) aW (wI hb)) (aN (lw (aG (vr 0) (aQ Γ (y9 _))) (pA (aa (vr 3) (aa (vr 4) ak))) (vr 5) lU)) bz) (aN (bl (vr 5))))))))
theorem ur : cy prog w B b lL (aU (st 28)) (fX c):=
 (ap (aC (i:=1) rfl (bw ak)) (ap (dk (i:=2) rfl (aH (xG (vr 0))) (ap (aC (i:=3) rfl (y3 (bh (vr 2) aJ CD) (vr 2) (cx aJ (cx aJ (vr 2) xP) xJ))) (aN (dk (i:=4) rfl (ee Γ (d7 _) boot_range (by decide) (aa aJ ak) fv) (ap (bS (cj (vr 1) (aa (cx (vr 3) aJ Bz) ak) cK F.slot_list_append F.type_list_append)) (ap (aC (i:=3) rfl (cx (vr 3) aJ B0)) (aN (ce (bh (vr 3) aJ (cw hb)) (aN Fu) bz)))))))) (ap (aC (i:=1) rfl (xG (vr 1))) (ap (bS (cj (vr 1) ak xb F.slot_list_reverse F.type_list_reverse)) (aN (bl (vr 1)))))))
theorem u7 : cy prog w B b lR (aU (st 29)) (gf c):=
 (aN (bl (y3 (bh (vr 0) (bw ak) (wI hb)) (cx (cj (vr 0) ak x6 F.slot_list_pop F.type_list_pop) (vr 1) Bz) aJ)))
theorem sr : cy prog w B b jS (aU (st 30)) (gq c):=
 (ap (pg (vr 0) aW uT aJ zE lU) (aN (bl (bC (vr 0) aW aI))))
theorem wo : cy prog w B b nA (aU (st 31)) (gL c):=
 (aN (bl (aH (az Γ (cO _) (cP _) (aa aW (aa (az Γ (cv _) (cq _) (aa (vr 0) ak) (hc .f_law_place).call) (aa (aG (bC (vr 0) aW aI) (aQ Γ (ej _))) (aa (aH (bw ak)) (aa (bC (bC (vr 0) aW aI) (vr 1) aI) ak))))) (hc .Node).call))))
theorem tC : cy prog w B b kc (aU (st 32)) (fy c):=
 (ap (aC (i:=2) rfl (az Γ (bp _) (bq _) (aa (vr 1) (aa aJ ak)) (hc .f_law_draw).call)) (ap (ce (bh (vr 2) aJ (cw hb)) (ap (aC (i:=3) rfl (az Γ (dd _) (dg _) (aa (vr 0) (aa (az Γ (bp _) (bq _) (aa (vr 1) (aa aJ ak)) (hc .f_law_draw).call) ak)) (hc .f_law_var).call)) (aN (bl (aH (az Γ (cO _) (cP _) (aa aW (aa (az Γ (cv _) (cq _) (aa (vr 0) ak) (hc .f_law_place).call) (aa (aG (bC (vr 0) aW aI) (aQ Γ (ej _))) (aa (aH (bw (aa (vr 3) (aa (az Γ (dd _) (dg _) (aa (vr 0) (aa (az Γ (bp _) (bq _) (aa (vr 1) (aa aJ ak)) (hc .f_law_draw).call) ak)) (hc .f_law_var).call) ak)))) ak)))) (hc .Node).call))))) bz) (ap (ce (bh (vr 2) aJ (cw hb)) (aN (bl (az Γ (rP _) (rV _) (aa (aG (bC (vr 0) aW aI) (aQ Γ (ej _))) (aa aJ (aa (az Γ (cv _) (cq _) (aa (vr 0) ak) (hc .f_law_place).call) ak))) (hc .f_const).call))) bz) (aN (bl (az Γ (dd _) (dg _) (aa (vr 0) (aa (az Γ (bp _) (bq _) (aa (vr 1) (aa aJ ak)) (hc .f_law_draw).call) ak)) (hc .f_law_var).call))))))
theorem um : cy prog w B b lT (aU (st 33)) (gc c):=
 (ap (aC (i:=2) rfl (aG (bC (vr 0) aW aI) (aQ Γ (vd _)))) (ap (aC (i:=3) rfl (aH (az Γ (cO _) (cP _) (aa aW (aa (az Γ (cv _) (cq _) (aa (vr 0) ak) (hc .f_law_place).call) (aa (vr 2) (aa (aH (bw (aa (az Γ (bZ _) (b4 _) (aa (vr 0) (aa (vr 1) ak)) (hc .f_law_value).call) (aa (az Γ (bZ _) (b4 _) (aa (vr 0) (aa (vr 1) ak)) (hc .f_law_value).call) ak)))) ak)))) (hc .Node).call))) (ap (aC (i:=4) rfl (az Γ (bp _) (bq _) (aa (vr 1) (aa aJ ak)) (hc .f_law_draw).call)) (ap (ce (bh (vr 4) aJ DF) (aN (bl (vr 3))) bz) (ap (aC (i:=5) rfl (aH (az Γ (cO _) (cP _) (aa aW (aa (az Γ (cv _) (cq _) (aa (vr 0) ak) (hc .f_law_place).call) (aa (vr 2) (aa (aH (bw (aa (az Γ (bZ _) (b4 _) (aa (vr 0) (aa (vr 1) ak)) (hc .f_law_value).call) (aa (az Γ (bZ _) (b4 _) (aa (vr 0) (aa (vr 1) ak)) (hc .f_law_value).call) ak)))) ak)))) (hc .Node).call))) (aN (bl (aH (az Γ (cO _) (cP _) (aa (y3 (bh (vr 4) aJ (cw hb)) aW aW) (aa (az Γ (cv _) (cq _) (aa (vr 0) ak) (hc .f_law_place).call) (aa (vr 2) (aa (aH (bw (aa (vr 3) (aa (vr 5) ak)))) ak)))) (hc .Node).call)))))))))
theorem sC : cy prog w B b kq (aU (st 34)) (fG c):=
 (ap (qz (i:=3) rfl (by kernel_rfl) (fr:=[(0, "book"),(1, "pool"),(2, "deep")]) (jL (by kernel_rfl)) (ee Γ (d7 _) boot_range (by decide) (aa (cx aJ (az Γ (bp _) (bq _) (aa (vr 1) (aa aJ ak)) (hc .f_law_draw).call) fK) ak) fv) BR (az Γ (qb _) (qt _) (aa (vr 1) (aa (vr 2) (aa (vr 3) ak))) (hc .f_law_deed).call) (by kernel_rfl) (by kernel_rfl)) (aN (bl (aH (az Γ (cO _) (cP _) (aa aW (aa (az Γ (cv _) (cq _) (aa (vr 0) ak) (hc .f_law_place).call) (aa db (aa (aH (vr 3)) ak)))) (hc .Node).call)))))
theorem uX : cy prog w B b l9 (aU (st 35)) (f7 c):=
 (ap (aC (i:=4) rfl (bw ak)) (ap (dk (i:=5) rfl (ee Γ (d7 _) boot_range (by decide) (aa (vr 3) ak) fv) (ap (bS (cj (vr 4) (aa (az Γ (kB _) (jP _) (aa (vr 0) (aa (vr 1) ak)) (hc .f_law_test).call) ak) cK F.slot_list_append F.type_list_append)) (aN (bS (cj (vr 4) (aa (az Γ (cX _) (cW _) (aa (vr 0) (aa (vr 1) (aa (cx (vr 2) aJ fK) ak))) (hc .f_law_block).call) ak) cK F.slot_list_append F.type_list_append))))) (aN (bl (vr 4)))))
theorem uN : cy prog w B b lX (aU (st 36)) (f5 c):=
 (ap (pg (vr 0) aW uT aJ Dj lU) (ap (aC (i:=3) rfl (az Γ (bp _) (bq _) (aa (vr 1) (aa (y3 (gy (h8 (bh (vr 2) aJ DF) (gT (bh (bC (vr 0) aW aI) aJ DB)))) aJ aJ) ak)) (hc .f_law_draw).call)) (ap (aC (i:=4) rfl (az Γ (cv _) (cq _) (aa (vr 0) ak) (hc .f_law_place).call)) (ap (ce (bh (vr 3) aJ (cw hb)) (ap (aC (i:=9) rfl (az Γ (dd _) (dg _) (aa (vr 0) (aa (az Γ (bp _) (bq _) (aa (vr 1) (aa aJ ak)) (hc .f_law_draw).call) ak)) (hc .f_law_var).call)) (aN (bl (aH (az Γ (cO _) (cP _) (aa aW (aa (vr 4) (aa db (aa (aH (bw (aa (vr 9) (aa (az Γ (bZ _) (b4 _) (aa (vr 0) (aa (vr 1) ak)) (hc .f_law_value).call) ak)))) ak)))) (hc .Node).call))))) bz) (ap (ce (bh (vr 3) aJ (cw hb)) (ap (aC (i:=9) rfl (az Γ (dd _) (dg _) (aa (vr 0) (aa (az Γ (bp _) (bq _) (aa (vr 1) (aa aJ ak)) (hc .f_law_draw).call) ak)) (hc .f_law_var).call)) (aN (bl (aH (az Γ (cO _) (cP _) (aa aW (aa (vr 4) (aa db (aa (aH (bw (aa (vr 9) (aa (az Γ (bZ _) (b4 _) (aa (vr 0) (aa (vr 1) ak)) (hc .f_law_value).call) ak)))) (aa aW ak))))) (hc .Node).call))))) bz) (ap (ce (bh (vr 3) aJ (cw hb)) (ap (aC (i:=10) rfl (aH (az Γ (cO _) (cP _) (aa aW (aa (az Γ (cv _) (cq _) (aa (vr 0) ak) (hc .f_law_place).call) (aa (aG (bC (vr 0) aW aI) (aQ Γ (qv _))) (aa (aH (bw ak)) (aa (bC (vr 0) aW aI) ak))))) (hc .Node).call))) (ap (aC (i:=11) rfl (az Γ (dd _) (dg _) (aa (vr 0) (aa (az Γ (bp _) (bq _) (aa (vr 1) (aa aJ ak)) (hc .f_law_draw).call) ak)) (hc .f_law_var).call)) (aN (bl (aH (az Γ (cO _) (cP _) (aa aW (aa (vr 4) (aa db (aa (aH (bw (aa (vr 10) (aa (vr 11) (aa (az Γ (bZ _) (b4 _) (aa (vr 0) (aa (vr 1) ak)) (hc .f_law_value).call) ak))))) ak)))) (hc .Node).call)))))) bz) (ap (ce (gy (p8 (bh (vr 3) aJ (cw hb)) (mJ (bh (vr 3) aJ (cw hb))))) (ap (aC (i:=5) rfl (az Γ (jY _) (j3 _) (aa (vr 0) (aa (vr 1) (aa (vr 2) (aa (cx aJ (az Γ (bp _) (bq _) (aa (vr 1) (aa aJ ak)) (hc .f_law_draw).call) fK) ak)))) (hc .f_law_arms).call)) (ap (aC (i:=8) rfl (ss (az Γ (bp _) (bq _) (aa (vr 1) (aa aJ ak)) (hc .f_law_draw).call) aJ (cw hb))) (ap (ce (fo (vr 8)) (aN (bS (cj (vr 5) (aa (az Γ (cX _) (cW _) (aa (vr 0) (aa (vr 1) (aa (cx (vr 2) aJ fK) ak))) (hc .f_law_block).call) ak) cK F.slot_list_append F.type_list_append))) bz) (aN (bl (aH (az Γ (cO _) (cP _) (aa aW (aa (vr 4) (aa db (aa (aH (vr 5)) (aa (vr 8) ak))))) (hc .Node).call))))))) bz) (ap (ce (bh (vr 3) aJ (cw hb)) (aN (bl (aH (az Γ (cO _) (cP _) (aa aW (aa (vr 4) (aa db (aa (aH (az Γ (jY _) (j3 _) (aa (vr 0) (aa (vr 1) (aa (vr 2) (aa (cx aJ (az Γ (bp _) (bq _) (aa (vr 1) (aa aJ ak)) (hc .f_law_draw).call) fK) ak)))) (hc .f_law_arms).call)) ak)))) (hc .Node).call)))) bz) (ap (ce (bh (vr 3) aJ (cw hb)) (ap (aC (i:=12) rfl (az Γ (cX _) (cW _) (aa (vr 0) (aa (vr 1) (aa (cx (vr 2) aJ fK) ak))) (hc .f_law_block).call)) (aN (bl (aH (az Γ (cO _) (cP _) (aa aW (aa (vr 4) (aa db (aa (aH (bw (aa (vr 12) (aa (az Γ (kB _) (jP _) (aa (vr 0) (aa (vr 1) ak)) (hc .f_law_test).call) ak)))) ak)))) (hc .Node).call))))) bz) (ap (ce (bh (vr 3) aJ (cw hb)) (ap (aC (i:=5) rfl (bw (aa (az Γ (dd _) (dg _) (aa (vr 0) (aa (az Γ (bp _) (bq _) (aa (vr 1) (aa aJ ak)) (hc .f_law_draw).call) ak)) (hc .f_law_var).call) (aa (az Γ (bZ _) (b4 _) (aa (vr 0) (aa (vr 1) ak)) (hc .f_law_value).call) (aa (az Γ (bZ _) (b4 _) (aa (vr 0) (aa (vr 1) ak)) (hc .f_law_value).call) ak))))) (aN (bl (aH (az Γ (cO _) (cP _) (aa aW (aa (vr 4) (aa db (aa (aH (cx (vr 5) (bw (aa (az Γ (cX _) (cW _) (aa (vr 0) (aa (vr 1) (aa (cx (vr 2) aJ fK) ak))) (hc .f_law_block).call) ak)) uD)) (aa aJ ak))))) (hc .Node).call))))) bz) (ap (aC (i:=5) rfl (bw (aa (az Γ (bZ _) (b4 _) (aa (vr 0) (aa (vr 1) ak)) (hc .f_law_value).call) ak))) (ap (aC (i:=6) rfl (bw ak)) (ap (dk (i:=7) rfl (ee Γ (d7 _) boot_range (by decide) (aa (cx aJ (az Γ (bp _) (bq _) (aa (vr 1) (aa aJ ak)) (hc .f_law_draw).call) fK) ak) fv) (ap (bS (cj (vr 6) (aa (aH (bw (aa (pA (aa (vr 7) (aa (vr 7) ak))) ak))) ak) cK F.slot_list_append F.type_list_append)) (aN (bS (cj (vr 5) (aa (az Γ (cX _) (cW _) (aa (vr 0) (aa (vr 1) (aa (cx (vr 2) aJ fK) ak))) (hc .f_law_block).call) ak) cK F.slot_list_append F.type_list_append))))) (ap (aC (i:=8) rfl (ss (az Γ (bp _) (bq _) (aa (vr 1) (aa aJ ak)) (hc .f_law_draw).call) aJ (cw hb))) (ap (ce (fo (vr 8)) (aN (bS (cj (vr 5) (aa (az Γ (cX _) (cW _) (aa (vr 0) (aa (vr 1) (aa (cx (vr 2) aJ fK) ak))) (hc .f_law_block).call) ak) cK F.slot_list_append F.type_list_append))) bz) (aN (bl (aH (az Γ (cO _) (cP _) (aa aW (aa (vr 4) (aa db (aa (aH (vr 5)) (aa (pA (aa (vr 6) (aa (vr 8) ak))) ak))))) (hc .Node).call)))))))))))))))))))
theorem u5 : cy prog w B b lJ (aU (st 37)) (eA c):=
 (ap (ce (bh (aG (vr 0) (aQ Γ (dZ _))) aW (cw hb)) (ap (dk (i:=4) rfl (vr 1) (aN (ce (bh (aG (aG (vr 0) (aQ Γ (cN _))) (aQ Γ (eO _))) (vr 4) (mT hsys hb)) (aN (lw (vr 2) (aG (vr 0) (aQ Γ (tr _))) (aG (vr 0) (aQ Γ (cN _))) lU)) bz))) (aN Cs)) bz) (aN (dk (i:=3) rfl (aG (vr 0) (aQ Γ (bE _))) (aN (bS (az Γ (b5 _) (b6 _) (aa (vr 3) (aa (vr 1) (aa (vr 2) ak))) (hc .f_law_uses).call))))))
theorem qu : cy prog w B b jm (aU (st 38)) (eT c):=
 (ap (aC (i:=2) rfl (bw ak)) (ap (dk (i:=3) rfl (vr 0) (ap (aC (i:=4) rfl (c9 Γ (lc _) boot_sorted (by decide) (aa (cx (uY (fr:=[(1, "spot")]) (jL (by kernel_rfl)) (vr 3) (BE (bh (vr 0) (vr 1) (wI hb))) (vr 0)) (bw (aa (vr 1) ak)) uD) ak) (m8 hsys))) (aN (ce (bh (vr 4) (vr 2) (mT hsys hb)) (aN (bS (cj (vr 2) (aa (aH (vr 4)) ak) cK F.slot_list_append F.type_list_append))) bz)))) (aN (bl (aH (vr 2))))))
theorem qN : cy prog w B b jj (aU (st 39)) (eU c):=
 (aN (bl (aH (cx (vr 0) (uY (fr:=[(0, "one")]) (jL (by kernel_rfl)) (vr 1) (BE (bh (vr 0) (vr 1) (mT hsys hb))) (vr 0)) uD))))
theorem u1 : cy prog w B b lB (aU (st 40)) (cg c):=
 (ap (ce (bh (vr 1) (bw ak) (cw hb)) (aN (bl (aH (bw ak)))) bz) (ap (aC (i:=3) rfl (aG (vr 0) (aQ Γ (bE _)))) (ap (ce (bh (aG (vr 0) (aQ Γ (dZ _))) aW (cw hb)) (ap (dk (i:=4) rfl (vr 3) (aN (aC (i:=1) rfl (az Γ (cD _) (cC _) (aa (vr 4) (aa (vr 1) (aa (vr 2) ak))) (hc .f_law_ways).call)))) (aN (bl (vr 1)))) bz) (ap (ce (bh (aG (vr 0) (aQ Γ (dZ _))) aW (cw hb)) (ap (bS (az Γ (b5 _) (b6 _) (aa (bC (vr 3) aJ aI) (aa (vr 1) (aa (vr 2) ak))) (hc .f_law_uses).call)) (aN (bl (az Γ (eR _) (eL _) (aa (vr 1) (aa (aG (aG (bC (vr 3) aJ aI) (aQ Γ (cN _))) (aQ Γ (eO _))) ak)) (hc .f_law_stored).call)))) bz) (ap (ce (bh (aG (vr 0) (aQ Γ (dZ _))) aW (cw hb)) (ap (bS (az Γ (b5 _) (b6 _) (aa (bC (vr 3) aJ aI) (aa (vr 1) (aa (vr 2) ak))) (hc .f_law_uses).call)) (ap (bS (az Γ (b5 _) (b6 _) (aa (bC (vr 3) aJ aI) (aa (vr 1) (aa (vr 2) ak))) (hc .f_law_uses).call)) (aN (bl (az Γ (eR _) (eL _) (aa (vr 1) (aa (aG (aG (bC (vr 3) aJ aI) (aQ Γ (cN _))) (aQ Γ (eO _))) ak)) (hc .f_law_stored).call))))) bz) (ap (ce (bh (aG (vr 0) (aQ Γ (dZ _))) aW (cw hb)) (ap (bS (az Γ (b5 _) (b6 _) (aa (bC (vr 3) aJ aI) (aa (vr 1) (aa (vr 2) ak))) (hc .f_law_uses).call)) (aN (bl (az Γ (eR _) (eL _) (aa (vr 1) (aa (aG (aG (bC (vr 3) aJ aI) (aQ Γ (cN _))) (aQ Γ (eO _))) ak)) (hc .f_law_stored).call)))) bz) (ap (ce (bh (aG (vr 0) (aQ Γ (dZ _))) aW (cw hb)) (ap (aC (i:=5) rfl (aH (bw ak))) (ap (dk (i:=6) rfl (ee Γ (d7 _) boot_range (by decide) (aa (cx (c9 Γ (fc _) boot_len (by decide) (aa (vr 3) ak) gG) aJ B0) ak) fv) (ap (bS (az Γ (b5 _) (b6 _) (aa (bC (vr 3) (cx aJ (vr 6) xP) aI) (aa (vr 1) (aa (vr 2) ak))) (hc .f_law_uses).call)) (aN (aC (i:=5) rfl (az Γ (da _) (dc _) (aa (vr 5) (aa (az Γ (cD _) (cC _) (aa (bC (vr 3) (cx (cx aJ (vr 6) xP) aJ fK) aI) (aa (vr 1) (aa (vr 2) ak))) (hc .f_law_ways).call) ak)) (hc .f_law_joined).call))))) (ap (aC (i:=7) rfl (y3 (fo (aG (vr 0) (aQ Γ (cN _)))) (az Γ (cD _) (cC _) (aa (bC (vr 3) (Bu aJ wh) aI) (aa (vr 1) (aa (vr 2) ak))) (hc .f_law_ways).call) (vr 1))) (aN (bl (az Γ (da _) (dc _) (aa (vr 5) (aa (vr 7) ak)) (hc .f_law_joined).call)))))) bz) (ap (ce (bh (aG (vr 0) (aQ Γ (dZ _))) aW (cw hb)) (ap (bS (az Γ (b5 _) (b6 _) (aa (bC (vr 3) aJ aI) (aa (vr 1) (aa (vr 2) ak))) (hc .f_law_uses).call)) (ap (aC (i:=5) rfl (aH (bw ak))) (ap (dk (i:=4) rfl (aH (qJ (vr 3))) (aN (aC (i:=5) rfl (az Γ (da _) (dc _) (aa (vr 5) (aa (az Γ (cD _) (cC _) (aa (vr 4) (aa (vr 1) (aa (vr 2) ak))) (hc .f_law_ways).call) ak)) (hc .f_law_joined).call)))) (aN (bl (vr 5)))))) bz) (aN (bl (az Γ (oJ _) (oP _) (aa (vr 0) (aa (vr 1) (aa (vr 2) ak))) (hc .f_law_turns).call)))))))))))
theorem sk : cy prog w B b kn (aU (st 41)) (dI c):=
 (ap (aC (i:=3) rfl (aG (vr 0) (aQ Γ (bE _)))) (ap (ce (bh (aG (vr 0) (aQ Γ (dZ _))) aW (cw hb)) (ap (aC (i:=4) rfl (az Γ (cD _) (cC _) (aa (bC (vr 3) aJ aI) (aa (vr 1) (aa (vr 2) ak))) (hc .f_law_ways).call)) (aN (jc 1000 (fo iV) (ap (bS (az Γ (b5 _) (b6 _) (aa (bC (vr 3) aJ aI) (aa (vr 4) (aa (vr 2) ak))) (hc .f_law_uses).call)) (ap (aC (i:=5) rfl (az Γ (da _) (dc _) (aa (vr 4) (aa (az Γ (cD _) (cC _) (aa (bC (vr 3) aJ aI) (aa (vr 4) (aa (vr 2) ak))) (hc .f_law_ways).call) ak)) (hc .f_law_joined).call)) (ap (ce (bh (c9 Γ (fc _) boot_len (by decide) (aa (vr 5) ak) gG) (c9 Γ (fc _) boot_len (by decide) (aa (vr 4) ak) gG) (cw hb)) (aN (bl (vr 4))) bz) (aN (aC (i:=4) rfl (vr 5))))))))) bz) (ap (ce (bh (aG (vr 0) (aQ Γ (dZ _))) aW (cw hb)) (ap (bS (az Γ (b5 _) (b6 _) (aa (bC (vr 3) aJ aI) (aa (vr 1) (aa (vr 2) ak))) (hc .f_law_uses).call)) (ap (aC (i:=4) rfl (az Γ (eR _) (eL _) (aa (vr 1) (aa (aG (aG (bC (vr 3) aJ aI) (aQ Γ (cN _))) (aQ Γ (eO _))) ak)) (hc .f_law_stored).call)) (aN (jc 1000 (fo iV) (ap (bS (az Γ (b5 _) (b6 _) (aa (bC (vr 3) aJ aI) (aa (vr 4) (aa (vr 2) ak))) (hc .f_law_uses).call)) (ap (aC (i:=5) rfl (az Γ (da _) (dc _) (aa (vr 4) (aa (az Γ (cD _) (cC _) (aa (bC (vr 3) aJ aI) (aa (vr 4) (aa (vr 2) ak))) (hc .f_law_ways).call) ak)) (hc .f_law_joined).call)) (ap (ce (bh (c9 Γ (fc _) boot_len (by decide) (aa (vr 5) ak) gG) (c9 Γ (fc _) boot_len (by decide) (aa (vr 4) ak) gG) (cw hb)) (aN (bl (vr 4))) bz) (aN (aC (i:=4) rfl (vr 5)))))))))) bz) (ap (aC (i:=4) rfl (vr 1)) (aN (jc 1000 (fo iV) (ap (aC (i:=5) rfl (vr 4)) (ap (dk (i:=6) rfl (ee Γ (d7 _) boot_range (by decide) (aa aJ (aa (c9 Γ (fc _) boot_len (by decide) (aa (vr 3) ak) gG) (aa aJ ak))) fv) (ap (bS (az Γ (b5 _) (b6 _) (aa (bC (vr 3) (vr 6) aI) (aa (vr 4) (aa (vr 2) ak))) (hc .f_law_uses).call)) (aN (aC (i:=5) rfl (az Γ (da _) (dc _) (aa (vr 5) (aa (az Γ (cD _) (cC _) (aa (bC (vr 3) (cx (vr 6) aJ fK) aI) (aa (vr 4) (aa (vr 2) ak))) (hc .f_law_ways).call) ak)) (hc .f_law_joined).call))))) (ap (ce (bh (c9 Γ (fc _) boot_len (by decide) (aa (vr 5) ak) gG) (c9 Γ (fc _) boot_len (by decide) (aa (vr 4) ak) gG) (cw hb)) (aN (bl (vr 4))) bz) (aN (aC (i:=4) rfl (vr 5))))))))))))
theorem Gb : cy prog w B b zn (aU (st 42)) (tP c):=
 (ap (aC (i:=1) rfl (az Γ (qK _) (pK _) (aa (vr 0) ak) (hc .f_law_pool).call)) (ap (aC (i:=2) rfl (AO Γ (xn _) (zu _) (hc .Types).call)) (ap (aC (i:=3) rfl (Aa (qm (vr 2) (qm aJ (qm aJ (qm (bw ak) Ea)))))) (ap (dk (i:=4) rfl (ee Γ (d7 _) boot_range (by decide) (aa aJ ak) fv) (ap (aC (i:=14) rfl (az Γ (k8 _) (kR _) (aa (bC aW (vr 4) aI) (aa aW (aa (aG (vr 2) (aQ Γ (ej _))) (aa aJ ak)))) (hc .Obj).call)) (ap (aZ (vr 14) aJ (bm Γ (gR _))) (ap (aZ (vr 14) (vr 4) (bm Γ (vK _))) (aN (bS (cj (bC (vr 3) aW aI) (aa (aH (vr 14)) ak) cK F.slot_list_append F.type_list_append))))))) (ap (aC (i:=5) rfl (eX Γ (vr 2) (aa aW (aa aJ ak)) (hc .tnew).call (by kernel_rfl) (by kernel_rfl) (by kernel_rfl) (by kernel_rfl))) (ap (aZ (vr 5) (aG (vr 2) (aQ Γ (AT _))) (bm Γ (vx _))) (ap (aC (i:=6) rfl (az Γ (k8 _) (kR _) (aa aW (aa aW (aa (aG (vr 2) (aQ Γ (ej _))) (aa aJ ak)))) (hc .Obj).call)) (ap (Gc 5 (aZ (vr 5) (aH (bw (aa (aH (vr 6)) (aa (aH (az Γ (k8 _) (kR _) (aa aW (aa aW (aa (aG (vr 2) (aQ Γ (ej _))) (aa aJ ak)))) (hc .Obj).call)) ak)))) (bm Γ (k0 _)))) (ap (aC (i:=7) rfl (az Γ (k8 _) (kR _) (aa aW (aa aW (aa (vr 5) (aa aJ ak)))) (hc .Obj).call)) (ap (aZ (vr 7) aW (bm Γ (iZ _))) (ap (aZ (vr 7) aW (bm Γ (on _))) (ap (lw (vr 3) aW (aH (vr 7)) lU) (ap (aC (i:=8) rfl (az Γ (lZ _) (lY _) (aa (az Γ (k8 _) (kR _) (aa aW (aa aW (aa (vr 5) (aa aJ ak)))) (hc .Obj).call) ak) (hc .ProcTree).call)) (ap (aZ (vr 8) (aH (ee Γ (vo _) boot_list (by decide) (aa (bC (vr 3) aW aI) ak) yS)) (bm Γ (pf _))) (ap (aC (i:=9) rfl (ss (az Γ (bp _) (bq _) (aa (vr 1) (aa aJ ak)) (hc .f_law_draw).call) aJ (cw hb))) (ap (ce (fo (vr 9)) (ap (aC (i:=15) rfl (az Γ (lZ _) (lY _) (aa (az Γ (k8 _) (kR _) (aa aW (aa aW (aa (vr 5) (aa aJ ak)))) (hc .Obj).call) ak) (hc .ProcTree).call)) (ap (aZ (vr 15) aJ (bm Γ (gR _))) (ap (aZ (vr 15) (aH (az Γ (cO _) (cP _) (aa aW (aa aJ (aa db (aa (aH (bw (aa (aH (az Γ (cO _) (cP _) (aa aW (aa aJ (aa db (aa (aH (bw (aa (az Γ (dd _) (dg _) (aa (vr 3) (aa aJ ak)) (hc .f_law_var).call) (aa (az Γ (rP _) (rV _) (aa (aG (vr 2) (aQ Γ (ej _))) (aa aJ (aa aJ ak))) (hc .f_const).call) ak)))) ak)))) (hc .Node).call)) ak))) ak)))) (hc .Node).call)) (bm Γ (pO _))) (aN (aZ (vr 8) (aH (bw (aa (vr 15) ak))) (bm Γ (s7 _))))))) bz) (ap (aZ (vr 8) (az Γ (cX _) (cW _) (aa (vr 3) (aa (vr 1) (aa aJ ak))) (hc .f_law_block).call) (bm Γ (pO _))) (ap (ce (bh (az Γ (bp _) (bq _) (aa (vr 1) (aa aJ ak)) (hc .f_law_draw).call) aJ (cw hb)) (aN (aZ (vr 8) (az Γ (bZ _) (b4 _) (aa (vr 3) (aa (vr 1) ak)) (hc .f_law_value).call) (bm Γ (pz _)))) bz) (ap (aC (i:=10) rfl jZ) (ap (aC (i:=11) rfl (az Γ (cD _) (cC _) (aa (aG (vr 8) (aQ Γ (qV _))) (aa (aH (bw (aa (aH (bw ak)) ak))) (aa (vr 10) ak))) (hc .f_law_ways).call)) (ap (ce (bh (aG (vr 8) (aQ Γ (gP _))) db mY) (aN (bS (az Γ (b5 _) (b6 _) (aa (aG (vr 8) (aQ Γ (gP _))) (aa (vr 11) (aa (vr 10) ak))) (hc .f_law_uses).call))) bz) (ap (aC (i:=12) rfl (bw ak)) (ap (dk (i:=13) rfl (aH (c9 Γ (lc _) boot_sorted (by decide) (aa (vr 10) ak) (m8 hsys))) (aN (ce (gy (p8 (Eu (fo (vr 9))) (mJ (bh (aG (bC (vr 10) (vr 13) aI) (aQ Γ (eO _))) aJ (wI hb))))) (aN (bS (cj (vr 12) (aa (pA (aa (vr 13) (aa (aG (bC (vr 10) (vr 13) aI) (aQ Γ (vV _))) ak))) ak) cK F.slot_list_append F.type_list_append))) bz))) (aN (bl (ss (az Γ (oG _) (oR _) (aa (vr 8) ak) (hc .f_unset_uses).call) (vr 12) (cw hb)))))))))))))))))))))))))))
end
end Mine
end
section
namespace Mine
section
variable {prog : Program} {w : World} {B : Heap} {b : Nat} {P : Params} {p : Program} {loose : List Str} {mg mb : Str → Option Value}
theorem qc : (kF P).lookup 29 = some (BN P):=by kernel_rfl
theorem x3 : (kF P).lookup 43 = some (BU P):=by kernel_rfl
theorem kX : (kF P).lookup 57 = some (BV P):=by kernel_rfl
theorem sW : (kF P).lookup 71 = some (B2 P):=by kernel_rfl
theorem qE : (kF P).lookup 78 = some (B5 P):=by kernel_rfl
theorem np : (kF P).lookup 85 = some (BH P):=by kernel_rfl
theorem rR : (kF P).lookup 92 = some (BI P):=by kernel_rfl
theorem kW : (kF P).lookup 106 = some (zC P):=by kernel_rfl
theorem jg : (kF P).lookup 113 = some (xS P):=by kernel_rfl
theorem Ak : (kF P).lookup 127 = some (ya P):=by kernel_rfl
theorem ow : (kF P).lookup 134 = some (zO P):=by kernel_rfl
theorem oH : (kF P).lookup 141 = some (x0 P):=by kernel_rfl
theorem oE : (kF P).lookup 148 = some (yX P):=by kernel_rfl
theorem pP : (kF P).lookup 155 = some (yU P):=by kernel_rfl
theorem ru : (kF P).lookup 162 = some (y4 P):=by kernel_rfl
theorem nE : (kF P).lookup 169 = some (yC P):=by kernel_rfl
theorem or : (kF P).lookup 176 = some (y0 P):=by kernel_rfl
theorem se : (kF P).lookup 183 = some (zH P):=by kernel_rfl
theorem qD : (kF P).lookup 190 = some (y7 P):=by kernel_rfl
theorem jT : (kF P).lookup 197 = some (xY P):=by kernel_rfl
theorem oy : (kF P).lookup 202 = some (zk P):=by kernel_rfl
theorem pR : (kF P).lookup 216 = some (x8 P):=by kernel_rfl
theorem sT : (kF P).lookup 237 = some (xj P):=by kernel_rfl
theorem oO : (kF P).lookup 258 = some (xv P):=by kernel_rfl
theorem qn : (kF P).lookup 266 = some (x9 P):=by kernel_rfl
theorem rj : (kF P).lookup 287 = some (zj P):=by kernel_rfl
theorem rh : (kF P).lookup 294 = some (za P):=by kernel_rfl
theorem qp : (kF P).lookup 301 = some (yW P):=by kernel_rfl
theorem uF : (kF P).lookup 308 = some (xf P):=by kernel_rfl
theorem qd : (kF P).lookup 315 = some (xK P):=by kernel_rfl
theorem sj : (kF P).lookup 322 = some (zc P):=by kernel_rfl
theorem q7 : (kF P).lookup 327 = some (yz P):=by kernel_rfl
theorem rA : (kF P).lookup 334 = some (yg P):=by kernel_rfl
theorem sG : (kF P).lookup 341 = some (zG P):=by kernel_rfl
theorem rn : (kF P).lookup 348 = some (xi P):=by kernel_rfl
theorem oF : (kF P).lookup 353 = some (yZ P):=by kernel_rfl
theorem oM : (kF P).lookup 358 = some (yA P):=by kernel_rfl
theorem sF : (kF P).lookup 365 = some (xw P):=by kernel_rfl
theorem qa : (kF P).lookup 372 = some (yv P):=by kernel_rfl
theorem DH : (kF P).lookup 379 = some (xr P):=by kernel_rfl
section
variable (Γ : Gl (kF P) B p loose mg mb) (hsys : ∃ o,B.get? sysModules = some o) (hb : 9 ≤ b) {c : Fn → List ae → Mo ae} (hc : ∀ g,cu prog w B b (.ref (oh g)) (c g))
include Γ hsys hb hc
theorem sP : cu prog w B (b + 1) (.ref 29) (aO 6 6 [.none] (df c)):=by
 refine cn (sg:=j6) (ps:=["self", "op", "place", "type_of", "kids", "value"]) (dfl:=[.none]) Γ qc (by kernel_rfl) (bt (by kernel_rfl)) (fun s xs X h1 h2=>?_) (rT Γ hsys hb hc)
 rcases xs with _ | ⟨a0,_ | ⟨a1,_ | ⟨a2,_ | ⟨a3,_ | ⟨a4,_ | ⟨a5,_ | ⟨z,zs⟩⟩⟩⟩⟩⟩⟩ <;> first | (exfalso; simp at h1 h2; done) | exact ⟨[.none],fun h G=>(.cons .none .nil),BindsTo.of_defaults rfl (X 22 (yB P) (by kernel_rfl)) rfl rfl rfl⟩ | exact ⟨[],fun h G=>.nil,BindsTo.of_defaults rfl (X 22 (yB P) (by kernel_rfl)) rfl rfl rfl⟩
theorem AF : cu prog w B (b + 1) (.ref 43) (aO 3 3 [] (jR c)):=by
 refine cn (sg:=si) (ps:=["t", "value", "place"]) (dfl:=[]) Γ x3 (by kernel_rfl) (bt (by kernel_rfl)) (fun s xs X h1 h2=>?_) (AQ Γ hsys hb hc)
 rcases xs with _ | ⟨a0,_ | ⟨a1,_ | ⟨a2,_ | ⟨z,zs⟩⟩⟩⟩ <;> first | (exfalso; simp at h1 h2; done) | exact ⟨[],fun h G=>.nil,BindsTo.of_eq rfl⟩
theorem mn : cu prog w B (b + 1) (.ref 57) (aO 2 2 [] (ed c)):=by
 refine cn (sg:=gN) (ps:=["self", "obj"]) (dfl:=[]) Γ kX (by kernel_rfl) (bt (by kernel_rfl)) (fun s xs X h1 h2=>?_) (mh Γ hsys hb hc)
 rcases xs with _ | ⟨a0,_ | ⟨a1,_ | ⟨z,zs⟩⟩⟩ <;> first | (exfalso; simp at h1 h2; done) | exact ⟨[],fun h G=>.nil,BindsTo.of_eq rfl⟩
theorem u6 : cu prog w B (b + 1) (.ref 71) (aO 1 5 [] (fm c)):=by
 refine cn (sg:=lE) (ps:=["node"]) (dfl:=[]) Γ sW (by kernel_rfl) (bt (by kernel_rfl)) (fun s xs X h1 h2=>?_) (ux Γ hsys hb hc)
 rcases xs with _ | ⟨a0,_ | ⟨z,zs⟩⟩ <;> first | (exfalso; simp at h1 h2; done) | exact ⟨[],fun h G=>.nil,BindsTo.of_eq rfl⟩
theorem rk : cu prog w B (b + 1) (.ref 78) (aO 1 1 [] (gt c)):=by
 refine cn (sg:=j1) (ps:=["t"]) (dfl:=[]) Γ qE (by kernel_rfl) (bt (by kernel_rfl)) (fun s xs X h1 h2=>?_) (ri Γ hsys hb hc)
 rcases xs with _ | ⟨a0,_ | ⟨z,zs⟩⟩ <;> first | (exfalso; simp at h1 h2; done) | exact ⟨[],fun h G=>.nil,BindsTo.of_eq rfl⟩
theorem oz : cu prog w B (b + 1) (.ref 85) (aO 1 4 [] (dY c)):=by
 refine cn (sg:=iQ) (ps:=["tree"]) (dfl:=[]) Γ np (by kernel_rfl) (bt (by kernel_rfl)) (fun s xs X h1 h2=>?_) (oC Γ hsys hb hc)
 rcases xs with _ | ⟨a0,_ | ⟨z,zs⟩⟩ <;> first | (exfalso; simp at h1 h2; done) | exact ⟨[],fun h G=>.nil,BindsTo.of_eq rfl⟩
theorem t7 : cu prog w B (b + 1) (.ref 92) (aO 1 5 [] (gg c)):=by
 refine cn (sg:=lS) (ps:=["tree"]) (dfl:=[]) Γ rR (by kernel_rfl) (bt (by kernel_rfl)) (fun s xs X h1 h2=>?_) (u8 Γ hsys hb hc)
 rcases xs with _ | ⟨a0,_ | ⟨z,zs⟩⟩ <;> first | (exfalso; simp at h1 h2; done) | exact ⟨[],fun h G=>.nil,BindsTo.of_eq rfl⟩
theorem mv : cu prog w B (b + 1) (.ref 106) (aO 2 2 [] (dt c)):=by
 refine cn (sg:=gI) (ps:=["self", "tree"]) (dfl:=[]) Γ kW (by kernel_rfl) (bt (by kernel_rfl)) (fun s xs X h1 h2=>?_) (mu Γ hsys hb hc)
 rcases xs with _ | ⟨a0,_ | ⟨a1,_ | ⟨z,zs⟩⟩⟩ <;> first | (exfalso; simp at h1 h2; done) | exact ⟨[],fun h G=>.nil,BindsTo.of_eq rfl⟩
theorem jF : cu prog w B (b + 1) (.ref 113) (aO 2 2 [] (cM c)):=by
 refine cn (sg:=fL) (ps:=["self", "node"]) (dfl:=[]) Γ jg (by kernel_rfl) (bt (by kernel_rfl)) (fun s xs X h1 h2=>?_) (jx Γ hsys hb hc)
 rcases xs with _ | ⟨a0,_ | ⟨a1,_ | ⟨z,zs⟩⟩⟩ <;> first | (exfalso; simp at h1 h2; done) | exact ⟨[],fun h G=>.nil,BindsTo.of_eq rfl⟩
theorem Dp : cu prog w B (b + 1) (.ref 127) (aO 3 4 [] (n5 c)):=by
 refine cn (sg:=v0) (ps:=["st", "node", "sure"]) (dfl:=[]) Γ Ak (by kernel_rfl) (bt (by kernel_rfl)) (fun s xs X h1 h2=>?_) (CE Γ hsys hb hc)
 rcases xs with _ | ⟨a0,_ | ⟨a1,_ | ⟨a2,_ | ⟨z,zs⟩⟩⟩⟩ <;> first | (exfalso; simp at h1 h2; done) | exact ⟨[],fun h G=>.nil,BindsTo.of_eq rfl⟩
theorem qQ : cu prog w B (b + 1) (.ref 134) (aO 3 4 [] (eK c)):=by
 refine cn (sg:=jn) (ps:=["st", "node", "sure"]) (dfl:=[]) Γ ow (by kernel_rfl) (bt (by kernel_rfl)) (fun s xs X h1 h2=>?_) (qX Γ hsys hb hc)
 rcases xs with _ | ⟨a0,_ | ⟨a1,_ | ⟨a2,_ | ⟨z,zs⟩⟩⟩⟩ <;> first | (exfalso; simp at h1 h2; done) | exact ⟨[],fun h G=>.nil,BindsTo.of_eq rfl⟩
theorem qR : cu prog w B (b + 1) (.ref 141) (aO 3 4 [] (eM c)):=by
 refine cn (sg:=jk) (ps:=["st", "node", "sure"]) (dfl:=[]) Γ oH (by kernel_rfl) (bt (by kernel_rfl)) (fun s xs X h1 h2=>?_) (qq Γ hsys hb hc)
 rcases xs with _ | ⟨a0,_ | ⟨a1,_ | ⟨a2,_ | ⟨z,zs⟩⟩⟩⟩ <;> first | (exfalso; simp at h1 h2; done) | exact ⟨[],fun h G=>.nil,BindsTo.of_eq rfl⟩
theorem qO : cu prog w B (b + 1) (.ref 148) (aO 3 4 [] (cT c)):=by
 refine cn (sg:=jp) (ps:=["st", "node", "sure"]) (dfl:=[]) Γ oE (by kernel_rfl) (bt (by kernel_rfl)) (fun s xs X h1 h2=>?_) (qh Γ hsys hb hc)
 rcases xs with _ | ⟨a0,_ | ⟨a1,_ | ⟨a2,_ | ⟨z,zs⟩⟩⟩⟩ <;> first | (exfalso; simp at h1 h2; done) | exact ⟨[],fun h G=>.nil,BindsTo.of_eq rfl⟩
theorem sn : cu prog w B (b + 1) (.ref 155) (aO 3 8 [] (fz c)):=by
 refine cn (sg:=kE) (ps:=["st", "node", "sure"]) (dfl:=[]) Γ pP (by kernel_rfl) (bt (by kernel_rfl)) (fun s xs X h1 h2=>?_) (sE Γ hsys hb hc)
 rcases xs with _ | ⟨a0,_ | ⟨a1,_ | ⟨a2,_ | ⟨z,zs⟩⟩⟩⟩ <;> first | (exfalso; simp at h1 h2; done) | exact ⟨[],fun h G=>.nil,BindsTo.of_eq rfl⟩
theorem uj : cu prog w B (b + 1) (.ref 162) (aO 3 5 [] (f0 c)):=by
 refine cn (sg:=lC) (ps:=["st", "node", "sure"]) (dfl:=[]) Γ ru (by kernel_rfl) (bt (by kernel_rfl)) (fun s xs X h1 h2=>?_) (uh Γ hsys hb hc)
 rcases xs with _ | ⟨a0,_ | ⟨a1,_ | ⟨a2,_ | ⟨z,zs⟩⟩⟩⟩ <;> first | (exfalso; simp at h1 h2; done) | exact ⟨[],fun h G=>.nil,BindsTo.of_eq rfl⟩
theorem oo : cu prog w B (b + 1) (.ref 169) (aO 3 6 [] (dv c)):=by
 refine cn (sg:=iD) (ps:=["st", "node", "sure"]) (dfl:=[]) Γ nE (by kernel_rfl) (bt (by kernel_rfl)) (fun s xs X h1 h2=>?_) (oA Γ hsys hb hc)
 rcases xs with _ | ⟨a0,_ | ⟨a1,_ | ⟨a2,_ | ⟨z,zs⟩⟩⟩⟩ <;> first | (exfalso; simp at h1 h2; done) | exact ⟨[],fun h G=>.nil,BindsTo.of_eq rfl⟩
theorem p0 : cu prog w B (b + 1) (.ref 176) (aO 3 4 [] (e8 c)):=by
 refine cn (sg:=jo) (ps:=["st", "node", "sure"]) (dfl:=[]) Γ or (by kernel_rfl) (bt (by kernel_rfl)) (fun s xs X h1 h2=>?_) (pH Γ hsys hb hc)
 rcases xs with _ | ⟨a0,_ | ⟨a1,_ | ⟨a2,_ | ⟨z,zs⟩⟩⟩⟩ <;> first | (exfalso; simp at h1 h2; done) | exact ⟨[],fun h G=>.nil,BindsTo.of_eq rfl⟩
theorem uU : cu prog w B (b + 1) (.ref 183) (aO 3 7 [] (fY c)):=by
 refine cn (sg:=lF) (ps:=["st", "node", "sure"]) (dfl:=[]) Γ se (by kernel_rfl) (bt (by kernel_rfl)) (fun s xs X h1 h2=>?_) (uK Γ hsys hb hc)
 rcases xs with _ | ⟨a0,_ | ⟨a1,_ | ⟨a2,_ | ⟨z,zs⟩⟩⟩⟩ <;> first | (exfalso; simp at h1 h2; done) | exact ⟨[],fun h G=>.nil,BindsTo.of_eq rfl⟩
theorem sp : cu prog w B (b + 1) (.ref 190) (aO 3 5 [] (fA c)):=by
 refine cn (sg:=jM) (ps:=["st", "node", "sure"]) (dfl:=[]) Γ qD (by kernel_rfl) (bt (by kernel_rfl)) (fun s xs X h1 h2=>?_) (rp Γ hsys hb hc)
 rcases xs with _ | ⟨a0,_ | ⟨a1,_ | ⟨a2,_ | ⟨z,zs⟩⟩⟩⟩ <;> first | (exfalso; simp at h1 h2; done) | exact ⟨[],fun h G=>.nil,BindsTo.of_eq rfl⟩
theorem ld : cu prog w B (b + 1) (.ref 197) (aO 3 5 [] (bj c)):=by
 refine cn (sg:=gp) (ps:=["st", "node", "sure"]) (dfl:=[]) Γ jT (by kernel_rfl) (bt (by kernel_rfl)) (fun s xs X h1 h2=>?_) (kU Γ hsys hb hc)
 rcases xs with _ | ⟨a0,_ | ⟨a1,_ | ⟨a2,_ | ⟨z,zs⟩⟩⟩⟩ <;> first | (exfalso; simp at h1 h2; done) | exact ⟨[],fun h G=>.nil,BindsTo.of_eq rfl⟩
theorem qo : cu prog w B (b + 1) (.ref 202) (aO 1 3 [] (eJ c)):=by
 refine pL (sg:=jh) (ps:=["tree"]) Γ oy (by kernel_rfl) (jN (by kernel_rfl)) (fun xs h=>?_) (pG Γ hsys hb hc)
 rcases xs with _ | ⟨a0,_ | ⟨z,zs⟩⟩
 all_goals first | rfl | (exfalso; simp at h)
theorem tH : cu prog w B (b + 1) (.ref 216) (aO 4 4 [] (gu c)):=by
 refine cn (sg:=km) (ps:=["self", "number", "form", "size"]) (dfl:=[]) Γ pR (by kernel_rfl) (bt (by kernel_rfl)) (fun s xs X h1 h2=>?_) (rG Γ hsys hb hc)
 rcases xs with _ | ⟨a0,_ | ⟨a1,_ | ⟨a2,_ | ⟨a3,_ | ⟨z,zs⟩⟩⟩⟩⟩ <;> first | (exfalso; simp at h1 h2; done) | exact ⟨[],fun h G=>.nil,BindsTo.of_eq rfl⟩
theorem uo : cu prog w B (b + 1) (.ref 237) (aO 5 5 [] (hJ c)):=by
 refine cn (sg:=lA) (ps:=["self", "name", "kind", "type_of", "place"]) (dfl:=[]) Γ sT (by kernel_rfl) (bt (by kernel_rfl)) (fun s xs X h1 h2=>?_) (ue Γ hsys hb hc)
 rcases xs with _ | ⟨a0,_ | ⟨a1,_ | ⟨a2,_ | ⟨a3,_ | ⟨a4,_ | ⟨z,zs⟩⟩⟩⟩⟩⟩ <;> first | (exfalso; simp at h1 h2; done) | exact ⟨[],fun h G=>.nil,BindsTo.of_eq rfl⟩
theorem pY : cu prog w B (b + 1) (.ref 258) (aO 1 1 [] (fS c)):=by
 refine cn (sg:=jr) (ps:=["self"]) (dfl:=[]) Γ oO (by kernel_rfl) (bt (by kernel_rfl)) (fun s xs X h1 h2=>?_) (pM Γ hsys hb hc)
 rcases xs with _ | ⟨a0,_ | ⟨z,zs⟩⟩ <;> first | (exfalso; simp at h1 h2; done) | exact ⟨[],fun h G=>.nil,BindsTo.of_eq rfl⟩
theorem rO : cu prog w B (b + 1) (.ref 266) (aO 5 6 [.str "",.str ""] (gx c)):=by
 refine cn (sg:=jJ) (ps:=["self", "form", "size", "module", "label"]) (dfl:=[.str "",.str ""]) Γ qn (by kernel_rfl) (bt (by kernel_rfl)) (fun s xs X h1 h2=>?_) (rN Γ hsys hb hc)
 rcases xs with _ | ⟨a0,_ | ⟨a1,_ | ⟨a2,_ | ⟨a3,_ | ⟨a4,_ | ⟨z,zs⟩⟩⟩⟩⟩⟩ <;> first | (exfalso; simp at h1 h2; done) | exact ⟨[.str "" 589,.str "" 590],fun h G=>(.cons (.str ..) (.cons (.str ..) .nil)),BindsTo.of_defaults rfl (X 259 (q8 P) (by kernel_rfl)) rfl rfl rfl⟩ | exact ⟨[.str "" 590],fun h G=>(.cons (.str ..) .nil),BindsTo.of_defaults rfl (X 259 (q8 P) (by kernel_rfl)) rfl rfl rfl⟩ | exact ⟨[],fun h G=>.nil,BindsTo.of_defaults rfl (X 259 (q8 P) (by kernel_rfl)) rfl rfl rfl⟩
theorem uZ : cu prog w B (b + 1) (.ref 287) (aO 1 5 [] (fX c)):=by
 refine cn (sg:=lL) (ps:=["script"]) (dfl:=[]) Γ rj (by kernel_rfl) (bt (by kernel_rfl)) (fun s xs X h1 h2=>?_) (ur Γ hsys hb hc)
 rcases xs with _ | ⟨a0,_ | ⟨z,zs⟩⟩ <;> first | (exfalso; simp at h1 h2; done) | exact ⟨[],fun h G=>.nil,BindsTo.of_eq rfl⟩
theorem uk : cu prog w B (b + 1) (.ref 294) (aO 2 2 [] (gf c)):=by
 refine cn (sg:=lR) (ps:=["pool", "bound_at"]) (dfl:=[]) Γ rh (by kernel_rfl) (bt (by kernel_rfl)) (fun s xs X h1 h2=>?_) (u7 Γ hsys hb hc)
 rcases xs with _ | ⟨a0,_ | ⟨a1,_ | ⟨z,zs⟩⟩⟩ <;> first | (exfalso; simp at h1 h2; done) | exact ⟨[],fun h G=>.nil,BindsTo.of_eq rfl⟩
theorem sq : cu prog w B (b + 1) (.ref 301) (aO 1 1 [] (gq c)):=by
 refine cn (sg:=jS) (ps:=["book"]) (dfl:=[]) Γ qp (by kernel_rfl) (bt (by kernel_rfl)) (fun s xs X h1 h2=>?_) (sr Γ hsys hb hc)
 rcases xs with _ | ⟨a0,_ | ⟨z,zs⟩⟩ <;> first | (exfalso; simp at h1 h2; done) | exact ⟨[],fun h G=>.nil,BindsTo.of_eq rfl⟩
theorem wG : cu prog w B (b + 1) (.ref 308) (aO 2 2 [] (gL c)):=by
 refine cn (sg:=nA) (ps:=["book", "spot"]) (dfl:=[]) Γ uF (by kernel_rfl) (bt (by kernel_rfl)) (fun s xs X h1 h2=>?_) (wo Γ hsys hb hc)
 rcases xs with _ | ⟨a0,_ | ⟨a1,_ | ⟨z,zs⟩⟩⟩ <;> first | (exfalso; simp at h1 h2; done) | exact ⟨[],fun h G=>.nil,BindsTo.of_eq rfl⟩
theorem sO : cu prog w B (b + 1) (.ref 315) (aO 2 4 [] (fy c)):=by
 refine cn (sg:=kc) (ps:=["book", "pool"]) (dfl:=[]) Γ qd (by kernel_rfl) (bt (by kernel_rfl)) (fun s xs X h1 h2=>?_) (tC Γ hsys hb hc)
 rcases xs with _ | ⟨a0,_ | ⟨a1,_ | ⟨z,zs⟩⟩⟩ <;> first | (exfalso; simp at h1 h2; done) | exact ⟨[],fun h G=>.nil,BindsTo.of_eq rfl⟩
theorem uI : cu prog w B (b + 1) (.ref 322) (aO 2 6 [] (gc c)):=by
 refine cn (sg:=lT) (ps:=["book", "pool"]) (dfl:=[]) Γ sj (by kernel_rfl) (bt (by kernel_rfl)) (fun s xs X h1 h2=>?_) (um Γ hsys hb hc)
 rcases xs with _ | ⟨a0,_ | ⟨a1,_ | ⟨z,zs⟩⟩⟩ <;> first | (exfalso; simp at h1 h2; done) | exact ⟨[],fun h G=>.nil,BindsTo.of_eq rfl⟩
theorem sK : cu prog w B (b + 1) (.ref 327) (aO 3 4 [] (fG c)):=by
 refine pL (sg:=kq) (ps:=["book", "pool", "deep"]) Γ q7 (by kernel_rfl) (jN (by kernel_rfl)) (fun xs h=>?_) (sC Γ hsys hb hc)
 rcases xs with _ | ⟨a0,_ | ⟨a1,_ | ⟨a2,_ | ⟨z,zs⟩⟩⟩⟩
 all_goals first | rfl | (exfalso; simp at h)
theorem tX : cu prog w B (b + 1) (.ref 334) (aO 4 6 [] (f7 c)):=by
 refine cn (sg:=l9) (ps:=["book", "pool", "deep", "count"]) (dfl:=[]) Γ rA (by kernel_rfl) (bt (by kernel_rfl)) (fun s xs X h1 h2=>?_) (uX Γ hsys hb hc)
 rcases xs with _ | ⟨a0,_ | ⟨a1,_ | ⟨a2,_ | ⟨a3,_ | ⟨z,zs⟩⟩⟩⟩⟩ <;> first | (exfalso; simp at h1 h2; done) | exact ⟨[],fun h G=>.nil,BindsTo.of_eq rfl⟩
theorem tZ : cu prog w B (b + 1) (.ref 341) (aO 3 13 [] (f5 c)):=by
 refine cn (sg:=lX) (ps:=["book", "pool", "deep"]) (dfl:=[]) Γ sG (by kernel_rfl) (bt (by kernel_rfl)) (fun s xs X h1 h2=>?_) (uN Γ hsys hb hc)
 rcases xs with _ | ⟨a0,_ | ⟨a1,_ | ⟨a2,_ | ⟨z,zs⟩⟩⟩⟩ <;> first | (exfalso; simp at h1 h2; done) | exact ⟨[],fun h G=>.nil,BindsTo.of_eq rfl⟩
theorem uL : cu prog w B (b + 1) (.ref 348) (aO 3 5 [] (eA c)):=by
 refine cn (sg:=lJ) (ps:=["node", "states", "hits"]) (dfl:=[]) Γ rn (by kernel_rfl) (bt (by kernel_rfl)) (fun s xs X h1 h2=>?_) (u5 Γ hsys hb hc)
 rcases xs with _ | ⟨a0,_ | ⟨a1,_ | ⟨a2,_ | ⟨z,zs⟩⟩⟩⟩ <;> first | (exfalso; simp at h1 h2; done) | exact ⟨[],fun h G=>.nil,BindsTo.of_eq rfl⟩
theorem pJ : cu prog w B (b + 1) (.ref 353) (aO 2 5 [] (eT c)):=by
 refine pL (sg:=jm) (ps:=["states", "spot"]) Γ oF (by kernel_rfl) (jN (by kernel_rfl)) (fun xs h=>?_) (qu Γ hsys hb hc)
 rcases xs with _ | ⟨a0,_ | ⟨a1,_ | ⟨z,zs⟩⟩⟩
 all_goals first | rfl | (exfalso; simp at h)
theorem qW : cu prog w B (b + 1) (.ref 358) (aO 2 2 [] (eU c)):=by
 refine pL (sg:=jj) (ps:=["one", "other"]) Γ oM (by kernel_rfl) (jN (by kernel_rfl)) (fun xs h=>?_) (qN Γ hsys hb hc)
 rcases xs with _ | ⟨a0,_ | ⟨a1,_ | ⟨z,zs⟩⟩⟩
 all_goals first | rfl | (exfalso; simp at h)
theorem uC : cu prog w B (b + 1) (.ref 365) (aO 3 8 [] (cg c)):=by
 refine cn (sg:=lB) (ps:=["node", "states", "hits"]) (dfl:=[]) Γ sF (by kernel_rfl) (bt (by kernel_rfl)) (fun s xs X h1 h2=>?_) (u1 Γ hsys hb hc)
 rcases xs with _ | ⟨a0,_ | ⟨a1,_ | ⟨a2,_ | ⟨z,zs⟩⟩⟩⟩ <;> first | (exfalso; simp at h1 h2; done) | exact ⟨[],fun h G=>.nil,BindsTo.of_eq rfl⟩
theorem rJ : cu prog w B (b + 1) (.ref 372) (aO 3 7 [] (dI c)):=by
 refine cn (sg:=kn) (ps:=["node", "states", "hits"]) (dfl:=[]) Γ qa (by kernel_rfl) (bt (by kernel_rfl)) (fun s xs X h1 h2=>?_) (sk Γ hsys hb hc)
 rcases xs with _ | ⟨a0,_ | ⟨a1,_ | ⟨a2,_ | ⟨z,zs⟩⟩⟩⟩ <;> first | (exfalso; simp at h1 h2; done) | exact ⟨[],fun h G=>.nil,BindsTo.of_eq rfl⟩
theorem Et : cu prog w B (b + 1) (.ref 379) (aO 1 16 [] (tP c)):=by
 refine cn (sg:=zn) (ps:=["script"]) (dfl:=[]) Γ DH (by kernel_rfl) (bt (by kernel_rfl)) (fun s xs X h1 h2=>?_) (Gb Γ hsys hb hc)
 rcases xs with _ | ⟨a0,_ | ⟨z,zs⟩⟩ <;> first | (exfalso; simp at h1 h2; done) | exact ⟨[],fun h G=>.nil,BindsTo.of_eq rfl⟩
end
theorem xm (Γ : Gl (kF P) B p loose mg mb) (hsys : ∃ o,B.get? sysModules = some o) (hb : 9 ≤ b) {c : Fn → List ae → Mo ae} (hc : ∀ g,cu prog w B b (.ref (oh g)) (c g)) : ∀ g,cu prog w B (b + 2) (.ref (oh g)) (mf c g)
 | .Node=>oZ (C:=32) (f:=29) Γ (by kernel_rfl) (by kernel_rfl) (by kernel_rfl) (sP Γ hsys hb hc)
 | .f_const=>(AF Γ hsys hb hc).mono (Nat.le_succ _)
 | .ProcTree=>oZ (C:=60) (f:=57) Γ (by kernel_rfl) (by kernel_rfl) (by kernel_rfl) (mn Γ hsys hb hc)
 | .f_nodes_of=>(u6 Γ hsys hb hc).mono (Nat.le_succ _)
 | .f_is_scalar=>(rk Γ hsys hb hc).mono (Nat.le_succ _)
 | .f_inner_nodes=>(oz Γ hsys hb hc).mono (Nat.le_succ _)
 | .f_followed=>(t7 Γ hsys hb hc).mono (Nat.le_succ _)
 | .Follower=>oZ (C:=116) (f:=106) Γ (by kernel_rfl) (by kernel_rfl) (by kernel_rfl) (mv Γ hsys hb hc)
 | .slot_of=>(jF Γ hsys hb hc).mono (Nat.le_succ _)
 | .f_used=>(Dp Γ hsys hb hc).mono (Nat.le_succ _)
 | .f_with_store=>(qQ Γ hsys hb hc).mono (Nat.le_succ _)
 | .f_place_uses=>(qR Γ hsys hb hc).mono (Nat.le_succ _)
 | .f_value_uses=>(qO Γ hsys hb hc).mono (Nat.le_succ _)
 | .f_call_uses=>(sn Γ hsys hb hc).mono (Nat.le_succ _)
 | .f_std_uses=>(uj Γ hsys hb hc).mono (Nat.le_succ _)
 | .f_branch_uses=>(oo Γ hsys hb hc).mono (Nat.le_succ _)
 | .f_while_uses=>(p0 Γ hsys hb hc).mono (Nat.le_succ _)
 | .f_for_uses=>(uU Γ hsys hb hc).mono (Nat.le_succ _)
 | .f_case_uses=>(sp Γ hsys hb hc).mono (Nat.le_succ _)
 | .f_statement_uses=>(ld Γ hsys hb hc).mono (Nat.le_succ _)
 | .f_unset_uses=>(qo Γ hsys hb hc).mono (Nat.le_succ _)
 | .Type=>oZ (C:=219) (f:=216) Γ (by kernel_rfl) (by kernel_rfl) (by kernel_rfl) (tH Γ hsys hb hc)
 | .Obj=>oZ (C:=240) (f:=237) Γ (by kernel_rfl) (by kernel_rfl) (by kernel_rfl) (uo Γ hsys hb hc)
 | .Types=>oZ (C:=276) (f:=258) Γ (by kernel_rfl) (by kernel_rfl) (by kernel_rfl) (pY Γ hsys hb hc)
 | .tnew=>(rO Γ hsys hb hc).mono (Nat.le_succ _)
 | .f_law_pool=>(uZ Γ hsys hb hc).mono (Nat.le_succ _)
 | .f_law_draw=>(uk Γ hsys hb hc).mono (Nat.le_succ _)
 | .f_law_place=>(sq Γ hsys hb hc).mono (Nat.le_succ _)
 | .f_law_var=>(wG Γ hsys hb hc).mono (Nat.le_succ _)
 | .f_law_value=>(sO Γ hsys hb hc).mono (Nat.le_succ _)
 | .f_law_test=>(uI Γ hsys hb hc).mono (Nat.le_succ _)
 | .f_law_block=>(sK Γ hsys hb hc).mono (Nat.le_succ _)
 | .f_law_arms=>(tX Γ hsys hb hc).mono (Nat.le_succ _)
 | .f_law_deed=>(tZ Γ hsys hb hc).mono (Nat.le_succ _)
 | .f_law_uses=>(uL Γ hsys hb hc).mono (Nat.le_succ _)
 | .f_law_stored=>(pJ Γ hsys hb hc).mono (Nat.le_succ _)
 | .f_law_joined=>(qW Γ hsys hb hc).mono (Nat.le_succ _)
 | .f_law_ways=>(uC Γ hsys hb hc).mono (Nat.le_succ _)
 | .f_law_turns=>(rJ Γ hsys hb hc).mono (Nat.le_succ _)
 | .f_law=>(Et Γ hsys hb hc).mono (Nat.le_succ _)
theorem vv (Γ : Gl (kF P) B p loose mg mb) (hsys : ∃ o,B.get? sysModules = some o) : ∀ (d : Nat) (g : Fn),cu prog w B (2 * d + 9) (.ref (oh g)) (sem d g)
 | 0,g=>fun A s G M xs as r M' R C rs e=>(nomatch e)
 | d + 1,g=>(xm Γ hsys (Nat.le_add_left _ _) (vv Γ hsys d) g).mono (Ja)
end
end Mine
end
section
namespace Mine
theorem DE (P : Params) : nsIn (kF P) mainGlobals "law" = some (some (.ref 379)):=by kernel_rfl
noncomputable def G0 (h : Heap) : Gh:=⟨fun a=>if (h.get? a).isSome then .base else .free,[]⟩
theorem Fq (prog : Program) (w : World) (h : Heap) : bJ prog w h h (G0 h) [] where
 base b o e:=⟨by show (if _ then _ else _) = _; rw [e]; rfl,e⟩
 live a:=by
  show (if _ then _ else _) = _ ∨ _
  cases e : h.get? a with
  | none=>exact .inl rfl
  | some o=>exact .inr ⟨o,rfl⟩
 len:=rfl
 muts i o e:=by simp at e
 size:=Nat.le_refl _
theorem zf (plain : ∀ ns : List Int,ns.length ≤ 63 → ∃ M',sem 200 .f_law [.lst (ns.map .int)] [] = some (.bool true,M'))
  {w : World} {s : Shared} {mg mb : Str → Option Value} {p : Program} {loose : List Str} (prog : Program) (Γ : Gl (kF w.params) s.heap p loose mg mb) (hsys : ∃ o,s.heap.get? sysModules = some o)
  {a : Addr} {vs : List Value} {ns : List Int} (hl : s.heap.IsList a vs.toArray) (hI : IntsAre vs ns) (hn : ns.length ≤ 63) {A : Around} (R : eZ A 409) {Q E : Value → Shared → Prop}
  (h : ∀ h' tk',(∀ b o,s.heap.get? b = some o → h'.get? b = some o) → Q (.bool true) { s with heap:=h',toks:=tk' }) :
  wpAny (model prog w) A (call (.ref 379) [.ref a]) Q E s:=by
 obtain ⟨M',e⟩:=plain ns hn
 have k:=(vv (prog:=prog) (w:=w) Γ hsys 200 .f_law).call
 have hs : ((G0 s.heap).tag a).solid = true:=by
  obtain ⟨o,ho,_⟩:=hl
  show (if _ then _ else _ : Tag).solid = true
  rw [ho]; rfl
 refine k A s (G0 s.heap) [] [.ref a] _ _ M' R (Fq prog w s.heap) (.cons (.lst hs hl (pd hI)) .nil) e _ _ fun h' tk' G' x C X r=>?_
 cases r
 exact h h' tk' fun b o e=>(C.base b o e).2
set_option maxHeartbeats 8000000 in
set_option tactic.hygienic true in
theorem claim_of (left : LeftO PySem.Challenge.pw_pb0345_01 mw [] (fun s=>xlAt mw [] s && recOk (RowW.records (OpenRow.toRowW (OpenLaw.row PySem.Challenge.rw_pb0345_01))) s) (Hook.obs hk) (Hook.val hk) 5270)
  (plain : ∀ ns : List Int,ns.length ≤ 63 → ∃ M',sem 200 .f_law [.lst (ns.map .int)] [] = some (.bool true,M')) : PySem.Challenge.rw_pb0345_01.Holds:=by
 w_on
 refine holds_law FD fun FD=>?_
 refine holds_open (q:=mw) (loose:=[]) (Xt:=fun s=>xlAt mw [] s && recOk (RowW.records (OpenRow.toRowW (OpenLaw.row PySem.Challenge.rw_pb0345_01))) s) (XP:=XL mw []) (Yf:=Hook.obs hk) (Ya:=Hook.val hk) (YP:=Hook.says hk) (N:=5270) left (Hook.of hk) (Hook.keeps hk) (fun s e=>xl_of s (Bool.and_eq_true_iff.mp e).1) XL.keeps (by rfl) (by rfl) (by rfl) (fun s e=>recFacts_of (Bool.and_eq_true_iff.mp e).2) (by rfl) (by first | assumption | decide +kernel) (by decide +kernel) ⟨rfl,rfl,rfl,rfl,rfl,by decide +kernel⟩ ?hw ?hc
 case hw=>w_witness2
 case hc=>
  intro w s₀ s₁ mg mb G Y fa o pm cd doc dV kV ho hd hcd hD hmg hg args vals as hpre hlay hrd hwl hlo
  have KX:=kIn_of Y
  refine Ground.open G ?_
  intro T B D TE TW
  have fin : ∀ (ns : List Int) (a : Addr) (vs : List Value),s₁.heap.IsList a vs.toArray → IntsAre vs ns → ns.length ≤ 63 →
    wpAny (model PySem.Challenge.pw_pb0345_01 w) callerA (call (.ref fa) [.ref a]) (fun v s'=>GoodWG PySem.Challenge.rw_pb0345_01.row.claim (classAt s₀.heap) (ExcName.means s₀.heap) [ofPy (PyData.list (ns.map PyData.int))] s₁ (Except.ok (.ret v)) s')
     (fun e s'=>GoodWG PySem.Challenge.rw_pb0345_01.row.claim (classAt s₀.heap) (ExcName.means s₀.heap) [ofPy (PyData.list (ns.map PyData.int))] s₁ (Except.error e) s') s₁:=by
   intro ns a vs hl hI hn
   have GG : Gl (kF w.params) s₁.heap mw (looseW mw []) mg mb:=⟨KX,topRead_of T⟩
   have hfa : fa = 379:=by
    have h1:=mg_of KX T.g (DE w.params)
    have h2 : mg "law" = some (.ref fa):=hmg
    rw [h2] at h1; cases h1; rfl
   subst hfa
   have hsys : ∃ o,s₁.heap.get? sysModules = some o:=by
    have:=(Top.seer T (by decide +kernel)).mods
    obtain ⟨mm,⟨o,es,ep,e,r⟩,_⟩:=this
    exact ⟨o,e⟩
   refine zf plain _ GG hsys hl hI hn ⟨rfl,by decide,by decide⟩ fun h' tk' keep=>?_
   exact ⟨.inl ⟨_,.bool true,[],rfl,fun _=>rfl,.bool true,by kernel_rfl,fun _=>⟨List.nodup_nil,fun _ h=>nomatch h⟩⟩,.of_keep keep,rfl,.of_eq hg⟩
  wrow_args hpre hlay hrd hwl hlo
  rename_i ns _ _ _ _ _ _ _ _ _ hL _ _ _ hI _ hc1 _
  exact fin _ _ _ hL hI (by omega)
end Mine
end
section
namespace Mine
theorem ii {a b : Prop} (h : a ↔ b) (x : b) : a:=h.mpr x
theorem ro {a b : Prop} (h : a = b) (x : b) : a:=h.mpr x
theorem ifp {c : Prop} [Decidable c] {a b : Prop} (h : c) (x : a) : if c then a else b:=(if_pos h).mpr x
theorem ifn {c : Prop} [Decidable c] {a b : Prop} (h : ¬ c) (x : b) : if c then a else b:=(if_neg h).mpr x
noncomputable def W {α : Type} (m : Mo α) (M : List ah) (Q : α → List ah → Prop) : Prop:=∃ a M',m M = some (a,M') ∧ Q a M'
theorem wr {α : Type} {m : Mo α} {M M1 : List ah} {Q : α → List ah → Prop} {a : α} (h : m M = some (a,M1)) (x : Q a M1) : W m M Q:=⟨a,M1,h,x⟩
section
variable {α β : Type} {M : List ah}
theorem cb {a : α} {Q : α → List ah → Prop} : W (ret a) M Q ↔ Q a M:=⟨fun ⟨_,_,e,q⟩=>by cases e; exact q,fun q=>⟨_,_,rfl,q⟩⟩
theorem Kw {a : α} {Q : α → List ah → Prop} (xx : Q a M) : W (ret a) M Q:=(cb (a:=a) (Q:=Q)).mpr xx
theorem ca {m : Mo α} {f : α → Mo β} {Q : β → List ah → Prop} : W (bnd m f) M Q ↔ W m M (fun a M'=>W (f a) M' Q):=by
 constructor
 ·rintro ⟨b,M2,e,q⟩
  obtain ⟨a,M1,e1,e2⟩:=aL e
  exact ⟨a,M1,e1,b,M2,e2,q⟩
 ·rintro ⟨a,M1,e1,b,M2,e2,q⟩
  exact ⟨b,M2,by rw [q6 e1]; exact e2,q⟩
theorem vi {m : Mo α} {f : α → Mo β} {Q : β → List ah → Prop} (xx : W m M (fun a M'=>W (f a) M' Q)) : W (bnd m f) M Q:=(ca (m:=m) (f:=f) (Q:=Q)).mpr xx
theorem uz {m : Mo α} {a : α} {M' : List ah} {Q : α → List ah → Prop} (e : m M = some (a,M')) (q : Q a M') : W m M Q:=⟨a,M',e,q⟩
theorem bI {m : Mo α} {a : α} {M' : List ah} {Q : α → List ah → Prop} (e : m M = some (a,M')) : W m M Q ↔ Q a M':=⟨fun ⟨_,_,e',q⟩=>by rw [e] at e'; cases e'; exact q,fun q=>⟨a,M',e,q⟩⟩
theorem gj {m : Mo α} {a : α} {M' : List ah} {Q : α → List ah → Prop} (e : m M = some (a,M')) (xx : Q a M') : W m M Q:=(bI (m:=m) (a:=a) (M':=M') (Q:=Q) (e:=e)).mpr xx
theorem b9 {m : Mo α} {Q Q' : α → List ah → Prop} (h : W m M Q) (k : ∀ a M',Q a M' → Q' a M') : W m M Q':=let ⟨a,M',e,q⟩:=h; ⟨a,M',e,k _ _ q⟩
theorem bU {i : Nat} {loc : Loc} {v : ae} {Q : ae → List ah → Prop} (h : loc[i]? = some (some v)) : W (af i loc) M Q ↔ Q v M:=bI (by unfold af; rw [h])
theorem ao {i : Nat} {loc : Loc} {v : ae} {Q : ae → List ah → Prop} (h : loc[i]? = some (some v)) (xx : Q v M) : W (af i loc) M Q:=(bU (i:=i) (loc:=loc) (v:=v) (Q:=Q) (h:=h)).mpr xx
theorem dq {a : ae} {loc : Loc} {Q : ae → List ah → Prop} : W (ar a loc) M Q ↔ Q a M:=cb
theorem aR {a : ae} {loc : Loc} {Q : ae → List ah → Prop} (xx : Q a M) : W (ar a loc) M Q:=(dq (a:=a) (loc:=loc) (Q:=Q)).mpr xx
theorem dJ {f : ae → ae → Mo ae} {l r : Loc → Mo ae} {loc : Loc} {Q : ae → List ah → Prop} : W (aE f l r loc) M Q ↔ W (l loc) M fun a M1=>W (r loc) M1 fun c M2=>W (f a c) M2 Q:=by
 unfold aE; rw [ca]; simp only [ca]
theorem aT {f : ae → ae → Mo ae} {l r : Loc → Mo ae} {loc : Loc} {Q : ae → List ah → Prop} (xx : W (l loc) M fun a M1=>W (r loc) M1 fun c M2=>W (f a c) M2 Q) : W (aE f l r loc) M Q:=(dJ (f:=f) (l:=l) (r:=r) (loc:=loc) (Q:=Q)).mpr xx
theorem dM {f : ae → Mo ae} {l : Loc → Mo ae} {loc : Loc} {Q : ae → List ah → Prop} : W (aS f l loc) M Q ↔ W (l loc) M fun a M1=>W (f a) M1 Q:=by
 unfold aS; rw [ca]
theorem ba {f : ae → Mo ae} {l : Loc → Mo ae} {loc : Loc} {Q : ae → List ah → Prop} (xx : W (l loc) M fun a M1=>W (f a) M1 Q) : W (aS f l loc) M Q:=(dM (f:=f) (l:=l) (loc:=loc) (Q:=Q)).mpr xx
theorem fO {loc : Loc} {Q : List ae → List ah → Prop} : W (am loc) M Q ↔ Q [] M:=cb
theorem av {loc : Loc} {Q : List ae → List ah → Prop} (xx : Q [] M) : W (am loc) M Q:=(fO (loc:=loc) (Q:=Q)).mpr xx
theorem fE {l : Loc → Mo ae} {ls : Loc → Mo (List ae)} {loc : Loc} {Q : List ae → List ah → Prop} : W (ab l ls loc) M Q ↔ W (l loc) M fun a M1=>W (ls loc) M1 fun as M2=>Q (a :: as) M2:=by
 unfold ab; rw [ca]; simp only [ca,cb]
theorem ag {l : Loc → Mo ae} {ls : Loc → Mo (List ae)} {loc : Loc} {Q : List ae → List ah → Prop} (xx : W (l loc) M fun a M1=>W (ls loc) M1 fun as M2=>Q (a :: as) M2) : W (ab l ls loc) M Q:=(fE (l:=l) (ls:=ls) (loc:=loc) (Q:=Q)).mpr xx
theorem qF {F : List ae → Mo ae} {ms : Loc → Mo (List ae)} {loc : Loc} {Q : ae → List ah → Prop} : W (aq F ms loc) M Q ↔ W (ms loc) M fun as M1=>W (F as) M1 Q:=by
 unfold aq; rw [ca]
theorem aA {F : List ae → Mo ae} {ms : Loc → Mo (List ae)} {loc : Loc} {Q : ae → List ah → Prop} (xx : W (ms loc) M fun as M1=>W (F as) M1 Q) : W (aq F ms loc) M Q:=(qF (F:=F) (ms:=ms) (loc:=loc) (Q:=Q)).mpr xx
theorem dN {l : Loc → Mo ae} {loc : Loc} {Q : Bool → List ah → Prop} : W (a6 l loc) M Q ↔ W (l loc) M fun a M1=>∃ b,a = .bool b ∧ Q b M1:=by
 unfold a6; rw [ca]
 constructor
 ·rintro ⟨a,M1,e,q⟩
  refine ⟨a,M1,e,?_⟩
  obtain ⟨b,M2,e2,q2⟩:=q
  cases a with
  | bool v=>cases e2; exact ⟨_,rfl,q2⟩
  | _=>cases e2
 ·rintro ⟨a,M1,e,b,rfl,q⟩
  exact ⟨_,M1,e,b,M1,rfl,q⟩
theorem bM {l : Loc → Mo ae} {loc : Loc} {Q : Bool → List ah → Prop} (xx : W (l loc) M fun a M1=>∃ b,a = .bool b ∧ Q b M1) : W (a6 l loc) M Q:=(dN (l:=l) (loc:=loc) (Q:=Q)).mpr xx
theorem Ds {l : Loc → Mo Bool} {loc : Loc} {Q : Bool → List ah → Prop} : W (tO l loc) M Q ↔ W (l loc) M fun a M1=>Q (!a) M1:=by
 unfold tO; rw [ca]; simp only [cb]
theorem DW {l : Loc → Mo Bool} {loc : Loc} {Q : Bool → List ah → Prop} (xx : W (l loc) M fun a M1=>Q (!a) M1) : W (tO l loc) M Q:=(Ds (l:=l) (loc:=loc) (Q:=Q)).mpr xx
theorem ua {l r : Loc → Mo Bool} {loc : Loc} {Q : Bool → List ah → Prop} : W (ki l r loc) M Q ↔ W (l loc) M fun a M1=>if a then W (r loc) M1 Q else Q false M1:=by
 unfold ki; rw [ca]
 refine ⟨fun h=>b9 h fun a M1 q=>?_,fun h=>b9 h fun a M1 q=>?_⟩ <;> cases a <;> first | exact q | exact cb.mp q | exact cb.mpr q
theorem io {l r : Loc → Mo Bool} {loc : Loc} {Q : Bool → List ah → Prop} (xx : W (l loc) M fun a M1=>if a then W (r loc) M1 Q else Q false M1) : W (ki l r loc) M Q:=(ua (l:=l) (r:=r) (loc:=loc) (Q:=Q)).mpr xx
theorem BD {l r : Loc → Mo Bool} {loc : Loc} {Q : Bool → List ah → Prop} : W (tOr l r loc) M Q ↔ W (l loc) M fun a M1=>if a then Q true M1 else W (r loc) M1 Q:=by
 unfold tOr; rw [ca]
 refine ⟨fun h=>b9 h fun a M1 q=>?_,fun h=>b9 h fun a M1 q=>?_⟩ <;> cases a <;> first | exact q | exact cb.mp q | exact cb.mpr q
theorem BP {l r : Loc → Mo Bool} {loc : Loc} {Q : Bool → List ah → Prop} (xx : W (l loc) M fun a M1=>if a then Q true M1 else W (r loc) M1 Q) : W (tOr l r loc) M Q:=(BD (l:=l) (r:=r) (loc:=loc) (Q:=Q)).mpr xx
theorem xo {c : Bool} {m n : Mo α} {Q : α → List ah → Prop} : W (if c then m else n) M Q ↔ if c then W m M Q else W n M Q:=by cases c <;> rfl
theorem Kv {c : Bool} {m n : Mo α} {Q : α → List ah → Prop} (xx : if c then W m M Q else W n M Q) : W (if c then m else n) M Q:=(xo (c:=c) (m:=m) (n:=n) (Q:=Q)).mpr xx
theorem BQ {t : Loc → Mo Bool} {l r : Loc → Mo ae} {loc : Loc} {Q : ae → List ah → Prop} : W (eIf t l r loc) M Q ↔ W (t loc) M fun c M1=>if c then W (l loc) M1 Q else W (r loc) M1 Q:=by
 unfold eIf; rw [ca]; simp only [xo]
theorem tt {t : Loc → Mo Bool} {l r : Loc → Mo ae} {loc : Loc} {Q : ae → List ah → Prop} (xx : W (t loc) M fun c M1=>if c then W (l loc) M1 Q else W (r loc) M1 Q) : W (eIf t l r loc) M Q:=(BQ (t:=t) (l:=l) (r:=r) (loc:=loc) (Q:=Q)).mpr xx
theorem hU {loc : Loc} {Q : Fl × Loc → List ah → Prop} : W (bD loc) M Q ↔ Q (.next,loc) M:=cb
theorem cA {loc : Loc} {Q : Fl × Loc → List ah → Prop} (xx : Q (.next,loc) M) : W (bD loc) M Q:=(hU (loc:=loc) (Q:=Q)).mpr xx
theorem vO {m ms : Loc → Mo (Fl × Loc)} {loc : Loc} {Q : Fl × Loc → List ah → Prop} : W (au m ms loc) M Q ↔ W (m loc) M fun r M1=>match r.1 with
  | .next=>W (ms r.2) M1 Q
  | f=>Q (f,r.2) M1:=by
 unfold au; rw [ca]
 constructor
 ·intro h; refine b9 h fun r M1 q=>?_
  obtain ⟨f,l⟩:=r
  cases f <;> first | exact q | exact cb.mp q
 ·intro h; refine b9 h fun r M1 q=>?_
  obtain ⟨f,l⟩:=r
  cases f <;> first | exact q | exact cb.mpr q
theorem Kt {m ms : Loc → Mo (Fl × Loc)} {loc : Loc} {Q : Fl × Loc → List ah → Prop} (xx : W (m loc) M fun r M1=>match r.1 with
  | .next=>W (ms r.2) M1 Q
  | f=>Q (f,r.2) M1) : W (au m ms loc) M Q:=(vO (m:=m) (ms:=ms) (loc:=loc) (Q:=Q)).mpr xx
theorem u3 {i : Nat} {l : Loc → Mo ae} {loc : Loc} {Q : Fl × Loc → List ah → Prop} : W (a7 i l loc) M Q ↔ W (l loc) M fun a M1=>Q (.next,loc.set i (some a)) M1:=by
 unfold a7; rw [ca]; simp only [cb]
theorem aP {i : Nat} {l : Loc → Mo ae} {loc : Loc} {Q : Fl × Loc → List ah → Prop} (xx : W (l loc) M fun a M1=>Q (.next,loc.set i (some a)) M1) : W (a7 i l loc) M Q:=(u3 (i:=i) (l:=l) (loc:=loc) (Q:=Q)).mpr xx
theorem Bb {l : Loc → Mo ae} {loc : Loc} {Q : Fl × Loc → List ah → Prop} : W (bx l loc) M Q ↔ W (l loc) M fun a M1=>Q (.next,loc) M1:=by
 unfold bx; rw [ca]; simp only [cb]
theorem bu {l : Loc → Mo ae} {loc : Loc} {Q : Fl × Loc → List ah → Prop} (xx : W (l loc) M fun a M1=>Q (.next,loc) M1) : W (bx l loc) M Q:=(Bb (l:=l) (loc:=loc) (Q:=Q)).mpr xx
theorem gh {l : Loc → Mo ae} {loc : Loc} {Q : Fl × Loc → List ah → Prop} : W (bL l loc) M Q ↔ W (l loc) M fun a M1=>Q (.ret a,loc) M1:=by
 unfold bL; rw [ca]; simp only [cb]
theorem a8 {l : Loc → Mo ae} {loc : Loc} {Q : Fl × Loc → List ah → Prop} (xx : W (l loc) M fun a M1=>Q (.ret a,loc) M1) : W (bL l loc) M Q:=(gh (l:=l) (loc:=loc) (Q:=Q)).mpr xx
theorem Aq {loc : Loc} {Q : Fl × Loc → List ah → Prop} : W (v5 loc) M Q ↔ Q (.ret .none,loc) M:=cb
theorem Bi {loc : Loc} {Q : Fl × Loc → List ah → Prop} (xx : Q (.ret .none,loc) M) : W (v5 loc) M Q:=(Aq (loc:=loc) (Q:=Q)).mpr xx
theorem C5 {loc : Loc} {Q : Fl × Loc → List ah → Prop} : W (yr loc) M Q ↔ Q (.brk,loc) M:=cb
theorem CO {loc : Loc} {Q : Fl × Loc → List ah → Prop} (xx : Q (.brk,loc) M) : W (yr loc) M Q:=(C5 (loc:=loc) (Q:=Q)).mpr xx
theorem kJ {t : Loc → Mo Bool} {m n : Loc → Mo (Fl × Loc)} {loc : Loc} {Q : Fl × Loc → List ah → Prop} : W (sIf t m n loc) M Q ↔ W (t loc) M fun c M1=>if c then W (m loc) M1 Q else W (n loc) M1 Q:=by
 unfold sIf; rw [ca]; simp only [xo]
theorem cH {t : Loc → Mo Bool} {m n : Loc → Mo (Fl × Loc)} {loc : Loc} {Q : Fl × Loc → List ah → Prop} (xx : W (t loc) M fun c M1=>if c then W (m loc) M1 Q else W (n loc) M1 Q) : W (sIf t m n loc) M Q:=(kJ (t:=t) (m:=m) (n:=n) (loc:=loc) (Q:=Q)).mpr xx
theorem p9 {f : ae → ae → Mo Unit} {o l : Loc → Mo ae} {loc : Loc} {Q : Fl × Loc → List ah → Prop} : W (bk f o l loc) M Q ↔ W (l loc) M fun v M1=>W (o loc) M1 fun ov M2=>W (f ov v) M2 fun _ M3=>Q (.next,loc) M3:=by
 unfold bk; simp only [ca,cb]
theorem jV {f : ae → ae → Mo Unit} {o l : Loc → Mo ae} {loc : Loc} {Q : Fl × Loc → List ah → Prop} (xx : W (l loc) M fun v M1=>W (o loc) M1 fun ov M2=>W (f ov v) M2 fun _ M3=>Q (.next,loc) M3) : W (bk f o l loc) M Q:=(p9 (f:=f) (o:=o) (l:=l) (loc:=loc) (Q:=Q)).mpr xx
theorem A6 {f : ae → ae → ae → Mo Unit} {o k l : Loc → Mo ae} {loc : Loc} {Q : Fl × Loc → List ah → Prop} : W (gC f o k l loc) M Q ↔ W (l loc) M fun v M1=>W (o loc) M1 fun ov M2=>W (k loc) M2 fun kv M3=>W (f ov kv v) M3 fun _ M4=>Q (.next,loc) M4:=by
 unfold gC; simp only [ca,cb]
theorem mF {f : ae → ae → ae → Mo Unit} {o k l : Loc → Mo ae} {loc : Loc} {Q : Fl × Loc → List ah → Prop} (xx : W (l loc) M fun v M1=>W (o loc) M1 fun ov M2=>W (k loc) M2 fun kv M3=>W (f ov kv v) M3 fun _ M4=>Q (.next,loc) M4) : W (gC f o k l loc) M Q:=(A6 (f:=f) (o:=o) (k:=k) (l:=l) (loc:=loc) (Q:=Q)).mpr xx
theorem nj {g p : ae → ae → Mo ae} {f : ae → ae → ae → Mo Unit} {o k l : Loc → Mo ae} {loc : Loc} {Q : Fl × Loc → List ah → Prop} : W (eQ g p f o k l loc) M Q ↔ W (o loc) M fun ov M1=>W (k loc) M1 fun kv M2=>W (g ov kv) M2 fun old M3=>W (l loc) M3 fun v M4=>W (p old v) M4 fun new M5=>W (f ov kv new) M5 fun _ M6=>Q (.next,loc) M6:=by
 unfold eQ; simp only [ca,cb]
theorem Ca {g p : ae → ae → Mo ae} {f : ae → ae → ae → Mo Unit} {o k l : Loc → Mo ae} {loc : Loc} {Q : Fl × Loc → List ah → Prop} (xx : W (o loc) M fun ov M1=>W (k loc) M1 fun kv M2=>W (g ov kv) M2 fun old M3=>W (l loc) M3 fun v M4=>W (p old v) M4 fun new M5=>W (f ov kv new) M5 fun _ M6=>Q (.next,loc) M6) : W (eQ g p f o k l loc) M Q:=(nj (g:=g) (p:=p) (f:=f) (o:=o) (k:=k) (l:=l) (loc:=loc) (Q:=Q)).mpr xx
theorem vt {k n : Nat} {dfl : List ae} {m : Loc → Mo (Fl × Loc)} {as : List ae} {Q : ae → List ah → Prop} (h : ¬ (as.length + dfl.length < k ∨ k < as.length)) :
  W (aO k n dfl m as) M Q ↔ W (m (fR n (as ++ dfl.drop (dfl.length - (k - as.length))))) M fun r M1=>match r.1 with
   | .ret v=>Q v M1
   | _=>Q .none M1:=by
 unfold aO; rw [if_neg h]; unfold BG; rw [ca]
 constructor
 ·intro z; refine b9 z fun r M1 q=>?_
  obtain ⟨f,l⟩:=r
  cases f <;> exact cb.mp q
 ·intro z; refine b9 z fun r M1 q=>?_
  obtain ⟨f,l⟩:=r
  cases f <;> exact cb.mpr q
theorem jX {k n : Nat} {dfl : List ae} {m : Loc → Mo (Fl × Loc)} {as : List ae} {Q : ae → List ah → Prop} (h : ¬ (as.length + dfl.length < k ∨ k < as.length)) (xx : W (m (fR n (as ++ dfl.drop (dfl.length - (k - as.length))))) M fun r M1=>match r.1 with
   | .ret v=>Q v M1
   | _=>Q .none M1) : W (aO k n dfl m as) M Q:=(vt (k:=k) (n:=n) (dfl:=dfl) (m:=m) (as:=as) (Q:=Q) (h:=h)).mpr xx
noncomputable def iU (Q : ae → List ah → Prop) (r : Fl × Loc) (M1 : List ah) : Prop:=match r.1 with
 | .ret v=>Q v M1
 | _=>Q .none M1
theorem sR {k n : Nat} {dfl : List ae} {m : Loc → Mo (Fl × Loc)} {as : List ae} {Q : ae → List ah → Prop} {loc0 : Loc} (h : ¬ (as.length + dfl.length < k ∨ k < as.length)) (hl : fR n (as ++ dfl.drop (dfl.length - (k - as.length))) = loc0) :
  W (aO k n dfl m as) M Q ↔ W (m loc0) M (iU Q):=by
 subst hl
 exact vt h
theorem bK {k n : Nat} {dfl : List ae} {m : Loc → Mo (Fl × Loc)} {as : List ae} {Q : ae → List ah → Prop} {loc0 : Loc} (h : ¬ (as.length + dfl.length < k ∨ k < as.length)) (hl : fR n (as ++ dfl.drop (dfl.length - (k - as.length))) = loc0) (xx : W (m loc0) M (iU Q)) : W (aO k n dfl m as) M Q:=(sR (k:=k) (n:=n) (dfl:=dfl) (m:=m) (as:=as) (Q:=Q) (loc0:=loc0) (h:=h) (hl:=hl)).mpr xx
theorem fF {Q : ae → List ah → Prop} {v : ae} {l : Loc} {M1 : List ah} : iU Q (.ret v,l) M1 ↔ Q v M1:=Iff.rfl
theorem aF {Q : ae → List ah → Prop} {v : ae} {l : Loc} {M1 : List ah} (xx : Q v M1) : iU Q (.ret v,l) M1:=(fF (Q:=Q) (v:=v) (l:=l) (M1:=M1)).mpr xx
theorem wF {Q : ae → List ah → Prop} {l : Loc} {M1 : List ah} : iU Q (.next,l) M1 ↔ Q .none M1:=Iff.rfl
theorem eC {Q : ae → List ah → Prop} {l : Loc} {M1 : List ah} (xx : Q .none M1) : iU Q (.next,l) M1:=(wF (Q:=Q) (l:=l) (M1:=M1)).mpr xx
theorem yc {i : Nat} {l : Loc → Mo ae} {m : Loc → Mo (Fl × Loc)} {loc : Loc} {Q : Fl × Loc → List ah → Prop} : W (dW i l m loc) M Q ↔ W (l loc) M fun a M1=>∃ as,cR a = some as ∧ W (dU i m as loc) M1 Q:=by
 unfold dW; rw [ca]
 constructor
 ·intro h; refine b9 h fun a M1 q=>?_
  cases e : cR a with
  | none=>rw [e] at q; obtain ⟨_,_,z,_⟩:=q; cases z
  | some as=>rw [e] at q; exact ⟨as,rfl,q⟩
 ·intro h; refine b9 h fun a M1 ⟨as,e,q⟩=>?_
  rw [e]; exact q
theorem ci {i : Nat} {l : Loc → Mo ae} {m : Loc → Mo (Fl × Loc)} {loc : Loc} {Q : Fl × Loc → List ah → Prop} (xx : W (l loc) M fun a M1=>∃ as,cR a = some as ∧ W (dU i m as loc) M1 Q) : W (dW i l m loc) M Q:=(yc (i:=i) (l:=l) (m:=m) (loc:=loc) (Q:=Q)).mpr xx
theorem f9 {i : Nat} {m : Loc → Mo (Fl × Loc)} {loc : Loc} {Q : Fl × Loc → List ah → Prop} : W (dU i m [] loc) M Q ↔ Q (.next,loc) M:=cb
theorem bN {i : Nat} {m : Loc → Mo (Fl × Loc)} {loc : Loc} {Q : Fl × Loc → List ah → Prop} (xx : Q (.next,loc) M) : W (dU i m [] loc) M Q:=(f9 (i:=i) (m:=m) (loc:=loc) (Q:=Q)).mpr xx
theorem xd {i : Nat} {m : Loc → Mo (Fl × Loc)} {a : ae} {as : List ae} {loc : Loc} {Q : Fl × Loc → List ah → Prop} : W (dU i m (a :: as) loc) M Q ↔ W (m (loc.set i (some a))) M fun r M1=>match r.1 with
  | .next=>W (dU i m as r.2) M1 Q
  | .brk=>Q (.next,r.2) M1
  | .ret v=>Q (.ret v,r.2) M1:=by
 show W (bnd _ _) M Q ↔ _
 rw [ca]
 constructor
 ·intro h; refine b9 h fun r M1 q=>?_
  obtain ⟨f,l⟩:=r
  cases f <;> first | exact q | exact cb.mp q
 ·intro h; refine b9 h fun r M1 q=>?_
  obtain ⟨f,l⟩:=r
  cases f <;> first | exact q | exact cb.mpr q
theorem aY {i : Nat} {m : Loc → Mo (Fl × Loc)} {a : ae} {as : List ae} {loc : Loc} {Q : Fl × Loc → List ah → Prop} (xx : W (m (loc.set i (some a))) M fun r M1=>match r.1 with
  | .next=>W (dU i m as r.2) M1 Q
  | .brk=>Q (.next,r.2) M1
  | .ret v=>Q (.ret v,r.2) M1) : W (dU i m (a :: as) loc) M Q:=(xd (i:=i) (m:=m) (a:=a) (as:=as) (loc:=loc) (Q:=Q)).mpr xx
theorem vF {t : Loc → Mo Bool} {m : Loc → Mo (Fl × Loc)} {n : Nat} {loc : Loc} {Q : Fl × Loc → List ah → Prop} : W (dy t m (n + 1) loc) M Q ↔ W (t loc) M fun c M1=>if c then W (m loc) M1 fun r M2=>(match r.1 with
   | .next=>W (dy t m n r.2) M2 Q
   | .brk=>Q (.next,r.2) M2
   | .ret v=>Q (.ret v,r.2) M2) else Q (.next,loc) M1:=by
 show W (bnd _ _) M Q ↔ _
 rw [ca]
 constructor
 ·intro h; refine b9 h fun c M1 q=>?_
  cases c with
  | false=>exact cb.mp q
  | true=>
   rw [if_pos rfl] at q ⊢
   refine b9 (ca.mp q) fun r M2 q=>?_
   obtain ⟨f,l⟩:=r
   cases f <;> first | exact q | exact cb.mp q
 ·intro h; refine b9 h fun c M1 q=>?_
  cases c with
  | false=>exact cb.mpr q
  | true=>
   rw [if_pos rfl] at q ⊢
   refine ca.mpr (b9 q fun r M2 q=>?_)
   obtain ⟨f,l⟩:=r
   cases f <;> first | exact q | exact cb.mpr q
theorem g8 {t : Loc → Mo Bool} {m : Loc → Mo (Fl × Loc)} {n : Nat} {loc : Loc} {Q : Fl × Loc → List ah → Prop} (xx : W (t loc) M fun c M1=>if c then W (m loc) M1 fun r M2=>(match r.1 with
   | .next=>W (dy t m n r.2) M2 Q
   | .brk=>Q (.next,r.2) M2
   | .ret v=>Q (.ret v,r.2) M2) else Q (.next,loc) M1) : W (dy t m (n + 1) loc) M Q:=(vF (t:=t) (m:=m) (n:=n) (loc:=loc) (Q:=Q)).mpr xx
theorem bi {n : Nat} (h : n ≤ 1000000) : bW n = true:=decide_eq_true h
theorem mG {ms : Loc → Mo (List ae)} {loc : Loc} {Q : ae → List ah → Prop} : W (bB ms loc) M Q ↔ W (ms loc) M fun vs M1=>bW vs.length = true ∧ Q (.mref M1.length) (M1 ++ [.lst vs]):=by
 unfold bB; rw [ca]
 constructor
 ·intro h; refine b9 h fun vs M1 ⟨a,M2,e,q⟩=>?_
  split at e
  ·rename_i hs; cases e; exact ⟨hs,q⟩
  ·cases e
 ·intro h; refine b9 h fun vs M1 ⟨hs,q⟩=>⟨_,_,?_,q⟩
  show (if bW vs.length then _ else _) = _
  rw [if_pos hs]; rfl
theorem cU {ms : Loc → Mo (List ae)} {loc : Loc} {Q : ae → List ah → Prop} (xx : W (ms loc) M fun vs M1=>bW vs.length = true ∧ Q (.mref M1.length) (M1 ++ [.lst vs])) : W (bB ms loc) M Q:=(mG (ms:=ms) (loc:=loc) (Q:=Q)).mpr xx
theorem bH {M : List ah} {o : ah} : (M ++ [o])[M.length]? = some o:=by simp
theorem cB {M : List ah} {o o' : ah} : (M ++ [o]).set M.length o' = M ++ [o']:=by simp
theorem kI {l : Loc → Mo ae} {loc : Loc} {Q : ae → List ah → Prop} : W (aD l loc) M Q ↔ W (l loc) M fun a M1=>∃ i mo v,a = .mref i ∧ M1[i]? = some mo ∧ froz mo = some v ∧ Q v (M1.set i .gone):=by
 unfold aD; rw [ca]
 constructor
 ·intro h; refine b9 h fun a M1 ⟨b,M2,e,q⟩=>?_
  cases a with
  | mref i=>
   dsimp only at e
   cases hm : M1[i]? with
   | none=>rw [hm] at e; cases e
   | some mo=>
    rw [hm] at e
    dsimp only at e
    cases hf : froz mo with
    | none=>rw [hf] at e; cases e
    | some v=>rw [hf] at e; cases e; exact ⟨i,mo,_,rfl,hm,hf,q⟩
  | _=>cases e
 ·intro h; refine b9 h fun a M1 ⟨i,mo,v,ea,hm,hf,q⟩=>?_
  subst ea
  refine ⟨v,_,?_,q⟩
  dsimp only
  rw [hm]; dsimp only; rw [hf]
theorem lQ {l : Loc → Mo ae} {loc : Loc} {Q : ae → List ah → Prop} (xx : W (l loc) M fun a M1=>∃ i mo v,a = .mref i ∧ M1[i]? = some mo ∧ froz mo = some v ∧ Q v (M1.set i .gone)) : W (aD l loc) M Q:=(kI (l:=l) (loc:=loc) (Q:=Q)).mpr xx
theorem jd {ms : Loc → Mo (List ae)} {loc : Loc} {Q : ae → List ah → Prop} : W (aD (bB ms) loc) M Q ↔ W (ms loc) M fun vs M1=>bW vs.length = true ∧ Q (.lst vs) (M1 ++ [.gone]):=by
 rw [kI,mG]
 constructor
 ·intro h; refine b9 h fun vs M1 ⟨hs,i,mo,v,e1,e2,e3,q⟩=>?_
  cases e1
  rw [bH] at e2; cases e2; cases e3
  rw [cB] at q
  exact ⟨hs,q⟩
 ·intro h; refine b9 h fun vs M1 ⟨hs,q⟩=>⟨hs,_,_,_,rfl,bH,rfl,?_⟩
  rw [cB]; exact q
theorem lu {ms : Loc → Mo (List ae)} {loc : Loc} {Q : ae → List ah → Prop} (xx : W (ms loc) M fun vs M1=>bW vs.length = true ∧ Q (.lst vs) (M1 ++ [.gone])) : W (aD (bB ms) loc) M Q:=(jd (ms:=ms) (loc:=loc) (Q:=Q)).mpr xx
end
noncomputable def jf (ms : Loc → Mo (Fl × Loc)) (Q : Fl × Loc → List ah → Prop) (r : Fl × Loc) (M1 : List ah) : Prop:=match r.1 with
 | .next=>W (ms r.2) M1 Q
 | f=>Q (f,r.2) M1
theorem iI {ms : Loc → Mo (Fl × Loc)} {Q : Fl × Loc → List ah → Prop} {v : ae} {l : Loc} {M1 : List ah} : jf ms Q (.ret v,l) M1 ↔ Q (.ret v,l) M1:=Iff.rfl
theorem aX {ms : Loc → Mo (Fl × Loc)} {Q : Fl × Loc → List ah → Prop} {v : ae} {l : Loc} {M1 : List ah} (xx : Q (.ret v,l) M1) : jf ms Q (.ret v,l) M1:=(iI (ms:=ms) (Q:=Q) (v:=v) (l:=l) (M1:=M1)).mpr xx
theorem dP {ms : Loc → Mo (Fl × Loc)} {Q : Fl × Loc → List ah → Prop} {l : Loc} {M1 : List ah} : jf ms Q (.next,l) M1 ↔ W (ms l) M1 Q:=Iff.rfl
theorem aj {ms : Loc → Mo (Fl × Loc)} {Q : Fl × Loc → List ah → Prop} {l : Loc} {M1 : List ah} (xx : W (ms l) M1 Q) : jf ms Q (.next,l) M1:=(dP (ms:=ms) (Q:=Q) (l:=l) (M1:=M1)).mpr xx
theorem eV {m ms : Loc → Mo (Fl × Loc)} {loc : Loc} {M : List ah} {Q : Fl × Loc → List ah → Prop} : W (au m ms loc) M Q ↔ W (m loc) M (jf ms Q):=vO
theorem aB {m ms : Loc → Mo (Fl × Loc)} {loc : Loc} {M : List ah} {Q : Fl × Loc → List ah → Prop} (xx : W (m loc) M (jf ms Q)) : W (au m ms loc) M Q:=(eV (m:=m) (ms:=ms) (loc:=loc) (M:=M) (Q:=Q)).mpr xx
theorem xt {m ms : Loc → Mo (Fl × Loc)} {loc l : Loc} {M M1 : List ah} {Q : Fl × Loc → List ah → Prop} (h : m loc M = some ((.next,l),M1)) (x : W (ms l) M1 Q) : W (au m ms loc) M Q:=eV.mpr (wr h x)
theorem vP {p : Prop} [Decidable p] {A B : Prop} (ha : p → A) (hb : ¬p → B) : if decide p = true then A else B:=by
 by_cases h : p
 ·rw [if_pos (decide_eq_true h)]; exact ha h
 ·rw [if_neg (by simp [h])]; exact hb h
end Mine
end
section
namespace Mine
noncomputable def tyV (n : Int) (form : Str) (size : Int) (base params : ae) : ae:=.inst 219 [("number",.int n),("form",.str form),("size",.int size),("base",base),("length",.int 0),("fields",.lst []),("level",.int 0),("params",params),("module",.str ""),("label",.str ""),("hidden",.lst []),("exno",.int 0)]
noncomputable def obV (name kind : Str) (ty : ae) (level : Int) (mod : Str) (value : ae) (slot : Int) : ae:=.inst 240 [("name",.str name),("kind",.str kind),("type",ty),("place",.int 0),("exported",.bool false),("readonly",.bool false),("level",.int level),("module",.str mod),("value",value),("slot",.int slot),("offset",.int 0),("number",.int 0),("isparam",.bool false),("narrowed",.none)]
noncomputable def ndF (op : Str) (place : ae) (ty kids value : ae) : List (Str × ae):=[("op",.str op),("place",place),("type",ty),("kids",kids),("value",value),("sure",.bool false)]
noncomputable def ndV (op : Str) (place : Int) (ty : ae) (kids : List ae) (value : ae) : ae:=.inst 32 (ndF op (.int place) ty (.lst kids) value)
noncomputable def dE : ae:=tyV 4 "integer" 4 .none (.lst [])
noncomputable def iw : ae:=tyV 1 "boolean" 1 .none (.lst [])
noncomputable def BY : ae:=tyV 7 "none" 0 .none (.lst [])
noncomputable def dG : ae:=tyV 8 "proc" 4 BY (.lst [obV "x" "par" dE 0 "" .none 0,obV "y" "var" dE 0 "" .none 0])
noncomputable def fk : ae:=obV "Q" "proc" dG 0 "M" (.str "Q") 0
noncomputable def nmS : Nat → Str
 | 0 => "a" | 1 => "b" | 2 => "c" | _ => "d"
noncomputable def c8 (s : Fin 4) : ae:=obV (nmS s.val) "var" dE 1 "" .none (s.val : Int)
noncomputable def vR : List ae:=[c8 0,c8 1,c8 2,c8 3]
noncomputable def Cn : ah:=.inst 276 [("counter",.int 8),("known",.mref 4),("boolean",iw),("char",tyV 2 "char" 1 .none (.lst [])),("byte",tyV 3 "byte" 1 .none (.lst [])),("integer",dE),("mask",tyV 5 "set" 4 .none (.lst [])),("nil",tyV 6 "nil" 4 .none (.lst [])),("none",BY)]
noncomputable def BL (n k : Int) : ah:=.sdict [("types",.mref 3),("place",.int n),("spare",.int k),("vars",.mref 33),("callee",fk)]
noncomputable def gd (procs body result : ae) : ah:=.inst 60 [("obj",.mref 47),("params",.lst []),("locals",.lst vR),("procs",procs),("body",body),("result",result),("level",.int 1)]
noncomputable def En : ah:=match obV "P" "proc" dG 0 "" .none 0 with
 | .inst C fs=>.inst C fs
 | _=>.gone
noncomputable def H (A : List ae) (pool : List Int) (n k : Int) (t : ah) (J : List ah) : List ah:=
 .lst A :: .gone :: .lst (pool.map .int) :: Cn :: .idict [] :: (List.replicate 28 .gone ++ (.lst vR :: BL n k :: (List.replicate 12 .gone ++ (En :: t :: .gone :: .gone :: .gone :: .gone :: J))))
theorem gm (A : List ae) (pool : List Int) (n k : Int) (t : ah) (J X : List ah) : H A pool n k t J ++ X = H A pool n k t (J ++ X):=rfl
noncomputable def FZ (Q : ae → List ah → Prop) (vs : List ae) (M1 : List ah) : Prop:=bW vs.length = true ∧ Q (.lst vs) (M1 ++ [.gone])
theorem im {ms : Loc → Mo (List ae)} {loc : Loc} {M : List ah} {Q : ae → List ah → Prop} (x : W (ms loc) M fun vs M1=>FZ Q vs M1) : W (aD (bB ms) loc) M Q:=lu x
theorem ko {A : List ae} {pool : List Int} {n k : Int} {t : ah} {J : List ah} {vs : List ae} {Q : ae → List ah → Prop} (hs : bW vs.length = true) (x : Q (.lst vs) (H A pool n k t (J ++ [.gone]))) : FZ Q vs (H A pool n k t J):=⟨hs,x⟩
noncomputable def Grw (J J2 : List ah) : Prop:=∃ X,J2 = J ++ X
theorem Grw.nil {J : List ah} : Grw J J:=⟨[],(List.append_nil J).symm⟩
theorem Grw.app {J J2 X : List ah} : Grw J J2 → Grw J (J2 ++ X)
 | ⟨Y,e⟩=>⟨Y ++ X,by rw [e,List.append_assoc]⟩
theorem cQ {M : List ah} {C : Addr} {fs : List (Str × ae)} {x : Str} {v : ae} {Q : Unit → List ah → Prop} (hC : cL.contains C = true) (hl : decide (fs.length ≤ 900) = true) : W (bR x (.mref M.length) v) (M ++ [.inst C fs]) Q ↔ Q () (M ++ [.inst C (jG x v fs)]):=by
 refine bI ?_
 unfold bR
 dsimp only
 rw [bH]
 dsimp only
 rw [hC,hl,cB]; rfl
theorem wE (c : Fn → List ae → Mo ae) (M : List ah) (op : Str) (place ty kids value : ae) : mf c .Node [.str op,place,ty,kids,value] M = some (.mref M.length,M ++ [.inst 32 (ndF op place ty kids value)]):=by
 have h : W (aO 6 6 [.none] (df c) [.mref M.length,.str op,place,ty,kids,value]) (M ++ [.inst 32 []]) (fun v M'=>v = .none ∧ M' = M ++ [.inst 32 (ndF op place ty kids value)]):=by
  refine jX (by simp) ?_
  unfold df
  simp only [vO,p9,dq,List.length_cons,List.length_nil]
  refine ao (v:=.str op) rfl (ao (v:=.mref M.length) rfl ?_)
  rw [cQ rfl (by kernel_rfl)]
  refine ao (v:=place) rfl (ao (v:=.mref M.length) rfl ?_)
  rw [cQ rfl (by kernel_rfl)]
  refine ao (v:=ty) rfl (ao (v:=.mref M.length) rfl ?_)
  rw [cQ rfl (by kernel_rfl)]
  refine ao (v:=kids) rfl (ao (v:=.mref M.length) rfl ?_)
  rw [cQ rfl (by kernel_rfl)]
  refine ao (v:=value) rfl (ao (v:=.mref M.length) rfl ?_)
  rw [cQ rfl (by kernel_rfl)]
  refine ao (v:=.mref M.length) rfl ?_
  rw [cQ rfl (by kernel_rfl)]
  refine ⟨trivial,?_⟩
  congr 2
 obtain ⟨a,M',e,rfl,rfl⟩:=h
 show gQ 32 _ _ M = _
 unfold gQ
 rw [e]
theorem uf (c : Fn → List ae → Mo ae) (M : List ah) (op : Str) (place ty kids : ae) : mf c .Node [.str op,place,ty,kids] M = some (.mref M.length,M ++ [.inst 32 (ndF op place ty kids .none)]):=by
 have h : W (aO 6 6 [.none] (df c) [.mref M.length,.str op,place,ty,kids]) (M ++ [.inst 32 []]) (fun v M'=>v = .none ∧ M' = M ++ [.inst 32 (ndF op place ty kids .none)]):=by
  refine jX (by simp) ?_
  unfold df
  simp only [vO,p9,dq,List.length_cons,List.length_nil]
  refine ao (v:=.str op) rfl (ao (v:=.mref M.length) rfl ?_)
  rw [cQ rfl (by kernel_rfl)]
  refine ao (v:=place) rfl (ao (v:=.mref M.length) rfl ?_)
  rw [cQ rfl (by kernel_rfl)]
  refine ao (v:=ty) rfl (ao (v:=.mref M.length) rfl ?_)
  rw [cQ rfl (by kernel_rfl)]
  refine ao (v:=kids) rfl (ao (v:=.mref M.length) rfl ?_)
  rw [cQ rfl (by kernel_rfl)]
  refine ao (v:=.none) rfl (ao (v:=.mref M.length) rfl ?_)
  rw [cQ rfl (by kernel_rfl)]
  refine ao (v:=.mref M.length) rfl ?_
  rw [cQ rfl (by kernel_rfl)]
  refine ⟨trivial,?_⟩
  congr 2
 obtain ⟨a,M',e,rfl,rfl⟩:=h
 show gQ 32 _ _ M = _
 unfold gQ
 rw [e]
noncomputable def mr (Q : ae → List ah → Prop) (a : ae) (M2 : List ah) : Prop:=∃ i mo v,a = .mref i ∧ M2[i]? = some mo ∧ froz mo = some v ∧ Q v (M2.set i .gone)
theorem tQ {c : Fn → List ae → Mo ae} {ms : Loc → Mo (List ae)} {loc : Loc} {M : List ah} {Q : ae → List ah → Prop} {d : Nat} (hc : c = sem (d + 1)) :
  W (aD (aq (c .Node) ms) loc) M Q ↔ W (ms loc) M fun as M1=>W (mf (sem d) .Node as) M1 (mr Q):=by
 subst hc
 rw [kI,qF]; rfl
theorem dS {c : Fn → List ae → Mo ae} {ms : Loc → Mo (List ae)} {loc : Loc} {M : List ah} {Q : ae → List ah → Prop} {d : Nat} (hc : c = sem (d + 1)) (xx : W (ms loc) M fun as M1=>W (mf (sem d) .Node as) M1 (mr Q)) : W (aD (aq (c .Node) ms) loc) M Q:=(tQ (c:=c) (ms:=ms) (loc:=loc) (M:=M) (Q:=Q) (d:=d) (hc:=hc)).mpr xx
theorem EC {c : Fn → List ae → Mo ae} {M : List ah} {op : Str} {place ty kids value : ae} {Q : ae → List ah → Prop} :
  W (mf c .Node [.str op,place,ty,kids,value]) M (mr Q) ↔ Q (.inst 32 (ndF op place ty kids value)) (M ++ [.gone]):=by
 rw [bI (wE c M op place ty kids value)]
 constructor
 ·rintro ⟨i,mo,v,e1,e2,e3,q⟩
  cases e1
  rw [bH] at e2; cases e2; cases e3
  rw [cB] at q; exact q
 ·intro q
  refine ⟨_,_,_,rfl,bH,rfl,?_⟩
  rw [cB]; exact q
theorem Fh {c : Fn → List ae → Mo ae} {M : List ah} {op : Str} {place ty kids value : ae} {Q : ae → List ah → Prop} (xx : Q (.inst 32 (ndF op place ty kids value)) (M ++ [.gone])) : W (mf c .Node [.str op,place,ty,kids,value]) M (mr Q):=(EC (c:=c) (M:=M) (op:=op) (place:=place) (ty:=ty) (kids:=kids) (value:=value) (Q:=Q)).mpr xx
theorem FC {c : Fn → List ae → Mo ae} {M : List ah} {op : Str} {place ty kids : ae} {Q : ae → List ah → Prop} :
  W (mf c .Node [.str op,place,ty,kids]) M (mr Q) ↔ Q (.inst 32 (ndF op place ty kids .none)) (M ++ [.gone]):=by
 rw [bI (uf c M op place ty kids)]
 constructor
 ·rintro ⟨i,mo,v,e1,e2,e3,q⟩
  cases e1
  rw [bH] at e2; cases e2; cases e3
  rw [cB] at q; exact q
 ·intro q
  refine ⟨_,_,_,rfl,bH,rfl,?_⟩
  rw [cB]; exact q
theorem BK {c : Fn → List ae → Mo ae} {M : List ah} {op : Str} {place ty kids : ae} {Q : ae → List ah → Prop} (xx : Q (.inst 32 (ndF op place ty kids .none)) (M ++ [.gone])) : W (mf c .Node [.str op,place,ty,kids]) M (mr Q):=(FC (c:=c) (M:=M) (op:=op) (place:=place) (ty:=ty) (kids:=kids) (Q:=Q)).mpr xx
theorem lV {c : Fn → List ae → Mo ae} {A : List ae} {pool : List Int} {n k : Int} {t : ah} {J : List ah} {op : Str} {place ty kids : ae} {Q : ae → List ah → Prop} (x : Q (.inst 32 (ndF op place ty kids .none)) (H A pool n k t (J ++ [.gone]))) : W (mf c .Node [.str op,place,ty,kids]) (H A pool n k t J) (mr Q):=BK x
section
variable {A : List ae} {pool : List Int} {n k : Int} {t : ah} {J : List ah} {d : Nat}
theorem yD : sem (d + 1) .f_law_place [.mref 34] (H A pool n k t J) = some (.int (n + 1),H A pool (n + 1) k t J):=by kernel_rfl
noncomputable def drV (pool : List Int) (b : Int) : Int:=match pool.getLast? with
 | some x=>x.fmod b
 | none=>0
theorem tR (pool : List Int) {b : Int} (hb : 0 < b) : 0 ≤ drV pool b ∧ drV pool b < b:=by
 unfold drV
 split
 ·exact ⟨Int.fmod_nonneg_of_pos _ hb,Int.fmod_lt_of_pos _ hb⟩
 ·exact ⟨Int.le_refl _,hb⟩
end
end Mine
end
section
open PySem PySem.W PySem.Spec PySem.Calls PySem.SeqAt PyProof.Rows
namespace Mine
theorem Bs {F : List ae → Mo ae} {o : Loc → Mo ae} {ms : Loc → Mo (List ae)} {loc : Loc} {M : List ah} {Q : ae → List ah → Prop} : W (bF F o ms loc) M Q ↔ W (o loc) M fun a M1=>∃ i vs,a = .mref i ∧ M1[i]? = some (.lst vs) ∧ W (ms loc) M1 fun as M2=>W (F (a :: as)) M2 Q:=by
 unfold bF
 rw [ca]
 constructor
 ·intro h; refine b9 h fun a M1 q=>?_
  rw [ca] at q
  obtain ⟨u,M2,e,q⟩:=q
  obtain ⟨i,vs,rfl,hm,rfl⟩:=oj e
  exact ⟨i,vs,rfl,hm,ca.mp q⟩
 ·intro h; refine b9 h fun a M1 ⟨i,vs,ea,hm,q⟩=>?_
  subst ea
  refine vi ?_
  refine uz (a:=()) (M':=M1) ?_ (ca.mpr q)
  unfold vZ; dsimp only; rw [hm]
theorem cr {F : List ae → Mo ae} {o : Loc → Mo ae} {ms : Loc → Mo (List ae)} {loc : Loc} {M : List ah} {Q : ae → List ah → Prop} (xx : W (o loc) M fun a M1=>∃ i vs,a = .mref i ∧ M1[i]? = some (.lst vs) ∧ W (ms loc) M1 fun as M2=>W (F (a :: as)) M2 Q) : W (bF F o ms loc) M Q:=(Bs (F:=F) (o:=o) (ms:=ms) (loc:=loc) (M:=M) (Q:=Q)).mpr xx
theorem pN {x y : Int} {M : List ah} {Q : ae → List ah → Prop} : W (oEq (.int x) (.int y)) M Q ↔ Q (.bool (decide (x = y))) M:=bI rfl
theorem eH {x y : Int} {M : List ah} {Q : ae → List ah → Prop} (xx : Q (.bool (decide (x = y))) M) : W (oEq (.int x) (.int y)) M Q:=(pN (x:=x) (y:=y) (M:=M) (Q:=Q)).mpr xx
theorem hZ {x y : Str} {M : List ah} {Q : ae → List ah → Prop} : W (oEq (.str x) (.str y)) M Q ↔ Q (.bool (decide (x = y))) M:=bI rfl
theorem ig {x y : Str} {M : List ah} {Q : ae → List ah → Prop} (xx : Q (.bool (decide (x = y))) M) : W (oEq (.str x) (.str y)) M Q:=(hZ (x:=x) (y:=y) (M:=M) (Q:=Q)).mpr xx
theorem Ai {x y : Str} {M : List ah} {Q : ae → List ah → Prop} : W (oNe (.str x) (.str y)) M Q ↔ Q (.bool (!decide (x = y))) M:=bI rfl
theorem v8 {x y : Str} {M : List ah} {Q : ae → List ah → Prop} (xx : Q (.bool (!decide (x = y))) M) : W (oNe (.str x) (.str y)) M Q:=(Ai (x:=x) (y:=y) (M:=M) (Q:=Q)).mpr xx
theorem vX {x y : Int} {M : List ah} {Q : ae → List ah → Prop} : W (oNe (.int x) (.int y)) M Q ↔ Q (.bool (!decide (x = y))) M:=bI rfl
theorem Bm {x y : Int} {M : List ah} {Q : ae → List ah → Prop} (xx : Q (.bool (!decide (x = y))) M) : W (oNe (.int x) (.int y)) M Q:=(vX (x:=x) (y:=y) (M:=M) (Q:=Q)).mpr xx
theorem EG {x y : Int} {M : List ah} {Q : ae → List ah → Prop} : W (eF (.int x) (.int y)) M Q ↔ Q (.int (x + y)) M:=bI rfl
theorem fJ {x y : Int} {M : List ah} {Q : ae → List ah → Prop} (xx : Q (.int (x + y)) M) : W (eF (.int x) (.int y)) M Q:=(EG (x:=x) (y:=y) (M:=M) (Q:=Q)).mpr xx
theorem BZ {x y : Int} {M : List ah} {Q : ae → List ah → Prop} : W (kN (.int x) (.int y)) M Q ↔ Q (.int (x - y)) M:=bI rfl
theorem vm {x y : Int} {M : List ah} {Q : ae → List ah → Prop} (xx : Q (.int (x - y)) M) : W (kN (.int x) (.int y)) M Q:=(BZ (x:=x) (y:=y) (M:=M) (Q:=Q)).mpr xx
theorem Eb {x y : Int} {M : List ah} {Q : ae → List ah → Prop} : W (oLt (.int x) (.int y)) M Q ↔ Q (.bool (decide (x < y))) M:=bI rfl
theorem Gp {x y : Int} {M : List ah} {Q : ae → List ah → Prop} (xx : Q (.bool (decide (x < y))) M) : W (oLt (.int x) (.int y)) M Q:=(Eb (x:=x) (y:=y) (M:=M) (Q:=Q)).mpr xx
theorem Ji {x y : Int} {M : List ah} {Q : ae → List ah → Prop} : W (oGt (.int x) (.int y)) M Q ↔ Q (.bool (decide (x > y))) M:=bI rfl
theorem wL {x y : Int} {M : List ah} {Q : ae → List ah → Prop} (xx : Q (.bool (decide (x > y))) M) : W (oGt (.int x) (.int y)) M Q:=(Ji (x:=x) (y:=y) (M:=M) (Q:=Q)).mpr xx
theorem Fa {x y : Int} {M : List ah} {Q : ae → List ah → Prop} : W (oGe (.int x) (.int y)) M Q ↔ Q (.bool (decide (x ≥ y))) M:=bI rfl
theorem KF {x y : Int} {M : List ah} {Q : ae → List ah → Prop} (xx : Q (.bool (decide (x ≥ y))) M) : W (oGe (.int x) (.int y)) M Q:=(Fa (x:=x) (y:=y) (M:=M) (Q:=Q)).mpr xx
theorem BX {x y : Int} {M : List ah} {Q : ae → List ah → Prop} (h : y ≠ 0) : W (tG (.int x) (.int y)) M Q ↔ Q (.int (x.fmod y)) M:=bI (by
 have h' : decide (y ≠ 0) = true:=decide_eq_true h
 show (if decide (y ≠ 0) = true then ret (.int (x.fmod y)) else dK : Mo ae) M = _
 rw [h']; rfl)
theorem EN {x y : Int} {M : List ah} {Q : ae → List ah → Prop} (h : y ≠ 0) (xx : Q (.int (x.fmod y)) M) : W (tG (.int x) (.int y)) M Q:=(BX (x:=x) (y:=y) (M:=M) (Q:=Q) (h:=h)).mpr xx
theorem gl {b : Bool} {Q : Bool → Prop} : (∃ c,ae.bool b = .bool c ∧ Q c) ↔ Q b:=⟨fun ⟨c,e,q⟩=>by cases e; exact q,fun q=>⟨b,rfl,q⟩⟩
theorem b7 {b : Bool} {Q : Bool → Prop} (xx : Q b) : (∃ c,ae.bool b = .bool c ∧ Q c):=(gl (b:=b) (Q:=Q)).mpr xx
theorem ga : ∀ ns : List Int,eB (ns.map .int) = some (ns.map .int)
 | []=>rfl
 | n :: r=>by
  rw [List.map_cons,List.map_cons]
  unfold eB
  rw [ga r]
  rfl
theorem nX : ∀ ns : List Int,PyData.canLayAll0 (ns.map .int) = true
 | []=>rfl
 | n :: r=>by
  rw [List.map_cons]
  unfold PyData.canLayAll0
  rw [nX r]; rfl
theorem jy : ∀ ns : List Int,PyData.depthAll (ns.map .int) = 0
 | []=>rfl
 | n :: r=>by
  rw [List.map_cons]
  unfold PyData.depthAll
  rw [jy r]; rfl
theorem iX (ns : List Int) : shaped (.list (ns.map .int)) = true:=by
 unfold shaped PyData.canLay0 PyData.depth
 rw [nX,jy]; rfl
section
variable {A : List ae} {pool : List Int} {n k : Int} {t : ah} {J : List ah} {d : Nat}
theorem D4 (X : ah) : (H A pool n k t J ++ [X])[(H A pool n k t J).length]? = some X:=bH
theorem uP : (H A pool n k t J)[2]? = some (.lst (pool.map .int)):=rfl
theorem AP (ns : List Int) : PyData.eqv (.list (ns.map .int)) (.list []) = ns.isEmpty:=by
 cases ns with
 | nil=>rfl
 | cons a r=>rw [PyData.eqv,List.map_cons]; simp [PyData.eqvAll]
theorem AW (hp : pool.length ≤ 1000000) {b : Int} (hb : b ≠ 0) : sem (d + 1) .f_law_draw [.mref 2,.int b] (H A pool n k t J) = some (.int (drV pool b),H A pool.dropLast n k t (J ++ [.lst []])):=by
 have h : W (sem (d + 1) .f_law_draw [.mref 2,.int b]) (H A pool n k t J) (fun v M'=>v = .int (drV pool b) ∧ M' = H A pool.dropLast n k t (J ++ [.lst []])):=by
  rw [tS]
  refine jX (by simp) ?_
  unfold gf
  simp only [gh,BQ,dN,dJ,mG,fO,dq]
  refine ao (v:=.mref 2) rfl ?_
  refine ⟨rfl,?_⟩
  have e1 : oNe (.mref 2) (.mref (H A pool n k t J).length) (H A pool n k t J ++ [.lst []]) = some (.bool (!pool.isEmpty),H A pool n k t J ++ [.lst []]):=by
   have e3 : cI (.mref 2) (H A pool n k t J ++ [.lst []]) = some (.list (pool.map .int)):=by
    unfold cI
    rw [gm]
    dsimp only
    rw [uP]
    dsimp only
    rw [ga]; rfl
   have e4 : cI (.mref (H A pool n k t J).length) (H A pool n k t J ++ [.lst []]) = some (.list []):=by
    unfold cI
    dsimp only
    rw [bH]; rfl
   unfold oNe
   dsimp only
   rw [e3,e4]
   dsimp only
   rw [iX,AP]; rfl
  refine gj e1 ?_
  simp only [gl]
  rw [gm]
  cases hpool : pool with
  | nil=>
   simp only [List.isEmpty_nil,Bool.not_true,Bool.false_eq_true,if_false]
   exact ⟨rfl,rfl⟩
  | cons x r=>
   rw [← hpool]
   have hne : pool.isEmpty = false:=by rw [hpool]; rfl
   simp only [hne,Bool.not_false,if_true]
   refine cr (ao (v:=.mref 2) rfl ?_)
   refine ⟨2,_,rfl,uP,?_⟩
   refine av ?_
   obtain ⟨z,hz⟩ : ∃ z,pool.getLast? = some z:=by rw [hpool]; exact ⟨_,List.getLast?_cons⟩
   have e5 : kP [.mref 2] (H A pool n k t (J ++ [.lst []])) = some (.int z,H A pool.dropLast n k t (J ++ [.lst []])):=by
    unfold kP
    dsimp only
    rw [uP]
    dsimp only
    rw [bi (by rw [List.length_map]; exact hp),if_pos rfl,List.getLast?_map,hz]
    dsimp only [Option.map_some]
    rw [← List.map_dropLast]
    rfl
   refine gj e5 (ao (v:=.int b) rfl (EN hb ?_))
   refine ⟨?_,rfl⟩
   unfold drV; rw [hz]
 obtain ⟨a,M',e,rfl,rfl⟩:=h
 exact e
theorem HA (x : Str) : (H A pool n k t J)[34]? = some (BL n k):=rfl
theorem Bf {Q : ae → List ah → Prop} : W (aV (.mref 34) (.str "types")) (H A pool n k t J) Q ↔ Q (.mref 3) (H A pool n k t J):=bI (by kernel_rfl)
theorem mR {Q : ae → List ah → Prop} (xx : Q (.mref 3) (H A pool n k t J)) : W (aV (.mref 34) (.str "types")) (H A pool n k t J) Q:=(Bf (Q:=Q)).mpr xx
theorem zq {Q : ae → List ah → Prop} : W (aV (.mref 34) (.str "vars")) (H A pool n k t J) Q ↔ Q (.mref 33) (H A pool n k t J):=bI (by kernel_rfl)
theorem JT {Q : ae → List ah → Prop} (xx : Q (.mref 33) (H A pool n k t J)) : W (aV (.mref 34) (.str "vars")) (H A pool n k t J) Q:=(zq (Q:=Q)).mpr xx
theorem yP {Q : ae → List ah → Prop} : W (aV (.mref 34) (.str "callee")) (H A pool n k t J) Q ↔ Q fk (H A pool n k t J):=bI (by kernel_rfl)
theorem tK {Q : ae → List ah → Prop} (xx : Q fk (H A pool n k t J)) : W (aV (.mref 34) (.str "callee")) (H A pool n k t J) Q:=(yP (Q:=Q)).mpr xx
theorem vB {Q : ae → List ah → Prop} : W (aV (.mref 34) (.str "spare")) (H A pool n k t J) Q ↔ Q (.int k) (H A pool n k t J):=bI (by kernel_rfl)
theorem AB {Q : ae → List ah → Prop} (xx : Q (.int k) (H A pool n k t J)) : W (aV (.mref 34) (.str "spare")) (H A pool n k t J) Q:=(vB (Q:=Q)).mpr xx
theorem wH {Q : ae → List ah → Prop} : W (aK "integer" (.mref 3)) (H A pool n k t J) Q ↔ Q dE (H A pool n k t J):=bI (by kernel_rfl)
theorem kO {Q : ae → List ah → Prop} (xx : Q dE (H A pool n k t J)) : W (aK "integer" (.mref 3)) (H A pool n k t J) Q:=(wH (Q:=Q)).mpr xx
theorem w7 {Q : ae → List ah → Prop} : W (aK "boolean" (.mref 3)) (H A pool n k t J) Q ↔ Q iw (H A pool n k t J):=bI (by kernel_rfl)
theorem wC {Q : ae → List ah → Prop} (xx : Q iw (H A pool n k t J)) : W (aK "boolean" (.mref 3)) (H A pool n k t J) Q:=(w7 (Q:=Q)).mpr xx
theorem vH {Q : ae → List ah → Prop} (s : Fin 4) : W (aV (.mref 33) (.int (s.val : Int))) (H A pool n k t J) Q ↔ Q (c8 s) (H A pool n k t J):=by
 match s with
 | 0=>exact bI (by kernel_rfl)
 | 1=>exact bI (by kernel_rfl)
 | 2=>exact bI (by kernel_rfl)
 | 3=>exact bI (by kernel_rfl)
theorem Gi {Q : ae → List ah → Prop} (s : Fin 4) (xx : Q (c8 s) (H A pool n k t J)) : W (aV (.mref 33) (.int (s.val : Int))) (H A pool n k t J) Q:=(vH (Q:=Q) (s:=s)).mpr xx
theorem wa {Q : ae → List ah → Prop} : W (sem (d + 1) .f_law_place [.mref 34]) (H A pool n k t J) Q ↔ Q (.int (n + 1)) (H A pool (n + 1) k t J):=bI yD
theorem qr {Q : ae → List ah → Prop} (xx : Q (.int (n + 1)) (H A pool (n + 1) k t J)) : W (sem (d + 1) .f_law_place [.mref 34]) (H A pool n k t J) Q:=(wa (Q:=Q)).mpr xx
theorem yo {Q : ae → List ah → Prop} (hp : pool.length ≤ 1000000) {b : Int} (hb : b ≠ 0) : W (sem (d + 1) .f_law_draw [.mref 2,.int b]) (H A pool n k t J) Q ↔ Q (.int (drV pool b)) (H A pool.dropLast n k t (J ++ [.lst []])):=bI (AW hp hb)
theorem pV {Q : ae → List ah → Prop} (hp : pool.length ≤ 1000000) {b : Int} (hb : b ≠ 0) (xx : Q (.int (drV pool b)) (H A pool.dropLast n k t (J ++ [.lst []]))) : W (sem (d + 1) .f_law_draw [.mref 2,.int b]) (H A pool n k t J) Q:=(yo (Q:=Q) (hp:=hp) (b:=b) (hb:=hb)).mpr xx
theorem Cw (s : Fin 4) : sem (d + 2) .f_law_var [.mref 34,.int (s.val : Int)] (H A pool n k t J) = some (ndV "var" (n + 1) dE [] (c8 s),H A pool (n + 1) k t (J ++ [.gone] ++ [.gone])):=by
 have h : W (sem (d + 2) .f_law_var [.mref 34,.int (s.val : Int)]) (H A pool n k t J) (fun v M'=>v = ndV "var" (n + 1) dE [] (c8 s) ∧ M' = H A pool (n + 1) k t (J ++ [.gone] ++ [.gone])):=by
  rw [wn]
  refine jX (by simp) ?_
  unfold gL
  simp only [gh,tQ (d:=d) rfl,fE,fO,dM,dJ,dq,qF,jd]
  refine ao (v:=.mref 34) rfl (qr (ao (v:=.mref 34) rfl (mR (kO ?_))))
  refine ⟨rfl,?_⟩
  rw [gm,bU (v:=.mref 34) rfl,zq,bU (v:=.int (s.val : Int)) rfl,vH,EC,gm]
  exact ⟨rfl,rfl⟩
 obtain ⟨a,M',e,rfl,rfl⟩:=h
 exact e
theorem xB {Q : ae → List ah → Prop} (s : Fin 4) : W (sem (d + 2) .f_law_var [.mref 34,.int (s.val : Int)]) (H A pool n k t J) Q ↔ Q (ndV "var" (n + 1) dE [] (c8 s)) (H A pool (n + 1) k t (J ++ [.gone] ++ [.gone])):=bI (Cw s)
theorem Kr {Q : ae → List ah → Prop} (s : Fin 4) (xx : Q (ndV "var" (n + 1) dE [] (c8 s)) (H A pool (n + 1) k t (J ++ [.gone] ++ [.gone]))) : W (sem (d + 2) .f_law_var [.mref 34,.int (s.val : Int)]) (H A pool n k t J) Q:=(xB (Q:=Q) (s:=s)).mpr xx
theorem Df (pool : List Int) : ∃ s : Fin 4,drV pool 4 = (s.val : Int):=by
 obtain ⟨h1,h2⟩:=tR pool (b:=4) (by decide)
 exact ⟨⟨(drV pool 4).toNat,(Int.toNat_lt h1).mpr h2⟩,by simp; exact Gm h1 h2⟩
theorem zy {M : List ah} (ty : ae) (v p : ae) : sem (d + 2) .f_const [ty,v,p] M = some (.inst 32 (ndF "const" p ty (.lst []) v),M ++ [.gone] ++ [.gone]):=by
 have h : W (sem (d + 2) .f_const [ty,v,p]) M (fun a M'=>a = .inst 32 (ndF "const" p ty (.lst []) v) ∧ M' = M ++ [.gone] ++ [.gone]):=by
  rw [AI]
  refine jX (by simp) ?_
  unfold jR
  simp only [gh,tQ (d:=d) rfl,fE,fO,dq,jd]
  refine ao (v:=p) rfl (ao (v:=ty) rfl ?_)
  refine ⟨rfl,?_⟩
  refine ao (v:=v) rfl (Fh ?_)
  exact ⟨rfl,rfl⟩
 obtain ⟨a,M',e,rfl,rfl⟩:=h
 exact e
end
noncomputable abbrev Rd:=List (Int × Fin 4)
noncomputable def Pl (n n' : Int) (r : Rd) (c : Int) : Prop:=n ≤ n' ∧ (∀ q ∈ r,n < q.1 ∧ q.1 ≤ n') ∧ (r.map (·.1)).Nodup ∧ n' ≤ n + c
theorem uv {p : List Int} {Q : ae → List ah → Prop} (x : ∀ s : Fin 4,Q (ndV "var" (n + 1) dE [] (c8 s)) (H A pool (n + 1) k t (J ++ [.gone] ++ [.gone]))) : W (sem (d + 2) .f_law_var [.mref 34,.int (drV p 4)]) (H A pool n k t J) Q:=by
 obtain ⟨s,hs⟩:=Df p
 rw [hs]; exact (xB s).mpr (x s)
theorem xW {ty v p : ae} {Q : ae → List ah → Prop} (x : Q (.inst 32 (ndF "const" p ty (.lst []) v)) (H A pool n k t (J ++ [.gone] ++ [.gone]))) : W (sem (d + 2) .f_const [ty,v,p]) (H A pool n k t J) Q:=gj (zy ..) x
theorem Pl.nil {n n' : Int} (h : n ≤ n') : Pl n n' [] (n' - n):=⟨h,(fun q h=>by cases h),List.nodup_nil,(FH)⟩
theorem Pl.one {n n' p : Int} {s : Fin 4} (h1 : n < p) (h2 : p ≤ n') : Pl n n' [(p,s)] (n' - n):=⟨(IR h1 h2),fun q h=>by rw [List.mem_singleton.mp h]; exact ⟨h1,h2⟩,by simp,(FH)⟩
theorem DX {a b a' b' c : Int} (h : b ≤ a + c) : b' ≤ a' + (c + (b' - b) + (a - a')):=by omega
theorem Pl.wide {a b a' b' c : Int} {r : Rd} (h : Pl a b r c) (h1 : a' ≤ a) (h2 : b ≤ b') : Pl a' b' r (c + (b' - b) + (a - a')):=⟨Int.le_trans h1 (Int.le_trans h.1 h2),fun q hq=>⟨Int.lt_of_le_of_lt h1 (h.2.1 q hq).1,Int.le_trans (h.2.1 q hq).2 h2⟩,h.2.2.1,DX h.2.2.2⟩
theorem Pl.up {a b c c' : Int} {r : Rd} (h : Pl a b r c) (h1 : c ≤ c') : Pl a b r c':=⟨h.1,h.2.1,h.2.2.1,Int.le_trans h.2.2.2 (Int.add_le_add_left h1 a)⟩
theorem Pl.append {a b d c c' : Int} {r s : Rd} (h : Pl a b r c) (g : Pl b d s c') : Pl a d (r ++ s) (c + c'):=by
 refine ⟨Int.le_trans h.1 g.1,fun q hq=>?_,?_,Int.le_trans g.2.2.2 (Int.add_assoc a c c' ▸ Int.add_le_add_right h.2.2.2 c')⟩
 ·rcases List.mem_append.mp hq with hq | hq
  ·exact ⟨(h.2.1 q hq).1,Int.le_trans (h.2.1 q hq).2 g.1⟩
  ·exact ⟨Int.lt_of_le_of_lt h.1 (g.2.1 q hq).1,(g.2.1 q hq).2⟩
 ·rw [List.map_append,List.nodup_append]
  refine ⟨h.2.2.1,g.2.2.1,fun x hx y hy e=>?_⟩
  obtain ⟨q,hq,rfl⟩:=List.mem_map.mp hx
  obtain ⟨q',hq',rfl⟩:=List.mem_map.mp hy
  exact absurd e (Int.ne_of_lt (Int.lt_of_le_of_lt (h.2.1 q hq).2 (g.2.1 q' hq').1))
theorem Pl.len {n n' c : Int} {r : Rd} (h : Pl n n' r c) : (r.length : Int) ≤ n' - n:=by
 have key : ∀ (m : Nat) (l : List Int) (a : Int),l.Nodup → (∀ x ∈ l,a < x ∧ x ≤ a + m) → l.length ≤ m:=by
  intro m
  induction m with
  | zero=>
   intro l a nd hl
   cases l with
   | nil=>exact Nat.le_refl _
   | cons x l=>exact absurd (Int.lt_of_lt_of_le (hl x List.mem_cons_self).1 (hl x List.mem_cons_self).2) (by rw [show a + ((0 : Nat) : Int) = a from Int.add_zero a]; exact Int.lt_irrefl a)
  | succ m ih=>
   intro l a nd hl
   have h1:=ih (l.erase (a + (m + 1 : Nat))) a (nd.erase _) (fun x hx=>by
    have hx':=List.mem_of_mem_erase hx
    have hne : x ≠ a + (m + 1 : Nat):=fun e=>by
     rw [e] at hx
     exact (List.Nodup.not_mem_erase nd) hx
    exact ⟨(hl x hx').1,Int.le_of_lt_add_one (by rw [Int.add_assoc]; exact Int.lt_iff_le_and_ne.mpr ⟨(hl x hx').2,hne⟩)⟩)
   rw [List.length_erase] at h1
   split at h1 <;> first | exact Nat.sub_le_iff_le_add.mp h1 | exact Nat.le_succ_of_le h1
 have:=key (n' - n).toNat (r.map (·.1)) n h.2.2.1 (fun x hx=>by
  obtain ⟨q,hq,rfl⟩:=List.mem_map.mp hx
  rw [Int.toNat_of_nonneg (Int.sub_nonneg_of_le h.1),Int.add_comm,Int.sub_add_cancel]; exact h.2.1 q hq)
 rw [List.length_map] at this
 rw [← Int.toNat_of_nonneg (Int.sub_nonneg_of_le h.1)]; exact Int.ofNat_le.mpr this
noncomputable def g7 : List Str:=["+", "<", "=", "&", "OR"]
inductive IsV : ae → Rd → Nat → Prop
 | var (p : Int) (s : Fin 4) (m : Nat) : IsV (ndV "var" p dE [] (c8 s)) [(p,s)] m
 | cst (p : Int) (m : Nat) : IsV (ndV "const" p dE [] (.int 1)) [] m
 | bin {op : Str} {p : Int} {ty l r : ae} {a b : Rd} {m : Nat} : op ∈ g7 → IsV l a m → IsV r b m → IsV (ndV op p ty [l,r] .none) (a ++ b) (m + 1)
theorem IsV.up {v : ae} {r : Rd} {m : Nat} (h : IsV v r m) : ∀ {m' : Nat},m ≤ m' → IsV v r m':=by
 induction h with
 | var p s m=>intro m' _; exact .var p s m'
 | cst p m=>intro m' _; exact .cst p m'
 | bin ho h1 h2 i1 i2=>
  intro m' hm
  obtain ⟨q,rfl⟩ : ∃ q,m' = q + 1:=⟨m' - 1,(Nat.sub_add_cancel (Nat.le_trans (Nat.succ_pos _) hm)).symm⟩
  exact .bin ho (i1 (Eh hm)) (i2 (Eh hm))
section
variable {A : List ae} {pool : List Int} {n k : Int} {t : ah} {J : List ah} {d : Nat}
theorem iq (pool : List Int) : pool.dropLast.length ≤ pool.length:=by rw [List.length_dropLast]; exact II
theorem uO (hp : pool.length ≤ 1000000) {Q : ae → List ah → Prop} (h : ∀ v r pool' n' J',IsV v r 1 → Pl n n' r 3 → pool'.length ≤ pool.length → Q v (H A pool' n' k t (J ++ J'))) : W (sem (d + 3) .f_law_value [.mref 34,.mref 2]) (H A pool n k t J) Q:=by
 rw [sJ]
 refine bK (loc0:=[some (.mref 34),some (.mref 2),none,none]) (by simp) rfl ?_
 have h' : ∀ v r p n' J2,IsV v r 1 → Pl n n' r 3 → p.length ≤ pool.length → Grw J J2 → Q v (H A p n' k t J2):=fun v r p n' J2 a b c ⟨X,e⟩=>e ▸ h v r p n' X a b c
 unfold fy
 have l1:=iq pool
 have l2:=iq pool.dropLast
 have l3:=iq pool.dropLast.dropLast
 have p1 : pool.dropLast.length ≤ 1000000:=j9 hp l1
 have p2 : pool.dropLast.dropLast.length ≤ 1000000:=JQ l2 p1
 refine aB (aP (aA (ag (ao (v:=.mref 2) rfl (ag (aR (av (pV (b:=4) hp (by decide) (aj (aB (cH (bM (aT (ao (v:=.int (drV pool 4)) rfl (aR (eH (gl.mpr (vP (fun h3=>?_) (fun h3=>cA (aj (aB (cH (bM (aT (ao (v:=.int (drV pool 4)) rfl (aR (eH (gl.mpr (vP (fun h2=>?_) (fun h2=>?_))))))))))))))))))))))))))))))
 ·refine aB (aP (aA (ag (ao (v:=.mref 34) rfl (ag (aA (ag (ao (v:=.mref 2) rfl (ag (aR (av (pV (b:=4) p1 (by decide) (av (uv fun s1=>aj (a8 (dS (d:=d + 1) rfl (ag (aR (ag (aA (ag (ao (v:=.mref 34) rfl (av (qr (ag (ba (aT (ao (v:=.mref 34) rfl (aR (mR (kO (ag (im (ag (ao (v:=ndV "var" (n + 1) dE [] (c8 s1)) rfl (ag (aA (ag (ao (v:=.mref 34) rfl (ag (aA (ag (ao (v:=.mref 2) rfl (ag (aR (av (pV (b:=4) p2 (by decide) (av (uv fun s2=>av (ko rfl (av (lV (aX (aF ?_))))))))))))))))))))))))))))))))))))))))))))))))))))))
  refine h' _ [(n + 1,s1),(n + 1 + 1 + 1,s2)] _ _ _ (.bin (a:=[_]) (b:=[_]) (by simp [g7]) (.var _ s1 0) (.var _ s2 0)) ?_ (qU l1 l2 l3) (.app (.app (.app (.app (.app (.app (.app (.app (.app .nil)))))))))
  exact ((Pl.one (FA) (Int.le_refl _)).append (Pl.one (Kn) (Int.le_refl _))).up (HP)
 ·refine a8 (aA (ag (ba (aT (ao (v:=.mref 34) rfl (aR (mR (kO (ag (aR (ag (aA (ag (ao (v:=.mref 34) rfl (av (qr (av (xW (aX (aF ?_))))))))))))))))))))
  exact h' _ [] _ _ _ (.cst _ _) ((Pl.nil (my)).up (Ga)) l1 (.app (.app (.app .nil)))
 ·refine cA (aj (a8 (aA (ag (ao (v:=.mref 34) rfl (ag (aA (ag (ao (v:=.mref 2) rfl (ag (aR (av (pV (b:=4) p1 (by decide) (av (uv fun s1=>aF ?_)))))))))))))))
  exact h' _ [(n + 1,s1)] _ _ _ (.var _ s1 _) ((Pl.one (FA) (Int.le_refl _)).up (Ga)) (o79 l1 l2) (.app (.app (.app (.app .nil))))
end
end Mine
end
section
open PySem PySem.W PySem.Spec PySem.Calls PySem.SeqAt PyProof.Rows
namespace Mine
noncomputable def bV (X : Fin 16) (s : Fin 4) : Bool:=X.val.testBit s.val
noncomputable def dH (X : Fin 16) (s : Fin 4) : Fin 16:=Fin.ofNat 16 (X.val ||| 2 ^ s.val)
noncomputable def d6 (X Y : Fin 16) : Fin 16:=Fin.ofNat 16 (X.val &&& Y.val)
noncomputable abbrev Den:=Fin 16 → Fin 16 × Rd
noncomputable def dT (X : Fin 16) (r : Rd) : Rd:=r.filter fun q=>!bV X q.2
noncomputable def dz (Z : Fin 16) (Ys : List (Fin 16)) : Fin 16:=Ys.foldl d6 Z
noncomputable def vaV (p : Int) (s : Fin 4) : ae:=ndV "var" p dE [] (c8 s)
noncomputable def ix (X : Fin 16) (q : Rd × Den) : Rd:=dT X q.1 ++ (q.2 X).2
noncomputable def wv (F G : Den) : Den:=fun X=>((G (F X).1).1,(F X).2 ++ (G (F X).1).2)
mutual
inductive IsS : ae → Den → Rd → Nat → Prop
 | asg {at_ p : Int} {s : Fin 4} {v : ae} {r : Rd} {h : Nat} : IsV v r 3 → IsS (ndV "assign" at_ .none [vaV p s,v] .none) (fun X=>(dH X s,dT X r)) ((p,s) :: r) h
 | inc {at_ p : Int} {s : Fin 4} {v : ae} {r : Rd} {h : Nat} : IsV v r 3 → IsS (ndV "std" at_ .none [vaV p s,v] (.str "INC")) (fun X=>(dH X s,dT X r ++ dT X [(p,s)])) ((p,s) :: r) h
 | cal {at_ pc p : Int} {s : Fin 4} {v : ae} {r : Rd} {h : Nat} : IsV v r 3 → IsS (ndV "call" at_ .none [ndV "proc" pc dG [] fk,vaV p s,v] .none) (fun X=>(dH X s,dT X r)) ((p,s) :: r) h
 | if0 {at_ : Int} {kids : List ae} {Fs : List (Rd × Den)} {r : Rd} {h : Nat} : cE kids Fs r h → kids.length ≤ 4 → IsS (ndV "if" at_ .none kids (.bool false)) (fun X=>(dz X (Fs.map fun q=>(q.2 X).1),Fs.flatMap (ix X))) r (h + 1)
 | if1 {at_ : Int} {kids : List ae} {Fs : List (Rd × Den)} {r s : Rd} {h : Nat} {b : ae} {F : Den} : cE kids Fs r h → kids.length ≤ 4 → IsB b F s h → IsS (ndV "if" at_ .none (kids ++ [b]) (.bool true)) (fun X=>(dz (F X).1 (Fs.map fun q=>(q.2 X).1),Fs.flatMap (ix X) ++ (F X).2)) (r ++ s) (h + 1)
 | whl {at_ : Int} {kids : List ae} {Fs : List (Rd × Den)} {r : Rd} {h : Nat} : cE kids Fs r h → kids.length ≤ 4 → IsS (ndV "while" at_ .none kids .none) (fun X=>(X,Fs.flatMap (ix X))) r (h + 1)
 | rep {at_ : Int} {b t : ae} {F : Den} {r s : Rd} {h : Nat} : IsB b F r h → IsV t s 3 → IsS (ndV "repeat" at_ .none [b,t] .none) (fun X=>((F X).1,(F X).2 ++ dT (F X).1 s)) (r ++ s) (h + 1)
 | for_ {at_ p : Int} {s : Fin 4} {v1 v2 b : ae} {r1 r2 r : Rd} {F : Den} {h : Nat} : IsV v1 r1 3 → IsV v2 r2 3 → IsB b F r h → IsS (ndV "for" at_ .none [vaV p s,v1,v2,b] (.int 1)) (fun X=>(dH X s,dT X r1 ++ (dT (dH X s) r2 ++ (F (dH X s)).2))) ((p,s) :: (r1 ++ (r2 ++ r))) (h + 1)
 | cas {at_ : Int} {v val : ae} {bs : List ae} {rv r : Rd} {Fs : List Den} {h : Nat} : IsV v rv 3 → dL bs Fs r h → bs.length ≤ 11 → Fs ≠ [] → IsS (ndV "case" at_ .none (v :: bs) val) (fun X=>(dz 15 (Fs.map fun F=>(F X).1),dT X rv ++ Fs.flatMap fun F=>(F X).2)) (rv ++ r) (h + 1)
inductive IsL : List ae → Den → Rd → Nat → Prop
 | nil {h : Nat} : IsL [] (fun X=>(X,[])) [] h
 | cons {a : ae} {as : List ae} {F G : Den} {r s : Rd} {h : Nat} : IsS a F r h → IsL as G s h → IsL (a :: as) (wv F G) (r ++ s) h
inductive IsB : ae → Den → Rd → Nat → Prop
 | mk {p : Int} {kids : List ae} {F : Den} {r : Rd} {h : Nat} : IsL kids F r h → IsB (ndV "block" p .none kids .none) F r h
inductive cE : List ae → List (Rd × Den) → Rd → Nat → Prop
 | nil {h : Nat} : cE [] [] [] h
 | cons {t b : ae} {rt r s : Rd} {F : Den} {as : List ae} {Fs : List (Rd × Den)} {h : Nat} : IsV t rt 3 → IsB b F r h → cE as Fs s h → cE (t :: b :: as) ((rt,F) :: Fs) (rt ++ (r ++ s)) h
inductive dL : List ae → List Den → Rd → Nat → Prop
 | nil {h : Nat} : dL [] [] [] h
 | cons {b : ae} {F : Den} {r s : Rd} {bs : List ae} {Fs : List Den} {h : Nat} : IsB b F r h → dL bs Fs s h → dL (b :: bs) (F :: Fs) (r ++ s) h
end
@[elab_as_elim] theorem IsL.ind {h : Nat} {P : List ae → Den → Rd → Prop} {as : List ae} {F : Den} {r : Rd} (n : P [] (fun X=>(X,[])) []) (c : ∀ a as F G r s,IsS a F r h → IsL as G s h → P as G s → P (a :: as) (wv F G) (r ++ s)) (i : IsL as F r h) : P as F r:=by
 refine IsL.rec (motive_1:=fun a b c d e=>True) (motive_2:=fun as F r g i=>g = h → P as F r) (motive_3:=fun a b c d e=>True) (motive_4:=fun a b c d e=>True) (motive_5:=fun a b c d e=>True) ?_ ?_ ?_ ?_ ?_ ?_ ?_ ?_ ?_ ?_ ?_ ?_ ?_ ?_ ?_ ?_ i rfl <;> intros <;> first | trivial | (subst_vars; apply c <;> first | assumption | solve_by_elim)
@[elab_as_elim] theorem cE.ind {h : Nat} {P : List ae → List (Rd × Den) → Rd → Prop} {as : List ae} {Fs : List (Rd × Den)} {r : Rd} (n : P [] [] []) (c : ∀ t b rt r s F as Fs,IsV t rt 3 → IsB b F r h → cE as Fs s h → P as Fs s → P (t :: b :: as) ((rt,F) :: Fs) (rt ++ (r ++ s))) (i : cE as Fs r h) : P as Fs r:=by
 refine cE.rec (motive_1:=fun a b c d e=>True) (motive_2:=fun a b c d e=>True) (motive_3:=fun a b c d e=>True) (motive_4:=fun as F r g i=>g = h → P as F r) (motive_5:=fun a b c d e=>True) ?_ ?_ ?_ ?_ ?_ ?_ ?_ ?_ ?_ ?_ ?_ ?_ ?_ ?_ ?_ ?_ i rfl <;> intros <;> first | trivial | (subst_vars; apply c <;> first | assumption | solve_by_elim)
@[elab_as_elim] theorem dL.ind {h : Nat} {P : List ae → List Den → Rd → Prop} {bs : List ae} {Fs : List Den} {r : Rd} (n : P [] [] []) (c : ∀ b F r s bs Fs,IsB b F r h → dL bs Fs s h → P bs Fs s → P (b :: bs) (F :: Fs) (r ++ s)) (i : dL bs Fs r h) : P bs Fs r:=by
 refine dL.rec (motive_1:=fun a b c d e=>True) (motive_2:=fun a b c d e=>True) (motive_3:=fun a b c d e=>True) (motive_4:=fun a b c d e=>True) (motive_5:=fun as F r g i=>g = h → P as F r) ?_ ?_ ?_ ?_ ?_ ?_ ?_ ?_ ?_ ?_ ?_ ?_ ?_ ?_ ?_ ?_ i rfl <;> intros <;> first | trivial | (subst_vars; apply c <;> first | assumption | solve_by_elim)
section
variable {A : List ae} {pool : List Int} {n k : Int} {t : ah} {J : List ah} {d : Nat}
theorem eW {e : Nat} (he : 3 ≤ e) (hp : pool.length ≤ 1000000) {Q : ae → List ah → Prop} (h : ∀ v r pool' n' J',IsV v r 1 → Pl n n' r 3 → pool'.length ≤ pool.length → Q v (H A pool' n' k t (J ++ J'))) : W (sem e .f_law_value [.mref 34,.mref 2]) (H A pool n k t J) Q:=by
 obtain ⟨d,rfl⟩ : ∃ d,e = d + 3:=⟨e - 3,(Kf he)⟩
 exact uO hp h
theorem z7 {e : Nat} (he : 1 ≤ e) {Q : ae → List ah → Prop} (hp : pool.length ≤ 1000000) {b : Int} (hb : b ≠ 0) : W (sem e .f_law_draw [.mref 2,.int b]) (H A pool n k t J) Q ↔ Q (.int (drV pool b)) (H A pool.dropLast n k t (J ++ [.lst []])):=by
 obtain ⟨d,rfl⟩ : ∃ d,e = d + 1:=⟨e - 1,(oK he)⟩
 exact yo hp hb
theorem dC {e : Nat} (he : 1 ≤ e) {Q : ae → List ah → Prop} (hp : pool.length ≤ 1000000) {b : Int} (hb : b ≠ 0) (xx : Q (.int (drV pool b)) (H A pool.dropLast n k t (J ++ [.lst []]))) : W (sem e .f_law_draw [.mref 2,.int b]) (H A pool n k t J) Q:=(z7 (e:=e) (he:=he) (Q:=Q) (hp:=hp) (b:=b) (hb:=hb)).mpr xx
theorem xR {e : Nat} (he : 1 ≤ e) {Q : ae → List ah → Prop} : W (sem e .f_law_place [.mref 34]) (H A pool n k t J) Q ↔ Q (.int (n + 1)) (H A pool (n + 1) k t J):=by
 obtain ⟨d,rfl⟩ : ∃ d,e = d + 1:=⟨e - 1,(oK he)⟩
 exact wa
theorem gO {e : Nat} (he : 1 ≤ e) {Q : ae → List ah → Prop} (xx : Q (.int (n + 1)) (H A pool (n + 1) k t J)) : W (sem e .f_law_place [.mref 34]) (H A pool n k t J) Q:=(xR (e:=e) (he:=he) (Q:=Q)).mpr xx
theorem x7 {e : Nat} (he : 2 ≤ e) {Q : ae → List ah → Prop} (s : Fin 4) : W (sem e .f_law_var [.mref 34,.int (s.val : Int)]) (H A pool n k t J) Q ↔ Q (vaV (n + 1) s) (H A pool (n + 1) k t (J ++ [.gone] ++ [.gone])):=by
 obtain ⟨d,rfl⟩ : ∃ d,e = d + 2:=⟨e - 2,(I6 he)⟩
 exact xB s
theorem Im {e : Nat} (he : 2 ≤ e) {Q : ae → List ah → Prop} (s : Fin 4) (xx : Q (vaV (n + 1) s) (H A pool (n + 1) k t (J ++ [.gone] ++ [.gone]))) : W (sem e .f_law_var [.mref 34,.int (s.val : Int)]) (H A pool n k t J) Q:=(x7 (e:=e) (he:=he) (Q:=Q) (s:=s)).mpr xx
theorem oV {e : Nat} (he : 4 ≤ e) (hp : pool.length ≤ 1000000) {Q : ae → List ah → Prop} (h : ∀ v r pool' n' J',IsV v r 3 → Pl n n' r 15 → pool'.length ≤ pool.length → Q v (H A pool' n' k t (J ++ J'))) : W (sem e .f_law_test [.mref 34,.mref 2]) (H A pool n k t J) Q:=by
 obtain ⟨d,rfl⟩ : ∃ d,e = d + 2:=⟨e - 2,(I4 he)⟩
 rw [uB]
 refine bK (loc0:=[some (.mref 34),some (.mref 2),none,none,none,none]) (by simp) rfl ?_
 have h' : ∀ v r p n' J2,IsV v r 3 → Pl n n' r 15 → p.length ≤ pool.length → Grw J J2 → Q v (H A p n' k t J2):=fun v r p n' J2 a b c ⟨X,e⟩=>e ▸ h v r p n' X a b c
 unfold gc
 refine aB (aP (ba (aT (ao (v:=.mref 34) rfl (aR (mR (wC (aj (aB (aP (dS (d:=d) rfl (ag (aR (ag (aA (ag (ao (v:=.mref 34) rfl (av (gO (zT he) (ag (ao (v:=iw) rfl (ag (im (ag (aA (ag (ao (v:=.mref 34) rfl (ag (ao (v:=.mref 2) rfl (av ?_))))))))))))))))))))))))))))))
 refine eW (Ay he) hp fun v1 r1 p1 n1 J1 i1 l1 e1=>?_
 refine ag (aA (ag (ao (v:=.mref 34) rfl (ag (ao (v:=.mref 2) rfl (av ?_))))))
 refine eW (Ay he) (j9 hp e1) fun v2 r2 p2 n2 J2 i2 l2 e2=>?_
 have dl:=iq p2
 refine av (ko rfl (av (lV (aj (aB (aP (aA (ag (ao (v:=.mref 2) rfl (ag (aR (av (dC (zT he) (oq hp e1 e2) (b:=4) (by decide) (aj (aB (cH (bM (aT (ao (v:=.int (drV p2 4)) rfl (aR (Gp (gl.mpr (vP (fun h2=>?_) (fun h2=>?_))))))))))))))))))))))))
 ·refine a8 (ao (v:=.inst 32 (ndF "<" (.int (n + 1)) iw (.lst [v1,v2]) .none)) rfl (aX (aF ?_)))
  exact h' _ _ _ _ _ (IsV.up (IsV.bin (op := "<") (by simp [g7]) i1 i2) (IF)) ((((l1.append l2)).wide (my) (Int.le_refl _)).up (I5)) (qU e1 e2 dl) (.app (.app (.app (.app (.app .nil)))))
 ·refine cA (aj (aB (aP (dS (d:=d) rfl (ag (aR (ag (aA (ag (ao (v:=.mref 34) rfl (av (gO (zT he) (ag (ao (v:=iw) rfl (ag (im (ag (aA (ag (ao (v:=.mref 34) rfl (ag (ao (v:=.mref 2) rfl (av ?_)))))))))))))))))))))))
  refine eW (Ay he) (wO hp e1 e2 dl) fun v3 r3 p3 n3 J3 i3 l3 e3=>?_
  refine ag (aA (ag (ao (v:=.mref 34) rfl (ag (ao (v:=.mref 2) rfl (av ?_))))))
  refine eW (Ay he) (yN hp e1 e2 dl e3) fun v4 r4 p4 n4 J4 i4 l4 e4=>?_
  have pl : Pl n (n4 + 1) ((r1 ++ r2) ++ (r3 ++ r4)) 15:=(((l1.append l2).wide (my) (Int.le_refl _)).append ((l3.append l4).wide (my) (my))).up (Kq)
  refine av (ko rfl (av (lV (aj (a8 (dS (d:=d) rfl (ag (tt (bM (aT (ao (v:=.int (drV p2 4)) rfl (aR (eH (gl.mpr ?_))))))))))))))
  have hb : ∀ op,op ∈ g7 → IsV (.inst 32 (ndF op (.int (n4 + 1)) iw (.lst [.inst 32 (ndF "<" (.int (n + 1)) iw (.lst [v1,v2]) .none),.inst 32 (ndF "=" (.int (n2 + 1)) iw (.lst [v3,v4]) .none)]) .none)) ((r1 ++ r2) ++ (r3 ++ r4)) 3:=fun op ho=>.bin ho (.bin (op := "<") (by simp [g7]) i1 i2) (.bin (op := "=") (by simp [g7]) i3 i4)
  refine vP (fun h3=>aR ?_) (fun h3=>aR ?_)
  all_goals
   refine ag (aA (ag (ao (v:=.mref 34) rfl (av (gO (zT he) (ag (ao (v:=iw) rfl (ag (im (ag (ao (v:=.inst 32 (ndF "<" (.int (n + 1)) iw (.lst [v1,v2]) .none)) rfl (ag (ao (v:=.inst 32 (ndF "=" (.int (n2 + 1)) iw (.lst [v3,v4]) .none)) rfl (av (ko rfl (av (lV (aF ?_))))))))))))))))))
   exact h' _ _ _ _ _ (hb _ (by simp [g7])) pl (A1 e1 e2 dl e3 e4) (.app (.app (.app (.app (.app (.app (.app (.app (.app (.app (.app .nil)))))))))))
end
end Mine
end
section
open PySem PySem.W PySem.Spec PySem.Calls PySem.SeqAt PyProof.Rows
namespace Mine
theorem lr {t : Loc → Mo Bool} {m : Loc → Mo ae} {free : Loc} {acc : List ae} {M : List ah} {Q : List ae → List ah → Prop} : W (eD t m free [] acc) M Q ↔ Q acc M:=cb
theorem lh {t : Loc → Mo Bool} {m : Loc → Mo ae} {free : Loc} {acc : List ae} {M : List ah} {Q : List ae → List ah → Prop} (xx : Q acc M) : W (eD t m free [] acc) M Q:=(lr (t:=t) (m:=m) (free:=free) (acc:=acc) (M:=M) (Q:=Q)).mpr xx
theorem jD {t : Loc → Mo Bool} {m : Loc → Mo ae} {free : Loc} {a : ae} {as acc : List ae} {M : List ah} {Q : List ae → List ah → Prop} : W (eD t m free (a :: as) acc) M Q ↔ W (t (some a :: free)) M fun ok M1=>if ok then W (m (some a :: free)) M1 fun v M2=>W (eD t m free as (acc ++ [v])) M2 Q else W (eD t m free as acc) M1 Q:=by
 show W (bnd _ _) M Q ↔ _
 rw [ca]
 refine ⟨fun h=>b9 h fun ok M1 q=>?_,fun h=>b9 h fun ok M1 q=>?_⟩
 ·cases ok with
  | true=>exact ca.mp q
  | false=>exact q
 ·cases ok with
  | true=>exact ca.mpr q
  | false=>exact q
theorem g5 {t : Loc → Mo Bool} {m : Loc → Mo ae} {free : Loc} {a : ae} {as acc : List ae} {M : List ah} {Q : List ae → List ah → Prop} (xx : W (t (some a :: free)) M fun ok M1=>if ok then W (m (some a :: free)) M1 fun v M2=>W (eD t m free as (acc ++ [v])) M2 Q else W (eD t m free as acc) M1 Q) : W (eD t m free (a :: as) acc) M Q:=(jD (t:=t) (m:=m) (free:=free) (a:=a) (as:=as) (acc:=acc) (M:=M) (Q:=Q)).mpr xx
theorem B7 {loc : Loc} {M : List ah} {Q : Bool → List ah → Prop} : W (uJ loc) M Q ↔ Q true M:=cb
theorem qS {loc : Loc} {M : List ah} {Q : Bool → List ah → Prop} (xx : Q true M) : W (uJ loc) M Q:=(B7 (loc:=loc) (M:=M) (Q:=Q)).mpr xx
theorem Dr {fr : List (Nat × Str)} {l : Loc → Mo ae} {t : Loc → Mo Bool} {m : Loc → Mo ae} {loc : Loc} {M : List ah} {Q : ae → List ah → Prop} : W (iO fr l t m loc) M Q ↔ W (l loc) M fun a M1=>∃ as,cR a = some as ∧ bW as.length = true ∧ W (eD t m (fr.map fun q=>(loc[q.1]?).join) as []) M1 fun vs M2=>Q (.mref M2.length) (M2 ++ [.lst vs]):=by
 unfold iO
 rw [ca]
 refine ⟨fun h=>b9 h fun a M1 q=>?_,fun h=>b9 h fun a M1 q=>?_⟩
 ·obtain ⟨b,M2,e,q⟩:=q
  cases ha : cR a with
  | none=>rw [ha] at e; cases e
  | some as=>
   rw [ha] at e
   dsimp only at e
   split at e
   ·rename_i hs
    refine ⟨as,rfl,hs,?_⟩
    obtain ⟨vs,M3,e1,e2⟩:=aL e
    obtain ⟨rfl,rfl⟩:=dO e2
    exact ⟨vs,M3,e1,q⟩
   ·cases e
 ·obtain ⟨as,ha,hs,vs,M2,e,q⟩:=q
  refine ⟨_,_,?_,q⟩
  rw [ha]
  dsimp only
  rw [if_pos hs,q6 e]; rfl
theorem qL {fr : List (Nat × Str)} {l : Loc → Mo ae} {t : Loc → Mo Bool} {m : Loc → Mo ae} {loc : Loc} {M : List ah} {Q : ae → List ah → Prop} (xx : W (l loc) M fun a M1=>∃ as,cR a = some as ∧ bW as.length = true ∧ W (eD t m (fr.map fun q=>(loc[q.1]?).join) as []) M1 fun vs M2=>Q (.mref M2.length) (M2 ++ [.lst vs])) : W (iO fr l t m loc) M Q:=(Dr (fr:=fr) (l:=l) (t:=t) (m:=m) (loc:=loc) (M:=M) (Q:=Q)).mpr xx
theorem IH {i : Nat} {x v : Int} {body rest : Loc → Mo (Fl × Loc)} {loc : Loc} {M : List ah} {Q : Fl × Loc → List ah → Prop} (h : loc[i]? = some (some (.int v))) :
  W (au (sIf (a6 (aE oEq (af i) (ar (.int x)))) body bD) rest loc) M Q ↔ if v = x then W (body loc) M (jf rest Q) else W (rest loc) M Q:=by
 rw [eV,kJ,dN,dJ,bU h,dq,pN,gl]
 by_cases hx : v = x
 ·simp only [hx,decide_true,if_true]
 ·simp only [hx,decide_false,Bool.false_eq_true,if_false]
  rw [hU]; rfl
theorem wB {i : Nat} {x v : Int} {body rest : Loc → Mo (Fl × Loc)} {loc : Loc} {M : List ah} {Q : Fl × Loc → List ah → Prop} (h : loc[i]? = some (some (.int v))) (xx : if v = x then W (body loc) M (jf rest Q) else W (rest loc) M Q) : W (au (sIf (a6 (aE oEq (af i) (ar (.int x)))) body bD) rest loc) M Q:=(IH (i:=i) (x:=x) (v:=v) (body:=body) (rest:=rest) (loc:=loc) (M:=M) (Q:=Q) (h:=h)).mpr xx
theorem AH {n : Int} {M : List ah} {Q : ae → List ah → Prop} : W (cV [.int n]) M Q ↔ Q (.rng 0 n 1) M:=cb
theorem kg {n : Int} {M : List ah} {Q : ae → List ah → Prop} (xx : Q (.rng 0 n 1) M) : W (cV [.int n]) M Q:=(AH (n:=n) (M:=M) (Q:=Q)).mpr xx
section
variable {A : List ae} {pool : List Int} {n k : Int} {t : ah} {J X : List ah} {d : Nat}
theorem rY : (H A pool n k t J).length = J.length + 53:=by unfold H; simp
theorem gA {x : ah} : (H A pool n k t (J ++ x :: X))[J.length + 53]? = some x:=by
 show (J ++ x :: X)[J.length]? = _
 simp
theorem pW {x y : ah} : (H A pool n k t (J ++ x :: X)).set (J.length + 53) y = H A pool n k t (J ++ y :: X):=by
 show H A pool n k t ((J ++ x :: X).set J.length y) = _
 congr 1
 simp
theorem wV {vs : List ae} {v : ae} {Q : ae → List ah → Prop} (hs : bW vs.length = true) : W (be [.mref (J.length + 53),v]) (H A pool n k t (J ++ .lst vs :: X)) Q ↔ Q .none (H A pool n k t (J ++ .lst (vs ++ [v]) :: X)):=by
 refine bI ?_
 unfold be
 dsimp only
 rw [gA]
 dsimp only
 rw [hs,if_pos rfl,pW]
theorem gW {vs : List ae} {v : ae} {Q : ae → List ah → Prop} (hs : bW vs.length = true) (xx : Q .none (H A pool n k t (J ++ .lst (vs ++ [v]) :: X))) : W (be [.mref (J.length + 53),v]) (H A pool n k t (J ++ .lst vs :: X)) Q:=(wV (vs:=vs) (v:=v) (Q:=Q) (hs:=hs)).mpr xx
theorem CC {i : Nat} {loc : Loc} {vs : List ae} {Q : ae → List ah → Prop} (h : loc[i]? = some (some (.mref (J.length + 53)))) : W (aD (af i) loc) (H A pool n k t (J ++ .lst vs :: X)) Q ↔ Q (.lst vs) (H A pool n k t (J ++ .gone :: X)):=by
 rw [kI,bU h]
 constructor
 ·rintro ⟨j,mo,v,e1,e2,e3,q⟩
  cases e1
  rw [gA] at e2; cases e2; cases e3
  rw [pW] at q; exact q
 ·intro q
  refine ⟨_,_,_,rfl,gA,rfl,?_⟩
  rw [pW]; exact q
theorem nq {i : Nat} {loc : Loc} {vs : List ae} {Q : ae → List ah → Prop} (h : loc[i]? = some (some (.mref (J.length + 53)))) (xx : Q (.lst vs) (H A pool n k t (J ++ .gone :: X))) : W (aD (af i) loc) (H A pool n k t (J ++ .lst vs :: X)) Q:=(CC (i:=i) (loc:=loc) (vs:=vs) (Q:=Q) (h:=h)).mpr xx
theorem Ek {loc : Loc} {Q : Fl × Loc → List ah → Prop} (h : loc[0]? = some (some (.mref 34))) : W (eQ aV kN fI (af 0) (ar (.str "spare")) (ar (.int 1)) loc) (H A pool n k t J) Q ↔ Q (.next,loc) (H A pool n (k - 1) t J):=by
 rw [nj,bU h,dq,vB,dq,BZ]
 exact bI (a:=()) (by kernel_rfl)
theorem FR {loc : Loc} {Q : Fl × Loc → List ah → Prop} (h : loc[0]? = some (some (.mref 34))) (xx : Q (.next,loc) (H A pool n (k - 1) t J)) : W (eQ aV kN fI (af 0) (ar (.str "spare")) (ar (.int 1)) loc) (H A pool n k t J) Q:=(Ek (loc:=loc) (Q:=Q) (h:=h)).mpr xx
theorem dr2 (pool : List Int) : drV pool 2 = 0 ∨ drV pool 2 = 1:=by
 have:=tR pool (b:=2) (by decide)
 exact (Int.lt_or_eq_of_le (Int.le_of_lt_add_one (b:=1) this.2)).imp (fun h=>Int.le_antisymm (Int.le_of_lt_add_one (b:=0) h) this.1) id
noncomputable def dB : Nat → Nat
 | 0=>6
 | h + 1=>31 + 3 * (2 * dB h + 1)
noncomputable def BJ (h : Nat) : Prop:=∀ (e : Nat) (A : List ae) (pool : List Int) (n k : Int) (t : ah) (J : List ah) (Q : ae → List ah → Prop),8 + 5 * h ≤ e → h ≤ 3 → pool.length ≤ 1000000 →
 (∀ v F r pool' n' k' J',IsS v F r h → Pl n n' r (dB h : Int) → pool'.length ≤ pool.length → Q v (H A pool' n' k' t (J ++ J'))) → W (sem e .f_law_deed [.mref 34,.mref 2,.int (3 - (h : Int))]) (H A pool n k t J) Q
noncomputable def pU (h : Nat) : Prop:=∀ (e : Nat) (A : List ae) (pool : List Int) (n k : Int) (t : ah) (J : List ah) (Q : ae → List ah → Prop),9 + 5 * h ≤ e → h ≤ 3 → pool.length ≤ 1000000 →
 (∀ v F r pool' n' k' J',IsB v F r h → Pl n n' r (2 * (dB h : Int) + 1) → pool'.length ≤ pool.length → Q v (H A pool' n' k' t (J ++ J'))) → W (sem e .f_law_block [.mref 34,.mref 2,.int (3 - (h : Int))]) (H A pool n k t J) Q
noncomputable def FW (h : Nat) : Prop:=∀ (e : Nat) (A : List ae) (pool : List Int) (n k : Int) (t : ah) (J : List ah) (c : Int) (Q : ae → List ah → Prop),10 + 5 * h ≤ e → h ≤ 2 → (c = 1 ∨ c = 2) → pool.length ≤ 1000000 →
 (∀ kids Fs r pool' n' k' J',cE kids Fs r h → kids.length ≤ 4 → Pl n n' r (2 * (15 + (2 * (dB h : Int) + 1))) → pool'.length ≤ pool.length → Q (.mref (J.length + 53)) (H A pool' n' k' t (J ++ .lst kids :: J'))) → W (sem e .f_law_arms [.mref 34,.mref 2,.int (2 - (h : Int)),.int c]) (H A pool n k t J) Q
theorem rK {h : Nat} (D : BJ h) : pU h:=by
 intro e A pool n k t J Q he h3 hp hQ
 obtain ⟨d,rfl⟩ : ∃ d,e = d + 2:=⟨e - 2,(Jw he h3)⟩
 rw [rX]
 refine bK (loc0:=[some (.mref 34),some (.mref 2),some (.int (3 - (h : Int))),none]) (by simp) rfl ?_
 unfold fG
 refine aB (aP (qL (aA (ag (aT (aR (aA (wr rfl (dC (kZ) hp (by decide) (fJ (av (kg ?_))))))))))))
 have dl:=iq pool
 have item : ∀ (lap : ae) (M : List ah) (Q' : ae → List ah → Prop),W (aq (sem (d + 1) .f_law_deed) (ab (af 1) (ab (af 2) (ab (af 3) am))) (some lap :: ([(0,("book" : Str)),(1, "pool"),(2, "deep")].map fun q=>(([some (.mref 34),some (.mref 2),some (.int (3 - (h : Int))),none] : Loc)[q.1]?).join))) M Q' ↔ W (sem (d + 1) .f_law_deed [.mref 34,.mref 2,.int (3 - (h : Int))]) M Q':=by
  intro lap M Q'
  rw [qF,fE,bU (v:=.mref 34) rfl,fE,bU (v:=.mref 2) rfl,fE,bU (v:=.int (3 - (h : Int))) rfl,fO]
 have fin : ∀ (kids : List ae) (F : Den) (r : Rd) (pool' : List Int) (n' k' : Int) (J' : List ah),IsL kids F r h → kids.length ≤ 2 → Pl n n' r (2 * (dB h : Int)) → pool'.length ≤ pool.length →
   jf (bL (aD (aq (sem (d + 1) .Node) (ab (ar (.str "block")) (ab (aq (sem (d + 1) .f_law_place) (ab (af 0) am)) (ab (ar .none) (ab (aD (af 3)) am))))))) (iU Q) (.next,[some (.mref 34),some (.mref 2),some (.int (3 - (h : Int))),some (.mref (H A pool' n' k' t (J ++ J')).length)]) (H A pool' n' k' t (J ++ J') ++ [.lst kids]):=by
  intro kids F r pool' n' k' J' i hk l el
  refine aj (a8 (dS (d:=d) rfl (ag (aR (ag (aA (wr rfl ?_)))))))
  rw [gm]
  refine gO (kZ) (ag (aR (ag ?_)))
  rw [rY]
  refine nq rfl (av (BK ?_))
  rw [gm]
  simp only [List.append_assoc]
  exact hQ _ _ _ _ _ _ _ (.mk i) ((l.wide (Int.le_refl _) (my)).up (JS)) el
 rcases dr2 pool with h2 | h2
 ·rw [h2]
  refine ⟨[.int 0],by kernel_rfl,rfl,?_⟩
  refine g5 (qS (ifp rfl ?_))
  rw [item]
  refine D _ _ _ _ _ _ _ _ (Cm he) h3 (j9 hp dl) fun v F r p1 n1 k1 J1 i l el=>?_
  refine lh ?_
  have:=fin [v] _ _ p1 n1 k1 ([.lst []] ++ J1) (.cons i .nil) (by simp) (by rw [List.append_nil]; exact l.up (Ie)) (o79 dl el)
  simp only [List.append_assoc] at this ⊢
  exact this
 ·rw [h2]
  refine ⟨[.int 0,.int 1],by kernel_rfl,rfl,?_⟩
  refine g5 (qS (ifp rfl ?_))
  rw [item]
  refine D _ _ _ _ _ _ _ _ (Cm he) h3 (j9 hp dl) fun v F r p1 n1 k1 J1 i l el=>?_
  refine g5 (qS (ifp rfl ?_))
  rw [item]
  refine D _ _ _ _ _ _ _ _ (Cm he) h3 (oq hp dl el) fun v2 F2 r2 p2 n2 k2 J2 i2 l2 el2=>?_
  refine lh ?_
  have:=fin [v,v2] _ _ p2 n2 k2 ([.lst []] ++ J1 ++ J2) (.cons i (.cons i2 .nil)) (by simp) (by rw [List.append_nil]; exact (l.append l2).up (Kj)) (qU dl el el2)
  simp only [List.append_assoc] at this ⊢
  exact this
theorem Al {h : Nat} (Bk : pU h) : FW h:=by
 intro e A pool n k t J c Q he h3 hc hp hQ
 obtain ⟨d,rfl⟩ : ∃ d,e = d + 2:=⟨e - 2,(JB he h3)⟩
 rw [uG]
 refine bK (loc0:=[some (.mref 34),some (.mref 2),some (.int (2 - (h : Int))),some (.int c),none,none]) (by simp) rfl ?_
 unfold f7
 refine aB (aP (cU (av ?_)))
 refine ⟨rfl,?_⟩
 refine aj (aB (ci (wr rfl ?_)))
 rw [rY,gm]
 have turn : ∀ (lap : ae) (z : Option ae) (pool : List Int) (n k : Int) (kids : List ae) (J2 : List ah) (R : Fl × Loc → List ah → Prop),pool.length ≤ 1000000 → kids.length ≤ 100 →
   (∀ tv rt bv F r pool' n' k' J3,IsV tv rt 3 → IsB bv F r h → Pl n n' (rt ++ r) (15 + (2 * (dB h : Int) + 1)) → pool'.length ≤ pool.length → R (.next,[some (.mref 34),some (.mref 2),some (.int (2 - (h : Int))),some (.int c),some (.mref (J.length + 53)),some lap]) (H A pool' n' k' t (J ++ .lst (kids ++ [tv] ++ [bv]) :: (J2 ++ J3)))) →
   W (au (bx (bF be (af 4) (ab (aq (sem (d + 1) .f_law_test) (ab (af 0) (ab (af 1) am))) am))) (bx (bF be (af 4) (ab (aq (sem (d + 1) .f_law_block) (ab (af 0) (ab (af 1) (ab (aE eF (af 2) (ar (.int 1))) am)))) am)))
    (([some (.mref 34),some (.mref 2),some (.int (2 - (h : Int))),some (.int c),some (.mref (J.length + 53)),z] : Loc).set 5 (some lap))) (H A pool n k t (J ++ .lst kids :: J2)) R:=by
  intro lap z pool n k kids J2 R hp hk hR
  refine aB (bu (cr (ao (v:=.mref (J.length + 53)) rfl ?_)))
  refine ⟨_,_,rfl,gA,?_⟩
  refine ag (aA (wr rfl ?_))
  refine oV (H4 h3 he) hp fun tv rt p1 n1 J3 i1 l1 e1=>?_
  refine av ?_
  rw [List.append_assoc,List.cons_append]
  refine gW (bi (yt hk)) (aj (bu (cr (ao (v:=.mref (J.length + 53)) rfl ?_))))
  refine ⟨_,_,rfl,gA,?_⟩
  refine ag (aA (ag (ao (v:=.mref 34) rfl (ag (ao (v:=.mref 2) rfl (ag (aT (ao (v:=.int (2 - (h : Int))) rfl (aR (fJ (av ?_)))))))))))
  rw [show (2 - (h : Int)) + 1 = 3 - (h : Int) by exact JW]
  refine Bk _ _ _ _ _ _ _ _ (IB he) (IS h3) (j9 hp e1) fun bv F r p2 n2 k2 J4 i2 l2 e2=>?_
  refine av ?_
  rw [List.append_assoc,List.cons_append]
  refine gW (bi (by rw [List.length_append]; simp; exact GO hk)) ?_
  have:=hR tv rt bv F r p2 n2 k2 (J3 ++ J4) i1 i2 (l1.append l2) (o79 e1 e2)
  simp only [List.append_assoc] at this ⊢
  exact this
 rcases hc with rfl | rfl
 ·refine ⟨[.int 0],by kernel_rfl,?_⟩
  refine aY ?_
  refine turn _ _ _ _ _ [] [] _ hp (by simp) fun tv rt bv F r p1 n1 k1 J3 i1 i2 l el=>?_
  dsimp only
  refine bN (aj (a8 (ao (v:=.mref (J.length + 53)) rfl (aF ?_))))
  have:=hQ [tv,bv] [(rt,F)] (rt ++ (r ++ [])) p1 n1 k1 J3 (.cons i1 i2 .nil) (by simp) (by rw [List.append_nil]; exact l.up (Hn)) el
  exact this
 ·refine ⟨[.int 0,.int 1],by kernel_rfl,?_⟩
  refine aY ?_
  refine turn _ _ _ _ _ [] [] _ hp (by simp) fun tv rt bv F r p1 n1 k1 J3 i1 i2 l el=>?_
  dsimp only
  refine aY ?_
  refine turn _ _ _ _ _ [tv,bv] _ _ (j9 hp el) (by simp) fun tv2 rt2 bv2 F2 r2 p2 n2 k2 J4 i3 i4 l2 el2=>?_
  dsimp only
  refine bN (aj (a8 (ao (v:=.mref (J.length + 53)) rfl (aF ?_))))
  have pl : Pl n n2 (rt ++ (r ++ (rt2 ++ (r2 ++ [])))) (2 * (15 + (2 * (dB h : Int) + 1))):=by
   have:=(l.append l2).up (c':=2 * (15 + (2 * (dB h : Int) + 1))) (JG)
   simp only [List.append_assoc,List.append_nil] at this ⊢
   exact this
  have:=hQ [tv,bv,tv2,bv2] [(rt,F),(rt2,F2)] _ p2 n2 k2 ([] ++ J3 ++ J4) (.cons i1 i2 (.cons i3 i4 .nil)) (by simp) pl (o79 el el2)
  simp only [List.append_assoc,List.nil_append] at this ⊢
  exact this
end
end Mine
end
section
open PySem PySem.W PySem.Spec PySem.Calls PySem.SeqAt PyProof.Rows
namespace Mine
theorem FG {ms : Loc → Mo (List ae)} {loc : Loc} {M : List ah} {Q : ae → List ah → Prop} : W (ju ms loc) M Q ↔ W (ms loc) M fun vs M1=>bW vs.length = true ∧ Q (.tup vs) M1:=by
 unfold ju; rw [ca]
 constructor
 ·intro h; refine b9 h fun vs M1 ⟨a,M2,e,q⟩=>?_
  split at e
  ·rename_i hs; cases e; exact ⟨hs,q⟩
  ·cases e
 ·intro h; refine b9 h fun vs M1 ⟨hs,q⟩=>⟨_,_,?_,q⟩
  dsimp only
  rw [if_pos hs]
theorem tM {ms : Loc → Mo (List ae)} {loc : Loc} {M : List ah} {Q : ae → List ah → Prop} (xx : W (ms loc) M fun vs M1=>bW vs.length = true ∧ Q (.tup vs) M1) : W (ju ms loc) M Q:=(FG (ms:=ms) (loc:=loc) (M:=M) (Q:=Q)).mpr xx
theorem nR (X : Fin 16) (a b : Rd) : dT X (a ++ b) = dT X a ++ dT X b:=List.filter_append ..
section
variable {A : List ae} {pool : List Int} {n k : Int} {t : ah} {J X : List ah} {d : Nat}
theorem A8 {Q : ae → List ah → Prop} {M : List ah} : W (aK "type" fk) M Q ↔ Q dG M:=bI (by kernel_rfl)
theorem A9 {Q : ae → List ah → Prop} {M : List ah} (xx : Q dG M) : W (aK "type" fk) M Q:=(A8 (Q:=Q) (M:=M)).mpr xx
theorem drK (pool : List Int) : ∃ s : Fin 4,drV pool 4 = (s.val : Int):=Df pool
theorem Cd {l : Loc → Mo ae} {loc : Loc} {M : List ah} {Q : ae → List ah → Prop} : W (aD l loc) M Q ↔ W (l loc) M (mr Q):=kI
theorem xI {l : Loc → Mo ae} {loc : Loc} {M : List ah} {Q : ae → List ah → Prop} (xx : W (l loc) M (mr Q)) : W (aD l loc) M Q:=(Cd (l:=l) (loc:=loc) (M:=M) (Q:=Q)).mpr xx
theorem Ae {a c : ae} {vs us : List ae} {M : List ah} {Q : ae → List ah → Prop} (h1 : cz a M = some vs) (h2 : cz c M = some us) (hs : bW (vs.length + us.length) = true) : W (gZ a c) M (mr Q) ↔ Q (.lst (vs ++ us)) (M ++ [.gone]):=by
 have e : gZ a c M = some (.mref M.length,M ++ [.lst (vs ++ us)]):=by
  unfold gZ
  rw [h1,h2]
  dsimp only
  rw [if_pos hs]; rfl
 rw [bI e]
 constructor
 ·rintro ⟨i,mo,v,e1,e2,e3,q⟩
  cases e1
  rw [bH] at e2; cases e2; cases e3
  rw [cB] at q; exact q
 ·intro q
  refine ⟨_,_,_,rfl,bH,rfl,?_⟩
  rw [cB]; exact q
theorem vz {a c : ae} {vs us : List ae} {M : List ah} {Q : ae → List ah → Prop} (h1 : cz a M = some vs) (h2 : cz c M = some us) (hs : bW (vs.length + us.length) = true) (xx : Q (.lst (vs ++ us)) (M ++ [.gone])) : W (gZ a c) M (mr Q):=(Ae (a:=a) (c:=c) (vs:=vs) (us:=us) (M:=M) (Q:=Q) (h1:=h1) (h2:=h2) (hs:=hs)).mpr xx
theorem wf {y x : ah} : (H A pool n k t (J ++ y :: x :: X))[J.length + 54]? = some x:=by
 show (J ++ y :: x :: X)[J.length + 1]? = _
 rw [List.getElem?_append_right (o97)]
 simp
theorem uE {y : ah} {vs : List ae} {v : ae} {Q : ae → List ah → Prop} (hs : bW vs.length = true) : W (be [.mref (J.length + 54),v]) (H A pool n k t (J ++ y :: .lst vs :: X)) Q ↔ Q .none (H A pool n k t (J ++ y :: .lst (vs ++ [v]) :: X)):=by
 refine bI ?_
 unfold be
 dsimp only
 rw [wf]
 dsimp only
 rw [hs,if_pos rfl]
 have : (H A pool n k t (J ++ y :: .lst vs :: X)).set (J.length + 54) (.lst (vs ++ [v])) = H A pool n k t (J ++ y :: .lst (vs ++ [v]) :: X):=by
  show H A pool n k t ((J ++ y :: .lst vs :: X).set (J.length + 1) (.lst (vs ++ [v]))) = _
  rw [List.set_append_right _ _ (o97)]
  simp
 rw [this]
theorem ui {y : ah} {vs : List ae} {v : ae} {Q : ae → List ah → Prop} (hs : bW vs.length = true) (xx : Q .none (H A pool n k t (J ++ y :: .lst (vs ++ [v]) :: X))) : W (be [.mref (J.length + 54),v]) (H A pool n k t (J ++ y :: .lst vs :: X)) Q:=(uE (y:=y) (vs:=vs) (v:=v) (Q:=Q) (hs:=hs)).mpr xx
theorem uy {h : Nat} (he : 1 ≤ d) (h3 : h ≤ 3) (hp : pool.length ≤ 1000000) {rest : Loc → Mo (Fl × Loc)} {Q : Fl × Loc → List ah → Prop}
  (hR : ∀ (dr : Int) (pool' : List Int) (k' : Int) (J' : List ah),0 ≤ dr → dr < 9 → (h = 0 → dr < 3) → pool'.length ≤ pool.length → W (rest ([some (.mref 34),some (.mref 2),some (.int (3 - (h : Int))),some (.int dr),some (.int (n + 1))] ++ List.replicate 8 none)) (H A pool' (n + 1) k' t (J ++ J')) Q) :
  W (au (eQ aV kN fI (af 0) (ar (.str "spare")) (ar (.int 1))) (au (a7 3 (aq (sem d .f_law_draw) (ab (af 1) (ab (eIf (ki (a6 (aE oLt (af 2) (ar (.int 3)))) (a6 (aE oGt (aE aV (af 0) (ar (.str "spare"))) (ar (.int 0))))) (ar (.int 9)) (ar (.int 3))) am)))) (au (a7 4 (aq (sem d .f_law_place) (ab (af 0) am))) rest)) ([some (.mref 34),some (.mref 2),some (.int (3 - (h : Int)))] ++ List.replicate 10 none)) (H A pool n k t J) Q:=by
 refine aB (FR rfl (aj (aB (aP (aA (ag (ao (v:=.mref 2) rfl (ag (tt (io (wr rfl ?_)))))))))))
 have dl:=iq pool
 have fin : ∀ b : Int,0 < b → b ≤ 9 → (h = 0 → b ≤ 3) → W (sem d .f_law_draw [.mref 2,.int b]) (H A pool n (k - 1) t J) fun a M1=>jf (au (a7 4 (aq (sem d .f_law_place) (ab (af 0) am))) rest) Q (.next,(([some (.mref 34),some (.mref 2),some (.int (3 - (h : Int)))] ++ List.replicate 10 none : Loc).set 3 (some a))) M1:=by
  intro b h0 h9 hh
  refine dC he hp (fun a=>Kg h0 h9 a) (aj (aB (aP (aA (wr rfl (gO he (aj ?_)))))))
  obtain ⟨a1,a2⟩:=tR pool h0
  exact hR _ _ _ _ a1 (HV h0 h9 a2) (fun z=>Int.lt_of_lt_of_le a2 (hh z)) dl
 by_cases hd : (3 - (h : Int)) < 3
 ·simp only [hd,decide_true,if_true]
  refine bM (aT (aT (ao (v:=.mref 34) rfl (aR (AB (aR (wL (b7 ?_))))))))
  by_cases hk : k - 1 > 0
  ·simp only [hk,decide_true,if_true]
   refine aR (av ?_)
   exact fin 9 (by decide) (by decide) (fun z=>by subst z; exact absurd hd (by decide))
  ·simp only [hk,decide_false,Bool.false_eq_true,if_false]
   refine aR (av ?_)
   exact fin 3 (by decide) (by decide) (fun _=>Int.le_refl _)
 ·simp only [hd,decide_false,Bool.false_eq_true,if_false]
  refine aR (av ?_)
  exact fin 3 (by decide) (by decide) (fun _=>Int.le_refl _)
theorem dBs (g : Nat) : ((dB (g + 1) : Nat) : Int) = 31 + 3 * (2 * (dB g : Int) + 1):=by show ((31 + 3 * (2 * dB g + 1) : Nat) : Int) = _; exact Jv
theorem EO : ∀ h : Nat,6 ≤ dB h
 | 0=>Nat.le_refl _
 | h + 1=>by show 6 ≤ 31 + _; exact GL
theorem dB6 (h : Nat) {a : Int} (ha : a ≤ 6) : a ≤ (dB h : Int):=Int.le_trans ha (Int.ofNat_le.mpr (EO h))
theorem nn2 (n : Int) : n + 1 + 1 - n + 3 ≤ 6:=by rw [Int.add_assoc,Int.add_comm n,Int.add_sub_cancel]; decide
theorem nn3 (n : Int) : n + 1 + 1 + 1 - n + 3 ≤ 6:=by rw [Int.add_assoc,Int.add_assoc,Int.add_comm n,Int.add_sub_cancel]; decide
theorem Fe (p : List Int) : 1 + drV p 2 = 1 ∨ 1 + drV p 2 = 2:=(dr2 p).imp (fun h=>by rw [h]; rfl) fun h=>by rw [h]; rfl
theorem qB {e : Nat} (he : 2 ≤ e) {A : List ae} {pool p : List Int} {n k : Int} {t : ah} {J : List ah} {Q : ae → List ah → Prop} (x : ∀ s : Fin 4,Q (vaV (n + 1) s) (H A pool (n + 1) k t (J ++ [.gone] ++ [.gone]))) : W (sem e .f_law_var [.mref 34,.int (drV p 4)]) (H A pool n k t J) Q:=by
 obtain ⟨s,hs⟩:=Df p
 rw [hs]; exact (x7 he s).mpr (x s)
theorem jC {c : Fn → List ae → Mo ae} {A : List ae} {pool : List Int} {n k : Int} {t : ah} {J : List ah} {op : Str} {place ty kids value : ae} {Q : ae → List ah → Prop} (x : Q (.inst 32 (ndF op place ty kids value)) (H A pool n k t (J ++ [.gone]))) : W (mf c .Node [.str op,place,ty,kids,value]) (H A pool n k t J) (mr Q):=Fh x
theorem yj {α : Type} {m : Mo α} {A : List ae} {pool : List Int} {n k : Int} {t x : ah} {J X Y : List ah} {Q : α → List ah → Prop} (h : W m (H A pool n k t (J ++ x :: (X ++ Y))) Q) : W m (H A pool n k t (J ++ x :: X ++ Y)) Q:=by rw [List.append_assoc]; exact h
theorem Fy {F : List ae → Mo ae} {x y : Int} {a b c : ae} {M : List ah} {Q : ae → List ah → Prop} (h : x = y) (w : W (F [a,b,.int y,c]) M Q) : W (F [a,b,.int x,c]) M Q:=h ▸ w
theorem zD {F : List ae → Mo ae} {x y : Int} {a b : ae} {M : List ah} {Q : ae → List ah → Prop} (h : x = y) (w : W (F [a,b,.int y]) M Q) : W (F [a,b,.int x]) M Q:=h ▸ w
theorem yu {x y : Int} {M : List ah} {Q : ae → List ah → Prop} (a : x = y → Q (.bool true) M) (b : ¬ x = y → Q (.bool false) M) : W (oEq (.int x) (.int y)) M Q:=by
 refine eH ?_
 by_cases h : x = y
 ·rw [decide_eq_true h]; exact a h
 ·rw [decide_eq_false h]; exact b h
theorem Hy {x y z : Int} {M : List ah} {l : Loc} {i : Nat} {Q : Bool → List ah → Prop} (hl : l[i]? = some (some (.int x))) (a : x = y ∨ x = z → Q true M) (b : ¬ (x = y ∨ x = z) → Q false M) : W (tOr (a6 (aE oEq (af i) (ar (.int y)))) (a6 (aE oEq (af i) (ar (.int z)))) l) M Q:=
 BP (bM (aT (ao hl (aR (yu (fun h=>⟨_,rfl,ifp rfl (a (.inl h))⟩) fun h=>⟨_,rfl,ifn (by decide) (bM (aT (ao hl (aR (yu (fun h'=>⟨_,rfl,a (.inr h')⟩) fun h'=>⟨_,rfl,b fun z=>z.elim h h'⟩)))))⟩)))))
theorem wc {h : Nat} (Bk : ∀ g,h = g + 1 → pU g) : BJ h:=by
 intro e A pool n k t J Q he h3 hp hQ
 obtain ⟨d,rfl⟩ : ∃ d,e = d + 2:=⟨e - 2,(IL he h3)⟩
 rw [va]
 refine bK (loc0:=[some (.mref 34),some (.mref 2),some (.int (3 - (h : Int)))] ++ List.replicate 10 none) (by simp) rfl ?_
 have hQ' : ∀ v F r p n' k' J2,IsS v F r h → Pl n n' r (dB h : Int) → p.length ≤ pool.length → Grw J J2 → Q v (H A p n' k' t J2):=fun v F r p n' k' J2 a b c ⟨X,e⟩=>e ▸ hQ v F r p n' k' X a b c
 unfold f5
 refine uy (kZ) h3 hp fun dr p1 k1 J1 d0 d9 dh e1=>?_
 have dl1:=iq p1
 refine wB (v:=dr) rfl ?_
 by_cases c0 : dr = 0
 ·refine ifp c0 (aB (aP (aA (ag (ao (v:=.mref 34) rfl (ag (aA (wr rfl (dC (b:=4) (kZ) (j9 hp e1) (by decide) (av (qB (DV h3 he) fun s=>aj (a8 (dS (d:=d) rfl (ag (aR (ag (ao (v:=.int (n + 1)) rfl (ag (aR (ag (im (ag (ao (v:=vaV (n + 1 + 1) s) rfl (ag (aA (wr rfl ?_))))))))))))))))))))))))))
  refine eW (DM h3 he) (oq hp e1 dl1) fun v r p2 n2 J2 i l e2=>av (ko rfl (av (lV (aX (aF ?_)))))
  exact hQ' _ _ _ _ _ _ _ (.asg (s:=s) (i.up (u4))) (((Pl.one (Ch) (Int.le_refl _)).append l).up (dB6 h (nn2 _))) (qU e1 dl1 e2) (.app (.app (.app (.app (.app (.app (.app .nil)))))))
 refine ifn c0 (wB (v:=dr) rfl ?_)
 by_cases c1 : dr = 1
 ·refine ifp c1 (aB (aP (aA (ag (ao (v:=.mref 34) rfl (ag (aA (wr rfl (dC (b:=4) (kZ) (j9 hp e1) (by decide) (av (qB (DV h3 he) fun s=>aj (a8 (dS (d:=d) rfl (ag (aR (ag (ao (v:=.int (n + 1)) rfl (ag (aR (ag (im (ag (ao (v:=vaV (n + 1 + 1) s) rfl (ag (aA (wr rfl ?_))))))))))))))))))))))))))
  refine eW (DM h3 he) (oq hp e1 dl1) fun v r p2 n2 J2 i l e2=>av (ko rfl (wr rfl (jC (aX (aF ?_)))))
  exact hQ' _ _ _ _ _ _ _ (.inc (s:=s) (i.up (u4))) (((Pl.one (Ch) (Int.le_refl _)).append l).up (dB6 h (nn2 _))) (qU e1 dl1 e2) (.app (.app (.app (.app (.app (.app (.app .nil)))))))
 refine ifn c1 (wB (v:=dr) rfl ?_)
 by_cases c2 : dr = 2
 ·refine ifp c2 (aB (aP (dS (d:=d) rfl (ag (aR (ag (aA (wr rfl (gO (kZ) (ag (ba (aT (ao (v:=.mref 34) rfl (aR (tK (A9 (ag (im (av (ko rfl ?_))))))))))))))))))))
  refine ag (aT (ao (v:=.mref 34) rfl (aR (tK (av (jC ?_))))))
  refine aj (aB (aP (aA (ag (ao (v:=.mref 34) rfl (ag (aA (wr rfl (dC (b:=4) (kZ) (j9 hp e1) (by decide) (av (qB (DV h3 he) fun s=>aj (a8 (dS (d:=d) rfl (ag (aR (ag (ao (v:=.int (n + 1)) rfl (ag (aR (ag (im (ag (ao (v:=ndV "proc" (n + 1 + 1) dG [] fk) rfl (ag (ao (v:=vaV (n + 1 + 1 + 1) s) rfl (ag (aA (wr rfl ?_))))))))))))))))))))))))))))
  refine eW (DM h3 he) (oq hp e1 dl1) fun v r p2 n2 J2 i l e2=>av (ko rfl (av (lV (aX (aF ?_)))))
  exact hQ' _ _ _ _ _ _ _ (.cal (s:=s) (i.up (u4))) (((Pl.one (Ht) (Int.le_refl _)).append l).up (dB6 h (nn3 _))) (qU e1 dl1 e2) (.app (.app (.app (.app (.app (.app (.app (.app (.app .nil)))))))))
 refine ifn c2 ?_
 obtain ⟨g,rfl⟩ : ∃ g,h = g + 1:=⟨h - 1,(Nat.sub_add_cancel (Nat.pos_of_ne_zero fun z=>c0 (Int.le_antisymm (Int.le_of_lt_add_one (b:=0) (Int.lt_iff_le_and_ne.mpr ⟨Int.le_of_lt_add_one (b:=1) (Int.lt_iff_le_and_ne.mpr ⟨Int.le_of_lt_add_one (b:=2) (dh z),c2⟩),c1⟩)) d0))).symm⟩
 have B:=Bk g rfl
 have Ar:=Al B
 have deep : (3 - ((g + 1 : Nat) : Int)) = 2 - (g : Int):=Kd
 have deep1 : (3 - ((g + 1 : Nat) : Int)) + 1 = 3 - (g : Int):=Jk
 refine aB (cH (Hy (x:=dr) rfl (fun c=>ifp rfl ?_) (fun c34=>ifn (by decide) ?_)))
 ·refine aB (aP (aA (ag (ao (v:=.mref 34) rfl (ag (ao (v:=.mref 2) rfl (ag (ao (v:=.int (3 - ((g + 1 : Nat) : Int))) rfl (ag (aT (aR (aA (wr rfl (dC (b:=2) (kZ) (j9 hp e1) (by decide) (fJ (av (Fy deep ?_)))))))))))))))))
  refine Ar _ _ _ _ _ _ _ _ _ (F3 he) (F9 h3) (Fe p1) (oq hp e1 dl1) fun kids Fs r p2 n2 k2 J2 i ik l e2=>?_
  have dl2:=iq p2
  refine aj (aB (aP (aT (aA (wr rfl (dC (b:=2) (kZ) (wO hp e1 dl1 e2) (by decide) (aR (yu (fun ho=>aj (aB (cH (wr rfl (ifp rfl ?_))))) (fun ho=>aj (aB (cH (wr rfl (ifn (by decide) ?_)))))))))))))
  ·refine yj (bu (cr (ao (v:=.mref ((J ++ J1 ++ [ah.lst []]).length + 53)) rfl ⟨_,_,rfl,gA,ag (aA (ag (ao (v:=.mref 34) rfl (ag (ao (v:=.mref 2) rfl (ag (aT (ao (v:=.int (3 - ((g + 1 : Nat) : Int))) rfl (aR (fJ (av (zD deep1 ?_))))))))))))⟩)))
   refine B _ _ _ _ _ _ _ _ (yw he) (xE h3) (yN hp e1 dl1 e2 dl2) fun b F rb p3 n3 k3 J3 ib lb e3=>av (yj (gW (bi (FX ik)) (aj (a8 (dS (d:=d) rfl (ag (aR (ag (ao (v:=.int (n + 1)) rfl (ag (aR (ag (nq rfl (wr rfl (jC (aX (aF ?_)))))))))))))))))
   exact hQ' _ _ _ _ _ _ _ (.if1 i ik ib) (((l.append lb).wide (my) (Int.le_refl _)).up (by rw [dBs]; exact GQ)) (A1 e1 dl1 e2 dl2 e3) (.app (.app (.app (.app .nil))))
  ·refine yj (cA (aj (a8 (dS (d:=d) rfl (ag (aR (ag (ao (v:=.int (n + 1)) rfl (ag (aR (ag (nq rfl (wr rfl (jC (aX (aF ?_))))))))))))))))
   exact hQ' _ _ _ _ _ _ _ (.if0 i ik) ((l.wide (my) (Int.le_refl _)).up (by rw [dBs]; exact Ez)) (Eo e1 dl1 e2 dl2) (.app (.app (.app (.app .nil))))
 ·have n3 : ¬ dr = 3:=fun z=>c34 (.inl z)
  have n4 : ¬ dr = 4:=fun z=>c34 (.inr z)
  refine cA (aj (wB (v:=dr) rfl ?_))
  by_cases c5 : dr = 5
  ·refine ifp c5 (a8 (dS (d:=d) rfl (ag (aR (ag (ao (v:=.int (n + 1)) rfl (ag (aR (ag (lQ (aA (ag (ao (v:=.mref 34) rfl (ag (ao (v:=.mref 2) rfl (ag (ao (v:=.int (3 - ((g + 1 : Nat) : Int))) rfl (ag (aT (aR (aA (wr rfl (dC (kZ) (j9 hp e1) (by decide) (fJ (av ?_)))))))))))))))))))))))))
   refine Fy deep ?_
   refine Ar _ _ _ _ _ _ _ _ _ (F3 he) (F9 h3) (Fe p1) (oq hp e1 dl1) fun kids Fs r p2 n2 k2 J2 i ik l e2=>?_
   refine ⟨_,_,_,rfl,gA,rfl,?_⟩
   rw [pW]
   refine av (lV (aX (aF ?_)))
   exact hQ' _ _ _ _ _ _ _ (.whl i ik) ((l.wide (my) (Int.le_refl _)).up (by rw [dBs]; exact Ez)) (qU e1 dl1 e2) (.app (.app (.app (.app .nil))))
  refine ifn c5 (wB (v:=dr) rfl ?_)
  by_cases c6 : dr = 6
  ·refine ifp c6 (aB (aP (aA (ag (ao (v:=.mref 34) rfl (ag (ao (v:=.mref 2) rfl (ag (aT (ao (v:=.int (3 - ((g + 1 : Nat) : Int))) rfl (aR (fJ (av (zD deep1 ?_))))))))))))))
   refine B _ _ _ _ _ _ _ _ (yw he) (xE h3) (j9 hp e1) fun b F r p2 n2 k2 J2 i l e2=>?_
   refine aj (a8 (dS (d:=d) rfl (ag (aR (ag (ao (v:=.int (n + 1)) rfl (ag (aR (ag (im (ag (ao (v:=b) rfl (ag (aA (wr rfl ?_)))))))))))))))
   refine oV (J8 h3 he) (oq hp e1 e2) fun tv rt p3 n3' J3 i3 l3 e3=>av (ko rfl (av (lV (aX (aF ?_)))))
   exact hQ' _ _ _ _ _ _ _ (.rep i i3) (((l.append l3).wide (my) (Int.le_refl _)).up (by rw [dBs]; exact JI)) (qU e1 e2 e3) (.app (.app (.app (.app (.app .nil)))))
  refine ifn c6 (wB (v:=dr) rfl ?_)
  by_cases c7 : dr = 7
  ·refine ifp c7 (aB (aP (cU (ag (aA (ag (ao (v:=.mref 34) rfl (ag (aA (wr rfl (dC (kZ) (j9 hp e1) (by decide) (av ?_))))))))))))
   refine qB (Gw h3 he) fun s=>ag (aA (wr rfl ?_))
   refine eW (Cb h3 he) (oq hp e1 dl1) fun v1 r1 p2 n2 J2 i1 l1 e2=>?_
   refine ag (aA (wr rfl ?_))
   refine eW (Cb h3 he) (wO hp e1 dl1 e2) fun v2 r2 p3 n3 J3 i2 l2 e3=>?_
   refine av ?_
   refine ⟨rfl,?_⟩
   rw [rY,gm]
   refine aj (a8 (dS (d:=d) rfl (ag (aR (ag (ao (v:=.int (n + 1)) rfl (ag (aR (ag (xI (aT ?_)))))))))))
   generalize hJ4 : J ++ J1 ++ [ah.lst []] ++ [ah.gone] ++ [ah.gone] ++ J2 ++ J3 = J4
   refine ao (v:=.mref (J4.length + 53)) rfl (cU (ag (aA (ag (ao (v:=.mref 34) rfl (ag (ao (v:=.mref 2) rfl (ag (aT (ao (v:=.int (3 - ((g + 1 : Nat) : Int))) rfl (aR (fJ (av ?_)))))))))))))
   refine zD deep1 ?_
   refine B _ _ _ _ _ _ _ _ (yw he) (xE h3) (yN hp e1 dl1 e2 e3) fun b F rb p4 n4 k4 J5 ib lb e4=>?_
   refine av ?_
   refine ⟨rfl,?_⟩
   refine vz (vs:=[vaV (n + 1 + 1) s,v1,v2]) (us:=[b]) ?g1 ?g2 rfl ?_
   case g1=>
    unfold cz
    dsimp only
    rw [gm,List.append_assoc,List.append_assoc,List.singleton_append,gA]
   case g2=>
    unfold cz
    dsimp only
    rw [bH]
   rw [gm,gm]
   refine wr rfl (jC (aX (aF ?_)))
   subst hJ4
   have pl : Pl n n4 ([(n + 1 + 1,s)] ++ (r1 ++ (r2 ++ rb))) (dB (g + 1) : Int):=((Pl.one (Ch) (Int.le_refl _)).append (l1.append (l2.append lb))).up (by rw [dBs]; exact Io)
   exact hQ' _ _ _ _ _ _ _ (.for_ (s:=s) (i1.up (u4)) (i2.up (u4)) ib) pl (A1 e1 dl1 e2 e3 e4) (.app (.app (.app (.app (.app (.app (.app (.app (.app (.app (.app .nil)))))))))))
  refine ifn c7 (aB (aP (cU (ag (aA (wr rfl ?_))))))
  refine eW (Cb h3 he) (j9 hp e1) fun v1 r1 p2 n2 J2 i1 l1 e2=>?_
  refine av ?_
  refine ⟨rfl,?_⟩
  rw [rY,gm]
  refine aj (aB (aP (cU (av ?_))))
  refine ⟨rfl,?_⟩
  generalize hJ4 : J ++ J1 ++ J2 = J4
  rw [rY,gm]
  refine aj (aB (ci (aA (ag (aT (aR (aA (wr rfl (dC (kZ) (oq hp e1 e2) (by decide) (fJ (av (kg ?_))))))))))))
  rw [List.append_assoc J4,List.append_assoc J4,List.append_assoc [ah.lst [v1]],List.length_append,List.length_singleton]
  have turn : ∀ (lap : ae) (z : Option ae) (pool : List Int) (n₁ k : Int) (kids rows : List ae) (J2 : List ah) (R : Fl × Loc → List ah → Prop),pool.length ≤ 1000000 → kids.length ≤ 100 → rows.length ≤ 100 →
    (∀ bv F r pool' n' k' J3 rows',IsB bv F r g → Pl n₁ n' r (2 * (dB g : Int) + 1) → pool'.length ≤ pool.length → rows'.length ≤ rows.length + 1 → R (.next,[some (.mref 34),some (.mref 2),some (.int (3 - ((g + 1 : Nat) : Int))),some (.int dr),some (.int (n + 1)),some (.mref (J4.length + 53)),some (.mref (J4.length + 54)),some lap,none,none,none,none,none]) (H A pool' n' k' t (J4 ++ .lst (kids ++ [bv]) :: .lst rows' :: (J2 ++ J3)))) →
    W (au (bx (bF be (af 6) (ab (aD (bB (ab (ju (ab (af 7) (ab (af 7) am))) am))) am))) (bx (bF be (af 5) (ab (aq (sem (d + 1) .f_law_block) (ab (af 0) (ab (af 1) (ab (aE eF (af 2) (ar (.int 1))) am)))) am)))
     (([some (.mref 34),some (.mref 2),some (.int (3 - ((g + 1 : Nat) : Int))),some (.int dr),some (.int (n + 1)),some (.mref (J4.length + 53)),some (.mref (J4.length + 54)),z,none,none,none,none,none] : Loc).set 7 (some lap))) (H A pool n₁ k t (J4 ++ .lst kids :: .lst rows :: J2)) R:=by
   intro lap z pool n₁ k kids rows J2 R hp hk hr hR
   refine aB (bu (cr (ao (v:=.mref (J4.length + 54)) rfl ?_)))
   refine ⟨_,_,rfl,wf,?_⟩
   refine ag (lu (ag (tM (wr rfl ?_))))
   refine ⟨rfl,?_⟩
   refine av ?_
   refine ⟨rfl,?_⟩
   refine av ?_
   rw [gm,List.append_assoc J4,List.cons_append (a:=ah.lst kids),List.cons_append (a:=ah.lst rows)]
   refine ui (bi (yt hr)) (aj (bu (cr (ao (v:=.mref (J4.length + 53)) rfl ?_))))
   refine ⟨_,_,rfl,gA,?_⟩
   refine ag (aA (ag (ao (v:=.mref 34) rfl (ag (ao (v:=.mref 2) rfl (ag (aT (ao (v:=.int (3 - ((g + 1 : Nat) : Int))) rfl (aR (fJ (av ?_)))))))))))
   refine zD deep1 ?_
   refine B _ _ _ _ _ _ _ _ (yw he) (xE h3) hp fun bv F r p2 n2 k2 J5 i2 l2 e2=>?_
   refine av ?_
   rw [List.append_assoc J4,List.cons_append (a:=ah.lst kids)]
   refine gW (bi (yt hk)) ?_
   have:=hR bv F r p2 n2 k2 ([ah.gone] ++ J5) (rows ++ [ae.lst [ae.tup [lap,lap]]]) i2 l2 e2 (by simp)
   simp only [List.append_assoc,List.cons_append] at this ⊢
   exact this
  have fin : ∀ (bs : List ae) (Fs : List Den) (r : Rd) (rows : List ae) (lap : ae) (pool : List Int) (n' k : Int) (J3 : List ah),dL bs Fs r g → Fs ≠ [] → bs.length ≤ 10 → rows.length ≤ 100 → Pl n2 n' r (2 * (2 * (dB g : Int) + 1)) → pool.length ≤ p2.length →
    W (au (a7 8 (aE oEq (aq (sem (d + 1) .f_law_draw) (ab (af 1) (ab (ar (.int 2)) am))) (ar (.int 1)))) (au (sIf (a6 (af 8)) (bx (bF be (af 5) (ab (aq (sem (d + 1) .f_law_block) (ab (af 0) (ab (af 1) (ab (aE eF (af 2) (ar (.int 1))) am)))) am))) bD) (bL (aD (aq (sem (d + 1) .Node) (ab (ar (.str "case")) (ab (af 4) (ab (ar .none) (ab (aD (af 5)) (ab (ju (ab (af 6) (ab (af 8) am))) am)))))))))
     [some (.mref 34),some (.mref 2),some (.int (3 - ((g + 1 : Nat) : Int))),some (.int dr),some (.int (n + 1)),some (.mref (J4.length + 53)),some (.mref (J4.length + 54)),some lap,none,none,none,none,none]) (H A pool n' k t (J4 ++ .lst (v1 :: bs) :: .lst rows :: J3)) (iU Q):=by
   intro bs Fs r rows lap pool n' k J3 i hne hb hr l el
   have dl:=iq pool
   refine aB (aP (aT (aA (wr rfl (dC (kZ) (wO hp e1 e2 el) (by decide) (aR (eH (aj (aB (cH (wr rfl ?_)))))))))))
   rw [List.append_assoc J4,List.cons_append (a:=ah.lst (v1 :: bs))]
   have gJ : Grw J J4:=hJ4 ▸ .app (.app .nil)
   by_cases ho : drV pool 2 = 1
   ·refine ifp (decide_eq_true ho) (bu (cr (ao (v:=.mref (J4.length + 53)) rfl ?_)))
    refine ⟨_,_,rfl,gA,?_⟩
    refine ag (aA (ag (ao (v:=.mref 34) rfl (ag (ao (v:=.mref 2) rfl (ag (aT (ao (v:=.int (3 - ((g + 1 : Nat) : Int))) rfl (aR (fJ (av ?_)))))))))))
    refine zD deep1 ?_
    refine B _ _ _ _ _ _ _ _ (yw he) (xE h3) (yN hp e1 e2 el dl) fun b F rb p3 n3 k3 J5 ib lb e3=>?_
    refine av ?_
    rw [List.append_assoc J4,List.cons_append (a:=ah.lst (v1 :: bs))]
    refine gW (bi (by rw [List.length_cons]; exact IY hb)) (aj (a8 (dS (d:=d) rfl (ag (aR (ag (ao (v:=.int (n + 1)) rfl (ag (aR (ag (nq rfl (ag (tM (wr rfl ?_))))))))))))))
    refine ⟨rfl,?_⟩
    refine av (jC (aF ?_))
    have ib2 : dL (bs ++ [b]) (Fs ++ [F]) (r ++ rb) g:=by
     clear hne l el hb
     induction bs generalizing Fs r with
     | nil=>cases i; exact (by have:=dL.cons ib .nil; rw [List.append_nil] at this; exact this)
     | cons x xs ih=>cases i with | cons j js=>have:=ih _ _ js; rw [List.append_assoc]; exact .cons j this
    have pl : Pl n n3 (r1 ++ (r ++ rb)) (dB (g + 1) : Int):=((l1.append (l.append lb)).wide (my) (Int.le_refl _)).up (by rw [dBs]; exact GY)
    exact hQ' _ _ _ _ _ _ _ (.cas (i1.up (u4)) ib2 (by show (bs ++ [b]).length ≤ 11; rw [List.length_append,List.length_singleton]; exact JC hb) (by simp)) pl (A1 e1 e2 el dl e3) (.app (.app gJ))
   ·refine ifn (by rw [decide_eq_true_eq]; exact ho) (cA (aj (a8 (dS (d:=d) rfl (ag (aR (ag (ao (v:=.int (n + 1)) rfl (ag (aR (ag (nq rfl (ag (tM (wr rfl ?_)))))))))))))))
    refine ⟨rfl,?_⟩
    refine av (jC (aF ?_))
    have pl : Pl n n' (r1 ++ r) (dB (g + 1) : Int):=((l1.append l).wide (my) (Int.le_refl _)).up (by rw [dBs]; exact GP)
    exact hQ' _ _ _ _ _ _ _ (.cas (i1.up (u4)) i (HI hb) hne) pl (Eo e1 e2 el dl) (.app (.app gJ))
  have dl2:=iq p2
  rcases dr2 p2 with h2 | h2
  ·rw [h2]
   refine ⟨[.int 0],by kernel_rfl,?_⟩
   refine aY ?_
   refine turn _ _ _ _ _ [v1] [] _ _ (wO hp e1 e2 dl2) (by simp) (by simp) fun bv F r p3 n3 k3 J3 rows' ib lb e3 er=>?_
   dsimp only
   refine bN (aj ?_)
   exact fin [bv] [F] _ rows' _ _ _ _ _ (.cons ib .nil) (by simp) (by simp) (by simp at er; exact Fi er) (by rw [List.append_nil]; exact lb.up (I1)) (o79 dl2 e3)
  ·rw [h2]
   refine ⟨[.int 0,.int 1],by kernel_rfl,?_⟩
   refine aY ?_
   refine turn _ _ _ _ _ [v1] [] _ _ (wO hp e1 e2 dl2) (by simp) (by simp) fun bv F r p3 n3 k3 J3 rows' ib lb e3 er=>?_
   dsimp only
   refine aY ?_
   refine turn _ _ _ _ _ [v1,bv] rows' _ _ (yN hp e1 e2 dl2 e3) (by simp) (by simp at er; exact Fi er) fun bv2 F2 r2 p4 n4 k4 J5 rows2 ib2 lb2 e4 er2=>?_
   dsimp only
   refine bN (aj ?_)
   exact fin [bv,bv2] [F,F2] _ rows2 _ _ _ _ _ (.cons ib (.cons ib2 .nil)) (by simp) (by simp) (by simp at er; exact Ia er2 er) (by rw [List.append_nil]; exact (lb.append lb2).up (GM)) (qU dl2 e3 e4)
theorem sN : ∀ h : Nat,pU h
 | 0=>rK (wc fun g e=>nomatch e)
 | h + 1=>rK (wc fun g e=>by obtain rfl : g = h:=Bl e; exact sN g)
end
end Mine
end
section
open PySem PySem.W PySem.Spec PySem.Calls PySem.SeqAt PyProof.Rows
namespace Mine
theorem eh (ns : List Int) : (gs ns).Perm ns:=List.mergeSort_perm ..
theorem pB (ns : List Int) : (gs ns).Pairwise (· ≤ ·):=by
 have:=List.pairwise_mergeSort (le:=fun a b : Int=>decide (a ≤ b)) (fun a b c h1 h2=>by rw [decide_eq_true_eq] at *; exact Hw h1 h2) (fun a b=>by rw [Bool.or_eq_true,decide_eq_true_eq,decide_eq_true_eq]; exact I9) ns
 exact this.imp fun h=>of_decide_eq_true h
theorem sM {xs ys : List Int} (hp : xs.Perm ys) (ha : ys.Pairwise (· ≤ ·)) : gs xs = ys:=
 ((eh xs).trans hp).eq_of_pairwise (fun x y _ _ h1 h2=>Int.le_antisymm h1 h2) (pB xs) ha
noncomputable def cm (c : Fin 16) : List Int:=(([0,1,2,3] : List (Fin 4)).filter (bV c)).map fun s=>(s.val : Int)
noncomputable def stV (c : Fin 16) : ae:=.lst ((cm c).map .int)
noncomputable def leS (X Y : Fin 16) : Prop:=∀ s : Fin 4,bV X s = true → bV Y s = true
theorem kj : ∀ (X : Fin 16) (s t : Fin 4),bV (dH X s) t = (bV X t || decide (t = s)):=by decide
theorem cS : ∀ (X Y : Fin 16) (t : Fin 4),bV (d6 X Y) t = (bV X t && bV Y t):=by decide
theorem fT : ∀ (t : Fin 4),bV 15 t = true:=by decide
theorem iK : ∀ (X Y : Fin 16),(∀ t : Fin 4,bV X t = bV Y t) → X = Y:=by decide
theorem rf : ∀ (c : Fin 16) (s : Fin 4),gs ((cm c).filter (fun x=>!decide (x = (s.val : Int))) ++ [(s.val : Int)]) = cm (dH c s):=by
 intro c s
 have h : ((cm c).filter (fun x=>!decide (x = (s.val : Int))) ++ [(s.val : Int)]).isPerm (cm (dH c s)) = true ∧ (cm (dH c s)).Pairwise (· ≤ ·):=by
  revert c s
  decide
 exact sM (List.isPerm_iff.mp h.1) h.2
theorem zB : ∀ (c e : Fin 16),cm c = cm e → c = e:=by decide
noncomputable def br (S : List (Fin 16)) : Fin 16:=dz 15 S
theorem fW (S : List (Fin 16)) : ∀ (Z : Fin 16),dz Z S = d6 Z (br S):=by
 unfold br dz
 induction S with
 | nil=>intro Z; exact iK _ _ fun t=>by rw [List.foldl_nil,List.foldl_nil,cS,fT,Bool.and_true]
 | cons a S ih=>
  intro Z
  rw [List.foldl_cons,List.foldl_cons,ih,ih (d6 15 a)]
  exact iK _ _ fun t=>by simp only [cS,fT,Bool.true_and,Bool.and_assoc]
theorem gM : br [] = 15:=rfl
theorem fZ (a : Fin 16) (S : List (Fin 16)) : br (a :: S) = d6 a (br S):=by
 show dz (d6 15 a) S = _
 rw [fW]
 exact iK _ _ fun t=>by simp only [cS,fT,Bool.true_and]
theorem qy (A B : List (Fin 16)) : br (A ++ B) = d6 (br A) (br B):=by
 induction A with
 | nil=>exact iK _ _ fun t=>by rw [List.nil_append,gM,cS,fT,Bool.true_and]
 | cons a A ih=>
  rw [List.cons_append,fZ,fZ,ih]
  exact iK _ _ fun t=>by simp only [cS,Bool.and_assoc]
theorem g3 (S : List (Fin 16)) (t : Fin 4) : bV (br S) t = S.all (bV · t):=by
 induction S with
 | nil=>rw [gM,fT]; rfl
 | cons a S ih=>rw [fZ,cS,ih]; rfl
theorem sI {A B : List (Fin 16)} (h : ∀ c,c ∈ A ↔ c ∈ B) : br A = br B:=iK _ _ fun t=>by
 rw [g3,g3,Bool.eq_iff_iff,List.all_eq_true,List.all_eq_true]
 exact ⟨fun k c hc=>k c ((h c).mpr hc),fun k c hc=>k c ((h c).mp hc)⟩
noncomputable def fb (A B : List (Fin 16)) : List (Fin 16):=A ++ B.filter fun c=>!decide (c ∈ A)
theorem kD {A B : List (Fin 16)} {c : Fin 16} : c ∈ fb A B ↔ c ∈ A ∨ c ∈ B:=by
 unfold fb
 rw [List.mem_append,List.mem_filter]
 by_cases h : c ∈ A <;> simp [h]
theorem fe (A B : List (Fin 16)) : br (fb A B) = d6 (br A) (br B):=by
 rw [← qy]
 exact sI fun c=>by rw [kD,List.mem_append]
theorem ff {A B : List (Fin 16)} (ha : A.Nodup) (hb : B.Nodup) : (fb A B).Nodup:=by
 unfold fb
 rw [List.nodup_append]
 refine ⟨ha,hb.filter _,fun x hx y hy e=>?_⟩
 subst e
 have:=(List.mem_filter.mp hy).2
 simp [hx] at this
theorem D8 (B : List (Fin 16)) : fb [] B = B:=by
 unfold fb
 rw [List.nil_append]
 exact List.filter_eq_self.mpr fun c _=>by simp
theorem tc (A B : List (Fin 16)) : A.length ≤ (fb A B).length:=by unfold fb; rw [List.length_append]; exact o58
noncomputable def eS (s : Fin 4) : List (Fin 16) → List (Fin 16) → List (Fin 16)
 | fs,[]=>fs
 | fs,c :: S=>eS s (if dH c s ∈ fs then fs else fs ++ [dH c s]) S
theorem hF (s : Fin 4) {c : Fin 16} : ∀ (S fs : List (Fin 16)),c ∈ eS s fs S ↔ c ∈ fs ∨ c ∈ S.map (dH · s)
 | [],fs=>by simp [eS]
 | a :: S,fs=>by
  rw [eS,hF s S]
  split
  ·rename_i h
   simp only [List.map_cons,List.mem_cons]
   constructor
   ·rintro (h1 | h1)
    ·exact .inl h1
    ·exact .inr (.inr h1)
   ·rintro (h1 | h1 | h1)
    ·exact .inl h1
    ·subst h1; exact .inl h
    ·exact .inr h1
  ·simp only [List.mem_append,List.map_cons,List.mem_cons,List.mem_nil_iff,or_false,List.not_mem_nil]
   rw [or_assoc]
theorem eG (s : Fin 4) : ∀ (S fs : List (Fin 16)),fs.Nodup → (eS s fs S).Nodup
 | [],fs,h=>h
 | a :: S,fs,h=>by
  rw [eS]
  refine eG s S _ ?_
  split
  ·exact h
  ·rename_i hn
   rw [List.nodup_append]
   exact ⟨h,by simp,fun x hx y hy e=>hn (by rw [List.mem_singleton] at hy; rw [← hy,← e]; exact hx)⟩
theorem du {S : List (Fin 16)} (h : S.Nodup) : S.length ≤ 16:=by
 have:=h.length_le_of_subset (l₂:=List.finRange 16) (fun c _=>List.mem_finRange c)
 rwa [List.length_finRange] at this
theorem fP (s : Fin 4) {S : List (Fin 16)} (h : S ≠ []) : br (eS s [] S) = dH (br S) s:=iK _ _ fun t=>by
 rw [g3,kj,g3,Bool.eq_iff_iff,List.all_eq_true,Bool.or_eq_true,List.all_eq_true,decide_eq_true_eq]
 constructor
 ·intro k
  by_cases e : t = s
  ·exact .inr e
  ·refine .inl fun c hc=>?_
   have:=k (dH c s) ((hF s S []).mpr (.inr (List.mem_map.mpr ⟨c,hc,rfl⟩)))
   rw [kj] at this
   simpa [e] using this
 ·intro k c hc
  rcases (hF s S []).mp hc with hc | hc
  ·cases hc
  ·obtain ⟨e,he,rfl⟩:=List.mem_map.mp hc
   rw [kj]
   rcases k with k | k
   ·rw [k e he]; rfl
   ·simp [k]
theorem ja (s : Fin 4) {S : List (Fin 16)} (h : S ≠ []) : eS s [] S ≠ []:=by
 intro e
 obtain ⟨a,S',rfl⟩:=List.exists_cons_of_ne_nil h
 have : dH a s ∈ eS s [] (a :: S'):=(hF s _ _).mpr (.inr (List.mem_map.mpr ⟨a,List.mem_cons_self,rfl⟩))
 rw [e] at this
 cases this
theorem we (c : Fin 16) : hG (stV c) = some (.list ((cm c).map .int)):=by
 unfold stV hG
 rw [ga]; rfl
theorem oe : ∀ S : List (Fin 16),eB (S.map stV) = some (S.map fun c=>.list ((cm c).map .int))
 | []=>rfl
 | c :: S=>by
  rw [List.map_cons,List.map_cons]
  unfold eB
  rw [we,oe S]
theorem s8 : ∀ xs ys : List Int,PyData.eqvAll (xs.map .int) (ys.map .int) = decide (xs = ys)
 | [],[]=>rfl
 | [],_ :: _=>rfl
 | _ :: _,[]=>rfl
 | x :: xs,y :: ys=>by
  rw [List.map_cons,List.map_cons,PyData.eqvAll,s8 xs ys]
  show ((x == y) && _) = _
  rw [Bool.eq_iff_iff,Bool.and_eq_true,beq_iff_eq,decide_eq_true_eq,decide_eq_true_eq,List.cons.injEq]
theorem xQ (c e : Fin 16) : PyData.eqv (.list ((cm c).map .int)) (.list ((cm e).map .int)) = decide (c = e):=by
 rw [PyData.eqv,s8,Bool.eq_iff_iff,decide_eq_true_eq,decide_eq_true_eq]
 exact ⟨zB c e,fun h=>by rw [h]⟩
theorem xz : ∀ S : List (Fin 16),PyData.canLayAll0 (S.map fun c=>PyData.list ((cm c).map .int)) = true
 | []=>rfl
 | c :: S=>by
  rw [List.map_cons]
  unfold PyData.canLayAll0
  rw [xz S]
  unfold PyData.canLay0
  rw [nX]; rfl
theorem sL : ∀ S : List (Fin 16),PyData.depthAll (S.map fun c=>PyData.list ((cm c).map .int)) ≤ 1
 | []=>by rw [List.map_nil]; exact Nat.zero_le _
 | c :: S=>by
  rw [List.map_cons]
  unfold PyData.depthAll PyData.depth
  rw [jy]
  have:=sL S
  exact Nat.max_le.mpr ⟨Nat.le_refl _,this⟩
theorem pt (S : List (Fin 16)) : shaped (.list (S.map fun c=>PyData.list ((cm c).map .int))) = true:=by
 unfold shaped PyData.canLay0 PyData.depth
 rw [xz]
 have:=sL S
 simp only [Bool.true_and,decide_eq_true_eq]
 exact Nat.le_trans (Nat.succ_le_succ this) (by decide)
theorem C7 (S : List (Fin 16)) (c : Fin 16) : ((S.map fun c=>PyData.list ((cm c).map .int)).any fun y=>PyData.eqv y (.list ((cm c).map .int))) = decide (c ∈ S):=by
 rw [Bool.eq_iff_iff,List.any_map,List.any_eq_true,decide_eq_true_eq]
 constructor
 ·rintro ⟨e,he,k⟩
  have k' : PyData.eqv (.list ((cm e).map .int)) (.list ((cm c).map .int)) = true:=k
  rw [xQ,decide_eq_true_eq] at k'
  rw [← k']; exact he
 ·intro h
  refine ⟨c,h,?_⟩
  show PyData.eqv (.list ((cm c).map .int)) (.list ((cm c).map .int)) = true
  rw [xQ,decide_eq_true_eq]
section
variable {M : List ah} {Q : ae → List ah → Prop}
theorem zm : ∀ (c : Fin 16) (s : Fin 4),(((cm c).map PyData.int).any fun y=>PyData.eqv y (.int (s.val : Int))) = bV c s:=by decide
theorem rM (c : Fin 16) (s : Fin 4) : W (dw (.int (s.val : Int)) (stV c)) M Q ↔ Q (.bool (!bV c s)) M:=by
 refine bI ?_
 have h : iT (.int (s.val : Int)) (stV c) M = some (bV c s):=by
  unfold iT stV cI cz hG
  dsimp only
  rw [ga]
  dsimp only
  rw [iX,show shaped (.int (s.val : Int)) = true from rfl,zm]; rfl
 unfold dw
 rw [h]; rfl
theorem E7 (c : Fin 16) (s : Fin 4) (xx : Q (.bool (!bV c s)) M) : W (dw (.int (s.val : Int)) (stV c)) M Q:=(rM (c:=c) (s:=s)).mpr xx
theorem rx {a d : ae} {c : Fin 16} {S : List (Fin 16)} (h1 : cI a M = some (.list ((cm c).map .int))) (h2 : cz d M = some (S.map stV)) (ha : ∀ x,a ≠ .int x) (hd : ∀ vs,d ≠ .tup vs) : iT a d M = some (decide (c ∈ S)):=by
 unfold iT
 split
 ·exact absurd rfl (ha x)
 ·exact absurd rfl (hd vs)
 ·rw [h1,h2]
  dsimp only
  rw [oe]
  dsimp only
  rw [iX,pt,C7]; rfl
theorem xU {c : Fin 16} {S : List (Fin 16)} : W (dw (stV c) (.lst (S.map stV))) M Q ↔ Q (.bool (!decide (c ∈ S))) M:=by
 refine bI ?_
 unfold dw
 rw [rx (c:=c) (S:=S) (by unfold cI stV; dsimp only; exact we c) rfl (fun x e=>by cases e) (fun x e=>by cases e)]; rfl
theorem GH {c : Fin 16} {S : List (Fin 16)} (xx : Q (.bool (!decide (c ∈ S))) M) : W (dw (stV c) (.lst (S.map stV))) M Q:=(xU (c:=c) (S:=S)).mpr xx
end
end Mine
end
section
open PySem PySem.W PySem.Spec PySem.Calls PySem.SeqAt PyProof.Rows
namespace Mine
noncomputable def fD (hd : Rd) : List (Int × ae):=hd.map fun q=>(q.1,c8 q.2)
noncomputable def D (B : List ah) (hd : Rd) (J : List ah) : List ah:=B ++ .idict (fD hd) :: J
theorem de (B : List ah) (hd : Rd) (J X : List ah) : D B hd J ++ X = D B hd (J ++ X):=by unfold D; rw [List.append_assoc,List.cons_append]
noncomputable def Uni (R : Rd) : Prop:=(R.map (·.1)).Nodup ∧ R.length ≤ 1000000
noncomputable def Hd (R hd : Rd) : Prop:=(∀ q ∈ hd,q ∈ R) ∧ hd.Nodup
theorem Uni.inj {R : Rd} (u : Uni R) {q q' : Int × Fin 4} (h : q ∈ R) (h' : q' ∈ R) (e : q.1 = q'.1) : q = q':=by
 have n:=u.1
 clear u
 induction R with
 | nil=>cases h
 | cons a R ih=>
  rw [List.map_cons,List.nodup_cons] at n
  rcases List.mem_cons.mp h with e1 | h
  ·rcases List.mem_cons.mp h' with e' | h'
   ·rw [e1,e']
   ·exact absurd (List.mem_map.mpr ⟨q',h',by rw [← e,e1]⟩) n.1
  ·rcases List.mem_cons.mp h' with e' | h'
   ·exact absurd (List.mem_map.mpr ⟨q,h,by rw [e,e']⟩) n.1
   ·exact ih h h' n.2
theorem Hd.len {R hd : Rd} (h : Hd R hd) (u : Uni R) : hd.length ≤ 1000000:=Nat.le_trans (h.2.length_le_of_subset h.1) u.2
noncomputable def kS (hd : Rd) (q : Int × Fin 4) : Rd:=if q ∈ hd then hd else hd ++ [q]
theorem qC {hd : Rd} {q x : Int × Fin 4} : x ∈ kS hd q ↔ x ∈ hd ∨ x = q:=by
 unfold kS
 split
 ·rename_i h
  exact ⟨.inl,fun k=>k.elim id fun e=>e ▸ h⟩
 ·rw [List.mem_append,List.mem_singleton]
theorem Hd.ins {R hd : Rd} (h : Hd R hd) {q : Int × Fin 4} (hq : q ∈ R) : Hd R (kS hd q):=by
 refine ⟨fun x hx=>(qC.mp hx).elim (h.1 x) fun e=>e ▸ hq,?_⟩
 unfold kS
 split
 ·exact h.2
 ·rename_i hn
  rw [List.nodup_append]
  exact ⟨h.2,by simp,fun x hx y hy e=>hn (by rw [List.mem_singleton] at hy; rw [← hy,← e]; exact hx)⟩
theorem yQ {R hd : Rd} (u : Uni R) (h : Hd R hd) {q : Int × Fin 4} (hq : q ∈ R) : jE (fD hd) q.1 (c8 q.2) = fD (kS hd q):=by
 unfold jE kS
 by_cases hm : q ∈ hd
 ·rw [if_pos hm,if_pos]
  ·unfold fD
   rw [List.map_map]
   refine List.map_congr_left fun x hx=>?_
   show (if x.1 = q.1 then (x.1,c8 q.2) else (x.1,c8 x.2)) = _
   split
   ·rename_i e
    rw [u.inj (h.1 x hx) hq e]
   ·rfl
  ·rw [List.any_eq_true]
   exact ⟨(q.1,c8 q.2),List.mem_map.mpr ⟨q,hm,rfl⟩,by simp⟩
 ·rw [if_neg hm,if_neg]
  ·unfold fD; rw [List.map_append]; rfl
  ·rw [List.any_eq_true]
   rintro ⟨kv,hk,e⟩
   obtain ⟨x,hx,rfl⟩:=List.mem_map.mp hk
   have e' : x.1 = q.1:=of_decide_eq_true e
   exact hm (u.inj (h.1 x hx) hq e' ▸ hx)
section
variable {B : List ah} {hd R : Rd} {J M X : List ah} {d : Nat}
theorem yY : (D B hd J)[B.length]? = some (.idict (fD hd)):=by unfold D; simp
theorem Ec (hd' : Rd) : (D B hd J).set B.length (.idict (fD hd')) = D B hd' J:=by unfold D; simp
theorem DO {Q : Unit → List ah → Prop} (u : Uni R) (h : Hd R hd) {q : Int × Fin 4} (hq : q ∈ R) : W (fI (.mref B.length) (.int q.1) (c8 q.2)) (D B hd J) Q ↔ Q () (D B (kS hd q) J):=by
 refine bI ?_
 unfold fI
 dsimp only
 rw [yY]
 dsimp only
 rw [bi (by unfold fD; rw [List.length_map]; exact h.len u),if_pos rfl,yQ u h hq,Ec]
theorem Dh {Q : Unit → List ah → Prop} (u : Uni R) (h : Hd R hd) {q : Int × Fin 4} (hq : q ∈ R) (xx : Q () (D B (kS hd q) J)) : W (fI (.mref B.length) (.int q.1) (c8 q.2)) (D B hd J) Q:=(DO (Q:=Q) (u:=u) (h:=h) (q:=q) (hq:=hq)).mpr xx
theorem gX {op : Str} {p ty ks v : ae} {Q : ae → List ah → Prop} : W (aK "op" (.inst 32 (ndF op p ty ks v))) M Q ↔ Q (.str op) M:=bI (by kernel_rfl)
theorem nz {op : Str} {p ty ks v : ae} {Q : ae → List ah → Prop} (xx : Q (.str op) M) : W (aK "op" (.inst 32 (ndF op p ty ks v))) M Q:=(gX (op:=op) (p:=p) (ty:=ty) (ks:=ks) (v:=v) (Q:=Q)).mpr xx
theorem x5 {op : Str} {p ty ks v : ae} {Q : ae → List ah → Prop} : W (aK "place" (.inst 32 (ndF op p ty ks v))) M Q ↔ Q p M:=bI (by kernel_rfl)
theorem rW {op : Str} {p ty ks v : ae} {Q : ae → List ah → Prop} (xx : Q p M) : W (aK "place" (.inst 32 (ndF op p ty ks v))) M Q:=(x5 (op:=op) (p:=p) (ty:=ty) (ks:=ks) (v:=v) (Q:=Q)).mpr xx
theorem AY {op : Str} {p ty ks v : ae} {Q : ae → List ah → Prop} : W (aK "type" (.inst 32 (ndF op p ty ks v))) M Q ↔ Q ty M:=bI (by kernel_rfl)
theorem Bp {op : Str} {p ty ks v : ae} {Q : ae → List ah → Prop} (xx : Q ty M) : W (aK "type" (.inst 32 (ndF op p ty ks v))) M Q:=(AY (op:=op) (p:=p) (ty:=ty) (ks:=ks) (v:=v) (Q:=Q)).mpr xx
theorem eg {op : Str} {p ty ks v : ae} {Q : ae → List ah → Prop} : W (aK "kids" (.inst 32 (ndF op p ty ks v))) M Q ↔ Q ks M:=bI (by kernel_rfl)
theorem ic {op : Str} {p ty ks v : ae} {Q : ae → List ah → Prop} (xx : Q ks M) : W (aK "kids" (.inst 32 (ndF op p ty ks v))) M Q:=(eg (op:=op) (p:=p) (ty:=ty) (ks:=ks) (v:=v) (Q:=Q)).mpr xx
theorem e7 {op : Str} {p ty ks v : ae} {Q : ae → List ah → Prop} : W (aK "value" (.inst 32 (ndF op p ty ks v))) M Q ↔ Q v M:=bI (by kernel_rfl)
theorem xe {op : Str} {p ty ks v : ae} {Q : ae → List ah → Prop} (xx : Q v M) : W (aK "value" (.inst 32 (ndF op p ty ks v))) M Q:=(e7 (op:=op) (p:=p) (ty:=ty) (ks:=ks) (v:=v) (Q:=Q)).mpr xx
theorem kG {s : Fin 4} {Q : ae → List ah → Prop} : W (aK "slot" (c8 s)) M Q ↔ Q (.int (s.val : Int)) M:=bI (by kernel_rfl)
theorem A7 {s : Fin 4} {Q : ae → List ah → Prop} (xx : Q (.int (s.val : Int)) M) : W (aK "slot" (c8 s)) M Q:=(kG (s:=s) (Q:=Q)).mpr xx
theorem n9 {s : Fin 4} {Q : ae → List ah → Prop} : W (aK "level" (c8 s)) M Q ↔ Q (.int 1) M:=bI (by kernel_rfl)
theorem Es {s : Fin 4} {Q : ae → List ah → Prop} (xx : Q (.int 1) M) : W (aK "level" (c8 s)) M Q:=(n9 (s:=s) (Q:=Q)).mpr xx
theorem p7 {i : Nat} {x op : Str} {p ty ks v : ae} {body rest : Loc → Mo (Fl × Loc)} {loc : Loc} {Q : Fl × Loc → List ah → Prop} (h : loc[i]? = some (some (.inst 32 (ndF op p ty ks v)))) :
  W (au (sIf (a6 (aE oEq (aS (aK "op") (af i)) (ar (.str x)))) body bD) rest loc) M Q ↔ if op = x then W (body loc) M (jf rest Q) else W (rest loc) M Q:=by
 rw [eV,kJ,dN,dJ,dM,bU h,gX,dq,hZ,gl]
 by_cases hx : op = x
 ·simp only [hx,decide_true,if_true]
 ·simp only [hx,decide_false,Bool.false_eq_true,if_false]
  rw [hU]; rfl
theorem bg {i : Nat} {x op : Str} {p ty ks v : ae} {body rest : Loc → Mo (Fl × Loc)} {loc : Loc} {Q : Fl × Loc → List ah → Prop} (h : loc[i]? = some (some (.inst 32 (ndF op p ty ks v)))) (xx : if op = x then W (body loc) M (jf rest Q) else W (rest loc) M Q) : W (au (sIf (a6 (aE oEq (aS (aK "op") (af i)) (ar (.str x)))) body bD) rest loc) M Q:=(p7 (i:=i) (x:=x) (op:=op) (p:=p) (ty:=ty) (ks:=ks) (v:=v) (body:=body) (rest:=rest) (loc:=loc) (Q:=Q) (h:=h)).mpr xx
theorem xA : ∀ op ∈ g7,¬ op = "var" := by decide
theorem nw (u : Uni R) {p : Int} {s : Fin 4} (hq : (p,s) ∈ R) (L : ae) {Q : Fl × Loc → List ah → Prop} : ∀ (S : List (Fin 16)) (hd : Rd) (z : Option ae),Hd R hd →
  (∀ hd' z',Hd R hd' → (∀ q,q ∈ hd' ↔ q ∈ hd ∨ q = (p,s) ∧ bV (br S) s = false) → Q (.next,[some (vaV p s),some L,some (.mref B.length),none,z']) (D B hd' J)) →
  W (dU 4 (sIf (a6 (aE dw (aS (aK "slot") (aS (aK "value") (af 0))) (af 4))) (gC fI (af 2) (aS (aK "place") (af 0)) (aS (aK "value") (af 0))) bD) (S.map stV) [some (vaV p s),some L,some (.mref B.length),none,z]) (D B hd J) Q
 | [],hd,z,h,k=>by
  rw [List.map_nil]
  refine bN ?_
  exact k hd z h fun q=>⟨.inl,fun e=>e.elim id fun e=>by rw [gM,fT] at e; cases e.2⟩
 | c :: S,hd,z,h,k=>by
  rw [List.map_cons]
  refine aY (cH (bM (aT (ba (ba (ao (v:=vaV p s) rfl ?_))))))
  unfold vaV ndV
  rw [e7,kG,bU (v:=stV c) rfl,rM,gl]
  cases hc : bV c s with
  | true=>
   rw [Bool.not_true]
   refine ifn (by decide) (cA ?_)
   refine nw u hq L S hd (some (stV c)) h fun hd' z' h' m=>k hd' z' h' fun q=>?_
   rw [m q,fZ,cS,hc,Bool.true_and]
  | false=>
   rw [Bool.not_false]
   refine ifp rfl (mF (ba (ao (v:=vaV p s) rfl ?_)))
   unfold vaV ndV
   refine xe (ao (v:=.mref B.length) rfl (ba (ao (v:=vaV p s) rfl ?_)))
   unfold vaV ndV
   refine rW (Dh (q:=(p,s)) u h hq ?_)
   refine nw u hq L S (kS hd (p,s)) (some (stV c)) (h.ins hq) fun hd' z' h' m=>k hd' z' h' fun q=>?_
   rw [m q,qC,fZ,cS,hc,Bool.false_and]
   constructor
   ·rintro ((a | a) | a)
    ·exact .inl a
    ·exact .inr ⟨a,rfl⟩
    ·exact .inr ⟨a.1,rfl⟩
   ·rintro (a | a)
    ·exact .inl (.inl a)
    ·exact .inl (.inr a.1)
theorem kz {Y : Fin 16} {r : Rd} {q : Int × Fin 4} : q ∈ dT Y r ↔ q ∈ r ∧ bV Y q.2 = false:=by
 unfold dT
 rw [List.mem_filter,Bool.not_eq_true']
theorem dX {v : ae} {r : Rd} {m : Nat} (i : IsV v r m) : ∀ {e : Nat} {hd : Rd} {S : List (Fin 16)} {Q : ae → List ah → Prop},m + 1 ≤ e → Uni R → (∀ q ∈ r,q ∈ R) → Hd R hd →
  (∀ hd',Hd R hd' → (∀ q,q ∈ hd' ↔ q ∈ hd ∨ q ∈ dT (br S) r) → Q .none (D B hd' J)) → W (sem e .f_law_uses [v,.lst (S.map stV),.mref B.length]) (D B hd J) Q:=by
 induction i with
 | var p s m=>
  intro e hd S Q he u hr h k
  obtain ⟨d,rfl⟩ : ∃ d,e = d + 1:=⟨e - 1,(F6 he)⟩
  rw [jz]
  refine bK (loc0:=[some (vaV p s),some (.lst (S.map stV)),some (.mref B.length),none,none]) (by simp) rfl ?_
  unfold eA
  refine bg (i:=0) (op := "var") rfl (ifp rfl (aB (ci (ao (v:=.lst (S.map stV)) rfl ?_))))
  refine ⟨_,rfl,nw u (hr _ List.mem_cons_self) _ S hd none h fun hd' z' h' mm=>?_⟩
  refine aj (Bi (aX (aF ?_)))
  refine k hd' h' fun q=>?_
  rw [mm q,kz,List.mem_singleton]
  constructor
  ·rintro (a | ⟨a,b⟩)
   ·exact .inl a
   ·subst a; exact .inr ⟨rfl,b⟩
  ·rintro (a | ⟨a,b⟩)
   ·exact .inl a
   ·subst a; exact .inr ⟨rfl,b⟩
 | cst p m=>
  intro e hd S Q he u hr h k
  obtain ⟨d,rfl⟩ : ∃ d,e = d + 1:=⟨e - 1,(F6 he)⟩
  rw [jz]
  refine bK (loc0:=[some (ndV "const" p dE [] (.int 1)),some (.lst (S.map stV)),some (.mref B.length),none,none]) (by simp) rfl ?_
  unfold eA
  refine bg (i:=0) (op := "const") rfl (ifn (by decide) (ci (ba (ao (v:=ndV "const" p dE [] (.int 1)) rfl ?_))))
  unfold ndV
  refine ic ?_
  refine ⟨_,rfl,?_⟩
  refine bN (eC ?_)
  exact k hd h fun q=>⟨.inl,fun a=>a.elim id fun a=>by cases a⟩
 | @bin op p ty l r a b m ho h1 h2 i1 i2=>
  intro e hd S Q he u hr h k
  obtain ⟨d,rfl⟩ : ∃ d,e = d + 1:=⟨e - 1,(Ig he)⟩
  rw [jz]
  refine bK (loc0:=[some (ndV op p ty [l,r] .none),some (.lst (S.map stV)),some (.mref B.length),none,none]) (by simp) rfl ?_
  unfold eA
  refine bg (i:=0) (op:=op) rfl (ifn (xA op ho) (ci (ba (ao (v:=ndV op p ty [l,r] .none) rfl ?_))))
  unfold ndV
  refine ic ?_
  refine ⟨_,rfl,?_⟩
  refine aY (bu (aA (wr rfl ?_)))
  refine i1 (EK he) u (fun q hq=>hr q (List.mem_append_left _ hq)) h fun hd1 k1 m1=>?_
  dsimp only
  refine aY (bu (aA (wr rfl ?_)))
  refine i2 (EK he) u (fun q hq=>hr q (List.mem_append_right _ hq)) k1 fun hd2 k2 m2=>?_
  dsimp only
  refine bN (eC ?_)
  refine k hd2 k2 fun q=>?_
  rw [m2 q,m1 q,nR,List.mem_append,or_assoc]
end
section
variable {M X : List ah}
theorem eE {x : ah} : (M ++ x :: X)[M.length]? = some x:=by simp
theorem ji {x y : ah} : (M ++ x :: X).set M.length y = M ++ y :: X:=by simp
theorem pr {vs : List ae} {v : ae} {Q : ae → List ah → Prop} (hs : bW vs.length = true) : W (be [.mref M.length,v]) (M ++ .lst vs :: X) Q ↔ Q .none (M ++ .lst (vs ++ [v]) :: X):=by
 refine bI ?_
 unfold be
 dsimp only
 rw [eE]
 dsimp only
 rw [hs,if_pos rfl,ji]
theorem kQ {vs : List ae} {v : ae} {Q : ae → List ah → Prop} (hs : bW vs.length = true) (xx : Q .none (M ++ .lst (vs ++ [v]) :: X)) : W (be [.mref M.length,v]) (M ++ .lst vs :: X) Q:=(pr (vs:=vs) (v:=v) (Q:=Q) (hs:=hs)).mpr xx
theorem Cf {i : Nat} {loc : Loc} {vs : List ae} {Q : ae → List ah → Prop} (h : loc[i]? = some (some (.mref M.length))) : W (aD (af i) loc) (M ++ .lst vs :: X) Q ↔ Q (.lst vs) (M ++ .gone :: X):=by
 rw [kI,bU h]
 constructor
 ·rintro ⟨j,mo,v,e1,e2,e3,q⟩
  cases e1
  rw [eE] at e2; cases e2; cases e3
  rw [ji] at q; exact q
 ·intro q
  refine ⟨_,_,_,rfl,eE,rfl,?_⟩
  rw [ji]; exact q
theorem CT {i : Nat} {loc : Loc} {vs : List ae} {Q : ae → List ah → Prop} (h : loc[i]? = some (some (.mref M.length))) (xx : Q (.lst vs) (M ++ .gone :: X)) : W (aD (af i) loc) (M ++ .lst vs :: X) Q:=(Cf (i:=i) (loc:=loc) (vs:=vs) (Q:=Q) (h:=h)).mpr xx
theorem kY (A : List (Fin 16)) {Q : List ae → List ah → Prop} : ∀ (B : List (Fin 16)) (acc : List ae), 
  W (eD (a6 (aE dw (af 0) (af 1))) (af 0) [some (.lst (A.map stV))] (B.map stV) acc) M Q ↔ Q (acc ++ (B.filter fun c=>!decide (c ∈ A)).map stV) M
 | [],acc=>by rw [List.map_nil,lr]; simp
 | c :: B,acc=>by
  rw [List.map_cons,jD,dN,dJ,bU (v:=stV c) rfl,bU (v:=.lst (A.map stV)) rfl,xU,gl,List.filter_cons]
  cases hc : decide (c ∈ A) with
  | true=>
   rw [Bool.not_true,if_neg (by decide),if_neg (by decide),kY A B acc]
  | false=>
   rw [Bool.not_false,if_pos rfl,if_pos rfl,bU (v:=stV c) rfl,kY A B (acc ++ [stV c])]
   simp
theorem fg {e : Nat} {A B : List (Fin 16)} {Q : ae → List ah → Prop} (he : 1 ≤ e) (ha : A.Nodup) (hb : B.Nodup) (k : ∀ X,Q (.lst ((fb A B).map stV)) (M ++ X)) : W (sem e .f_law_joined [.lst (A.map stV),.lst (B.map stV)]) M Q:=by
 obtain ⟨d,rfl⟩ : ∃ d,e = d + 1:=⟨e - 1,(oK he)⟩
 have la:=du ha
 have lb:=du hb
 have lf:=List.length_filter_le (fun c=>!decide (c ∈ A)) B
 rw [qZ]
 refine bK (loc0:=[some (.lst (A.map stV)),some (.lst (B.map stV))]) (by simp) rfl ?_
 unfold eU
 refine a8 (xI (aT (ao (v:=.lst (A.map stV)) rfl (qL (ao (v:=.lst (B.map stV)) rfl ?_)))))
 refine ⟨_,rfl,bi (by rw [List.length_map]; exact zr lb),?_⟩
 rw [show ([(0,("one" : Str))].map fun q=>(([some (.lst (A.map stV)),some (.lst (B.map stV))] : Loc)[q.1]?).join) = [some (.lst (A.map stV))] from rfl,kY,List.nil_append]
 refine vz (vs:=A.map stV) (us:=(B.filter fun c=>!decide (c ∈ A)).map stV) rfl (by unfold cz; dsimp only; rw [bH]) (bi (by rw [List.length_map,List.length_map]; exact Jl la lb lf)) (aF ?_)
 rw [List.append_assoc,← List.map_append]
 exact k _
theorem iF (s : Int) {Q : List ae → List ah → Prop} : ∀ (xs : List Int) (acc : List ae), 
  W (eD (a6 (aE oNe (af 0) (af 1))) (af 0) [some (.int s)] (xs.map .int) acc) M Q ↔ Q (acc ++ (xs.filter fun x=>!decide (x = s)).map .int) M
 | [],acc=>by rw [List.map_nil,lr]; simp
 | x :: xs,acc=>by
  rw [List.map_cons,jD,dN,dJ,bU (v:=.int x) rfl,bU (v:=.int s) rfl,vX,gl,List.filter_cons]
  cases hc : decide (x = s) with
  | true=>rw [Bool.not_true,if_neg (by decide),if_neg (by decide),iF s xs acc]
  | false=>
   rw [Bool.not_false,if_pos rfl,if_pos rfl,bU (v:=.int x) rfl,iF s xs (acc ++ [ae.int x])]
   simp
theorem nU : ∀ ns : List Int,jA (ns.map .int) = some ns
 | []=>rfl
 | n :: r=>by
  rw [List.map_cons]
  unfold jA
  rw [nU r]; rfl
theorem xg : ∀ c : Fin 16,(cm c).length ≤ 4:=by decide
theorem CX {a c : ae} {vs us : List ae} {Q : ae → List ah → Prop} (h1 : cz a M = some vs) (h2 : cz c M = some us) (hs : bW (vs.length + us.length) = true) : W (gZ a c) M Q ↔ Q (.mref M.length) (M ++ [.lst (vs ++ us)]):=by
 refine bI ?_
 unfold gZ
 rw [h1,h2]
 dsimp only
 rw [if_pos hs]; rfl
theorem CY {a c : ae} {vs us : List ae} {Q : ae → List ah → Prop} (h1 : cz a M = some vs) (h2 : cz c M = some us) (hs : bW (vs.length + us.length) = true) (xx : Q (.mref M.length) (M ++ [.lst (vs ++ us)])) : W (gZ a c) M Q:=(CX (a:=a) (c:=c) (vs:=vs) (us:=us) (Q:=Q) (h1:=h1) (h2:=h2) (hs:=hs)).mpr xx
noncomputable def stO (c : Fin 16) : ah:=.lst ((cm c).map .int)
theorem jB (s : Fin 4) (L : ae) {Q : Fl × Loc → List ah → Prop} : ∀ (S fs : List (Fin 16)) (X : List ah) (z y : Option ae),fs.length + S.length ≤ 1000 →
  (∀ X z y,Q (.next,[some L,some (.int (s.val : Int)),some (.mref M.length),z,y]) (M ++ .lst ((eS s fs S).map stV) :: X)) →
  W (dU 3 (au (a7 4 (aq dQ (ab (aE gZ (iO [(1, "spot")] (af 3) (a6 (aE oNe (af 0) (af 1))) (af 0)) (bB (ab (af 1) am))) am))) (sIf (a6 (aE dw (af 4) (af 2))) (bx (bF be (af 2) (ab (aD (af 4)) am))) bD)) (S.map stV) [some L,some (.int (s.val : Int)),some (.mref M.length),z,y]) (M ++ .lst (fs.map stV) :: X) Q
 | [],fs,X,z,y,hl,k=>by rw [List.map_nil,f9]; exact k X z y
 | c :: S,fs,X,z,y,hl,k=>by
  rw [List.length_cons] at hl
  have lb:=xg c
  rw [List.map_cons]
  refine aY (aB (aP (aA (ag (aT (qL (ao (v:=stV c) rfl ?_)))))))
  refine ⟨_,rfl,bi (by rw [List.length_map]; exact FX lb),?_⟩
  rw [show ([(1,("spot" : Str))].map fun q=>((([some L,some (.int (s.val : Int)),some (.mref M.length),z,y] : Loc).set 3 (some (stV c)))[q.1]?).join) = [some (.int (s.val : Int))] from rfl,iF,List.nil_append]
  refine cU (wr rfl ?_)
  refine ⟨rfl,?_⟩
  have lf:=List.length_filter_le (fun x=>!decide (x = (s.val : Int))) (cm c)
  refine CY (vs:=((cm c).filter fun x=>!decide (x = (s.val : Int))).map .int) (us:=[.int (s.val : Int)]) (by unfold cz; dsimp only; rw [List.append_assoc,List.singleton_append,eE]) (by unfold cz; dsimp only; rw [bH]) (bi (by rw [List.length_map,List.length_singleton]; exact EM lb lf)) (av ?_)
  have e1 : ∀ P : List ah,dQ [.mref P.length] (P ++ [ah.lst (((cm c).filter fun x=>!decide (x = (s.val : Int))).map .int ++ [.int (s.val : Int)])]) = some (.mref (P ++ [ah.lst (((cm c).filter fun x=>!decide (x = (s.val : Int))).map .int ++ [.int (s.val : Int)])]).length,P ++ [ah.lst (((cm c).filter fun x=>!decide (x = (s.val : Int))).map .int ++ [.int (s.val : Int)])] ++ [stO (dH c s)]):=by
   intro P
   unfold dQ ni
   dsimp only
   rw [bH]
   dsimp only
   rw [show (((cm c).filter fun x=>!decide (x = (s.val : Int))).map ae.int ++ [ae.int (s.val : Int)]) = ((cm c).filter (fun x=>!decide (x = (s.val : Int))) ++ [(s.val : Int)]).map .int by rw [List.map_append]; rfl,nU]
   dsimp only
   rw [bi (by rw [List.length_append,List.length_singleton]; exact EM lb lf),if_pos rfl,rf]
   rfl
  refine gj (e1 _) ?_
  obtain ⟨P,X3,hP,hX⟩ : ∃ P X3,(M ++ ah.lst (fs.map stV) :: X ++ [ah.lst (((cm c).filter fun x=>!decide (x = (s.val : Int))).map .int)] ++ [ah.lst [ae.int (s.val : Int)]] ++ [ah.lst (((cm c).filter fun x=>!decide (x = (s.val : Int))).map .int ++ [.int (s.val : Int)])]) = P ∧ P = M ++ ah.lst (fs.map stV) :: X3:=⟨_,_,rfl,by rw [List.append_assoc M,List.append_assoc M,List.append_assoc M,List.cons_append,List.cons_append,List.cons_append]⟩
  rw [hP]
  refine aj (cH (bM (aT (ao (v:=.mref P.length) rfl (ao (v:=.mref M.length) rfl ?_)))))
  have e2 : iT (.mref P.length) (.mref M.length) (P ++ [stO (dH c s)]) = some (decide (dH c s ∈ fs)):=rx (by unfold cI; dsimp only; rw [bH]; unfold stO; dsimp only; rw [ga]; rfl) (by unfold cz; dsimp only; rw [hX,List.append_assoc,List.cons_append,eE]) (fun x e=>by cases e) (fun x e=>by cases e)
  refine gj (a:=.bool (!decide (dH c s ∈ fs))) (by unfold dw; rw [e2]; rfl) (b7 ?_)
  by_cases hc : dH c s ∈ fs
  ·rw [decide_eq_true hc,Bool.not_true]
   refine ifn (by decide) (cA ?_)
   rw [hX,List.append_assoc,List.cons_append]
   refine jB s L S fs _ _ _ (HS hl) fun X' z' y'=>?_
   have:=k X' z' y'
   rw [eS,if_pos hc] at this
   exact this
  ·rw [decide_eq_false hc,Bool.not_false]
   refine ifp rfl (bu (cr (ao (v:=.mref M.length) rfl ?_)))
   refine ⟨_,_,rfl,by rw [hX,List.append_assoc,List.cons_append]; exact eE,?_⟩
   refine ag (lQ (ao (v:=.mref P.length) rfl ?_))
   refine ⟨_,_,_,rfl,bH,rfl,?_⟩
   rw [cB]
   refine av ?_
   rw [hX,List.append_assoc,List.cons_append]
   refine kQ (bi (by rw [List.length_map]; exact Ey hl)) ?_
   rw [show fs.map stV ++ [ae.lst ((cm (dH c s)).map .int)] = (fs ++ [dH c s]).map stV by rw [List.map_append]; rfl]
   refine jB s L S _ _ _ _ (by rw [List.length_append,List.length_singleton]; exact FP hl) fun X' z' y'=>?_
   have:=k X' z' y'
   rw [eS,if_neg hc] at this
   exact this
theorem hH {e : Nat} {S : List (Fin 16)} {s : Fin 4} {Q : ae → List ah → Prop} (he : 1 ≤ e) (hs : S.Nodup) (k : ∀ X,Q (.lst ((eS s [] S).map stV)) (M ++ X)) : W (sem e .f_law_stored [.lst (S.map stV),.int (s.val : Int)]) M Q:=by
 obtain ⟨d,rfl⟩ : ∃ d,e = d + 1:=⟨e - 1,(oK he)⟩
 have la:=du hs
 rw [q0]
 refine bK (loc0:=[some (.lst (S.map stV)),some (.int (s.val : Int)),none,none,none]) (by simp) rfl ?_
 unfold eT
 refine aB (aP (cU (av ?_)))
 refine ⟨rfl,?_⟩
 refine aj (aB (ci (ao (v:=.lst (S.map stV)) rfl ?_)))
 refine ⟨_,rfl,?_⟩
 refine jB s _ S [] [] _ _ (by simp; exact Ki la) fun X z y=>?_
 refine aj (a8 (CT rfl (aF ?_)))
 exact k _
end
end Mine
end
section
open PySem PySem.W PySem.Spec PySem.Calls PySem.SeqAt PyProof.Rows
namespace Mine
structure jq (F : Den) (r : Rd) : Prop where
 ext : ∀ X,leS X (F X).1
 mono : ∀ X Y,leS X Y → leS (F X).1 (F Y).1
 anti : ∀ X Y,leS X Y → ∀ q,q ∈ (F Y).2 → q ∈ (F X).2
 sub : ∀ X q,q ∈ (F X).2 → q ∈ r
theorem leS.rfl' {X : Fin 16} : leS X X:=fun _ h=>h
theorem leS.trans {X Y Z : Fin 16} (h : leS X Y) (g : leS Y Z) : leS X Z:=fun s k=>g s (h s k)
theorem qI (X : Fin 16) (s : Fin 4) : leS X (dH X s):=fun t h=>by rw [kj,h]; rfl
theorem g4 {X Y : Fin 16} (s : Fin 4) (h : leS X Y) : leS (dH X s) (dH Y s):=fun t k=>by
 rw [kj,Bool.or_eq_true] at *
 exact k.imp (h t) id
theorem eI {X Y : Fin 16} (h : leS X Y) {r : Rd} {q : Int × Fin 4} (k : q ∈ dT Y r) : q ∈ dT X r:=by
 rw [kz] at *
 refine ⟨k.1,?_⟩
 cases e : bV X q.2 with
 | false=>rfl
 | true=>rw [h _ e] at k; cases k.2
theorem fu {X : Fin 16} {r : Rd} {q : Int × Fin 4} (k : q ∈ dT X r) : q ∈ r:=(kz.mp k).1
theorem jw (Z : Fin 16) (Ys : List (Fin 16)) (t : Fin 4) : bV (dz Z Ys) t = (bV Z t && Ys.all (bV · t)):=by rw [fW,cS,g3]
theorem lg {X Z : Fin 16} {Ys : List (Fin 16)} (h : leS X Z) (g : ∀ Y ∈ Ys,leS X Y) : leS X (dz Z Ys):=fun t k=>by
 rw [jw,Bool.and_eq_true,List.all_eq_true]
 exact ⟨h t k,fun Y hY=>g Y hY t k⟩
theorem iH {α : Type} {Z Z' : Fin 16} {l : List α} {f g : α → Fin 16} (h : leS Z Z') (k : ∀ a ∈ l,leS (f a) (g a)) : leS (dz Z (l.map f)) (dz Z' (l.map g)):=fun t e=>by
 rw [jw,Bool.and_eq_true,List.all_eq_true] at *
 refine ⟨h t e.1,fun Y hY=>?_⟩
 obtain ⟨a,ha,rfl⟩:=List.mem_map.mp hY
 exact k a ha t (e.2 _ (List.mem_map.mpr ⟨a,ha,rfl⟩))
theorem jq.up {F : Den} {r r' : Rd} (g : jq F r) (h : ∀ q ∈ r,q ∈ r') : jq F r':=⟨g.ext,g.mono,g.anti,fun X q k=>h q (g.sub X q k)⟩
noncomputable def tl (h : Nat) : Prop:=∀ v F r,IsB v F r h → jq F r
noncomputable def yL (h : Nat) : Prop:=∀ v F r,IsS v F r h → jq F r
theorem i7 {h : Nat} (g : tl h) : ∀ {kids : List ae} {Fs : List (Rd × Den)} {r : Rd},cE kids Fs r h → ∀ p ∈ Fs,jq p.2 r ∧ ∀ q ∈ p.1,q ∈ r:=by
 intro as0 F0 r0 i0
 refine cE.ind ?_ ?_ i0
 ·exact fun p hp=>by cases hp
 ·intro _ _ _ _ _ _ _ _ i j k ih p hp
  rcases List.mem_cons.mp hp with rfl | hp
  ·exact ⟨(g _ _ _ j).up fun q hq=>List.mem_append_right _ (List.mem_append_left _ hq),fun q hq=>List.mem_append_left _ hq⟩
  ·obtain ⟨a,b⟩:=ih p hp
   exact ⟨a.up fun q hq=>List.mem_append_right _ (List.mem_append_right _ hq),fun q hq=>List.mem_append_right _ (List.mem_append_right _ (b q hq))⟩
theorem wJ {h : Nat} (g : tl h) : ∀ {bs : List ae} {Fs : List Den} {r : Rd},dL bs Fs r h → ∀ F ∈ Fs,jq F r:=by
 intro as0 F0 r0 i0
 refine dL.ind ?_ ?_ i0
 ·exact fun p hp=>by cases hp
 ·intro _ _ _ _ _ _ j k ih p hp
  rcases List.mem_cons.mp hp with rfl | hp
  ·exact (g _ _ _ j).up fun q hq=>List.mem_append_left _ hq
  ·exact (ih p hp).up fun q hq=>List.mem_append_right _ hq
theorem li {Fs : List (Rd × Den)} {r : Rd} (g : ∀ p ∈ Fs,jq p.2 r ∧ ∀ q ∈ p.1,q ∈ r) {X Y : Fin 16} (h : leS X Y) {q : Int × Fin 4} (k : q ∈ Fs.flatMap (ix Y)) : q ∈ Fs.flatMap (ix X):=by
 rw [List.mem_flatMap] at *
 obtain ⟨p,hp,k⟩:=k
 refine ⟨p,hp,?_⟩
 unfold ix at *
 rw [List.mem_append] at *
 exact k.imp (eI h) ((g p hp).1.anti _ _ h _)
theorem m9 {Fs : List (Rd × Den)} {r : Rd} (g : ∀ p ∈ Fs,jq p.2 r ∧ ∀ q ∈ p.1,q ∈ r) {X : Fin 16} {q : Int × Fin 4} (k : q ∈ Fs.flatMap (ix X)) : q ∈ r:=by
 rw [List.mem_flatMap] at k
 obtain ⟨p,hp,k⟩:=k
 unfold ix at k
 rw [List.mem_append] at k
 exact k.elim (fun k=>(g p hp).2 q (fu k)) fun k=>(g p hp).1.sub _ _ k
theorem sQ {h : Nat} (gb : ∀ g,h = g + 1 → tl g) : yL h:=by
 intro v F r i
 cases i with
 | asg iv=>exact ⟨fun X=>qI X _,fun X Y l=>g4 _ l,fun X Y l q k=>eI l k,fun X q k=>List.mem_cons_of_mem _ (fu k)⟩
 | inc iv=>
  refine ⟨fun X=>qI X _,fun X Y l=>g4 _ l,fun X Y l q k=>?_,fun X q k=>?_⟩
  ·dsimp only at *
   rw [List.mem_append] at *
   exact k.imp (eI l) (eI l)
  ·dsimp only at k
   rw [List.mem_append] at k
   rcases k with k | k
   ·exact List.mem_cons_of_mem _ (fu k)
   ·rw [List.mem_singleton.mp (fu k)]; exact List.mem_cons_self
 | cal iv=>exact ⟨fun X=>qI X _,fun X Y l=>g4 _ l,fun X Y l q k=>eI l k,fun X q k=>List.mem_cons_of_mem _ (fu k)⟩
 | if0 ia hl=>
  have g:=i7 (gb _ rfl) ia
  refine ⟨fun X=>lg leS.rfl' fun Y hY=>?_,fun X Y l=>iH l fun p hp=>(g p hp).1.mono _ _ l,fun X Y l q k=>li g l k,fun X q k=>m9 g k⟩
  obtain ⟨p,hp,rfl⟩:=List.mem_map.mp hY
  exact (g p hp).1.ext X
 | if1 ia hl ib=>
  have g:=i7 (gb _ rfl) ia
  have b:=gb _ rfl _ _ _ ib
  refine ⟨fun X=>lg (b.ext X) fun Y hY=>?_,fun X Y l=>iH (b.mono _ _ l) fun p hp=>(g p hp).1.mono _ _ l,fun X Y l q k=>?_,fun X q k=>?_⟩
  ·obtain ⟨p,hp,rfl⟩:=List.mem_map.mp hY
   exact (g p hp).1.ext X
  ·dsimp only at *
   rw [List.mem_append] at *
   exact k.imp (li g l) (b.anti _ _ l _)
  ·dsimp only at k
   rw [List.mem_append] at *
   exact k.imp (m9 g) (b.sub _ _)
 | whl ia hl=>
  have g:=i7 (gb _ rfl) ia
  exact ⟨fun X=>leS.rfl',fun X Y l=>l,fun X Y l q k=>li g l k,fun X q k=>m9 g k⟩
 | rep ib iv=>
  have b:=gb _ rfl _ _ _ ib
  refine ⟨b.ext,b.mono,fun X Y l q k=>?_,fun X q k=>?_⟩
  ·dsimp only at *
   rw [List.mem_append] at *
   exact k.imp (b.anti _ _ l _) (eI (b.mono _ _ l))
  ·dsimp only at k
   rw [List.mem_append] at *
   exact k.imp (b.sub _ _) fu
 | for_ i1 i2 ib=>
  have b:=gb _ rfl _ _ _ ib
  refine ⟨fun X=>qI X _,fun X Y l=>g4 _ l,fun X Y l q k=>?_,fun X q k=>?_⟩
  ·dsimp only at *
   rw [List.mem_append,List.mem_append] at *
   exact k.imp (eI l) fun k=>k.imp (eI (g4 _ l)) (b.anti _ _ (g4 _ l) _)
  ·dsimp only at k
   rw [List.mem_append,List.mem_append] at k
   refine List.mem_cons_of_mem _ ?_
   rw [List.mem_append,List.mem_append]
   exact k.imp fu fun k=>k.imp fu (b.sub _ _)
 | cas iv ib hl hne=>
  have g:=wJ (gb _ rfl) ib
  refine ⟨fun X=>lg (fun t _=>fT t) fun Y hY=>?_,fun X Y l=>iH leS.rfl' fun p hp=>(g p hp).mono _ _ l,fun X Y l q k=>?_,fun X q k=>?_⟩
  ·obtain ⟨p,hp,rfl⟩:=List.mem_map.mp hY
   exact (g p hp).ext X
  ·dsimp only at *
   rw [List.mem_append,List.mem_flatMap] at *
   refine k.imp (eI l) ?_
   rintro ⟨p,hp,k⟩
   exact ⟨p,hp,(g p hp).anti _ _ l _ k⟩
  ·dsimp only at k
   rw [List.mem_append,List.mem_flatMap] at k
   rw [List.mem_append]
   refine k.imp fu ?_
   rintro ⟨p,hp,k⟩
   exact (g p hp).sub _ _ k
theorem zQ {h : Nat} (g : yL h) : ∀ {as : List ae} {F : Den} {r : Rd},IsL as F r h → jq F r:=by
 intro as0 F0 r0 i0
 refine IsL.ind ?_ ?_ i0
 ·exact ⟨fun X=>leS.rfl',fun X Y l=>l,fun X Y l q k=>(by cases k),fun X q k=>(by cases k)⟩
 ·intro _ _ _ _ _ _ i j ih
  have a:=g _ _ _ i
  have b:=ih
  refine ⟨fun X=>leS.trans (a.ext X) (b.ext _),fun X Y l=>b.mono _ _ (a.mono _ _ l),fun X Y l q k=>?_,fun X q k=>?_⟩
  ·unfold wv at *
   dsimp only at *
   rw [List.mem_append] at *
   exact k.imp (a.anti _ _ l _) (b.anti _ _ (a.mono _ _ l) _)
  ·unfold wv at k
   dsimp only at k
   rw [List.mem_append] at *
   exact k.imp (a.sub _ _) (b.sub _ _)
theorem tN {h : Nat} (g : yL h) : tl h:=by
 intro v F r i
 cases i with
 | mk j=>exact zQ g j
theorem vA : ∀ h : Nat,tl h
 | 0=>tN (sQ fun g e=>nomatch e)
 | h + 1=>tN (sQ fun g e=>by obtain rfl : g = h:=Bl e; exact vA g)
end Mine
end
section
open PySem PySem.W PySem.Spec PySem.Calls PySem.SeqAt PyProof.Rows
namespace Mine
theorem vy {M : List ah} {ks : List ae} {i : Nat} {v : ae} {Q : ae → List ah → Prop} (h : ks[i]? = some v) (hi : i ≤ 1000000) : W (aV (.lst ks) (.int (i : Int))) M Q ↔ Q v M:=by
 refine bI ?_
 unfold aV pv
 dsimp only
 rw [show (decide ((-1000000 : Int) ≤ (i : Int)) && decide ((i : Int) ≤ 1000000)) = true by rw [Bool.and_eq_true,decide_eq_true_eq,decide_eq_true_eq]; exact GD hi,if_pos rfl,if_pos (HF hi),Option.bind_some,Int.toNat_natCast,h]
theorem fq {M : List ah} {ks : List ae} {i : Nat} {v : ae} {Q : ae → List ah → Prop} (h : ks[i]? = some v) (hi : i ≤ 1000000) (xx : Q v M) : W (aV (.lst ks) (.int (i : Int))) M Q:=(vy (M:=M) (ks:=ks) (i:=i) (v:=v) (Q:=Q) (h:=h) (hi:=hi)).mpr xx
theorem t9 {M : List ah} {ks : List ae} {v : ae} {Q : ae → List ah → Prop} : W (aV (.lst (ks ++ [v])) (.int (-1))) M Q ↔ Q v M:=by
 refine bI ?_
 unfold aV pv
 dsimp only
 rw [show (decide ((-1000000 : Int) ≤ (-1 : Int)) && decide ((-1 : Int) ≤ 1000000)) = true from rfl,if_pos rfl,List.length_append,List.length_singleton,if_neg (fun a=>Jz a),if_pos (JO),Option.bind_some,show ((-1 : Int) + ((ks.length + 1 : Nat) : Int)).toNat = ks.length by omega]
 simp
theorem ng {M : List ah} {ks : List ae} {v : ae} {Q : ae → List ah → Prop} (xx : Q v M) : W (aV (.lst (ks ++ [v])) (.int (-1))) M Q:=(t9 (M:=M) (ks:=ks) (v:=v) (Q:=Q)).mpr xx
theorem Cx {M : List ah} {ks : List ae} {Q : ae → List ah → Prop} (h : ks.length ≤ 1000000) : W (fi [.lst ks]) M Q ↔ Q (.int ks.length) M:=by
 refine bI ?_
 unfold fi cz
 dsimp only
 rw [bi h,if_pos rfl]
theorem gi {M : List ah} {ks : List ae} {Q : ae → List ah → Prop} (h : ks.length ≤ 1000000) (xx : Q (.int ks.length) M) : W (fi [.lst ks]) M Q:=(Cx (M:=M) (ks:=ks) (Q:=Q) (h:=h)).mpr xx
theorem vY {M : List ah} {S : List (Fin 16)} {Q : ae → List ah → Prop} (hS : S ≠ []) : W (oEq (.lst (S.map stV)) (.mref M.length)) (M ++ [.lst []]) Q ↔ Q (.bool false) (M ++ [.lst []]):=by
 refine bI ?_
 have h1 : cI (.lst (S.map stV)) (M ++ [.lst []]) = some (.list (S.map fun c=>.list ((cm c).map .int))):=by
  unfold cI hG
  dsimp only
  rw [oe]; rfl
 have h2 : cI (.mref M.length) (M ++ [.lst []]) = some (.list []):=by
  unfold cI
  dsimp only
  rw [bH]; rfl
 obtain ⟨a,S',rfl⟩:=List.exists_cons_of_ne_nil hS
 unfold oEq
 dsimp only
 rw [h1,h2]
 dsimp only
 rw [pt]; rfl
theorem Gf {M : List ah} {S : List (Fin 16)} {Q : ae → List ah → Prop} (hS : S ≠ []) (xx : Q (.bool false) (M ++ [.lst []])) : W (oEq (.lst (S.map stV)) (.mref M.length)) (M ++ [.lst []]) Q:=(vY (M:=M) (S:=S) (Q:=Q) (hS:=hS)).mpr xx
theorem cZ {M : List ah} {op : Str} {p ty val b : ae} {ks : List ae} {S : List (Fin 16)} {rest : Loc → Mo (Fl × Loc)} {Q : Fl × Loc → List ah → Prop} (hS : S ≠ []) :
  W (au (sIf (a6 (aE oEq (af 1) (bB am))) (bL (aD (bB am))) bD) (au (a7 3 (aS (aK "kids") (af 0))) rest) [some (.inst 32 (ndF op p ty (.lst ks) val)),some (.lst (S.map stV)),some b,none,none,none,none,none]) M Q ↔
  W (rest [some (.inst 32 (ndF op p ty (.lst ks) val)),some (.lst (S.map stV)),some b,some (.lst ks),none,none,none,none]) (M ++ [.lst []]) Q:=by
 rw [eV,kJ,dN,dJ,bU (v:=.lst (S.map stV)) rfl,mG,fO]
 rw [vY hS,gl,if_neg (by decide),hU,dP,eV,u3,dM,bU (v:=.inst 32 (ndF op p ty (.lst ks) val)) rfl,eg,dP]
 exact ⟨fun h=>h.2,fun h=>⟨rfl,h⟩⟩
noncomputable def WS (n : Nat) (v : ae) (F : Den) (r : Rd) : Prop:=∀ {e : Nat} {R : Rd} {B : List ah} {hd : Rd} {J : List ah} {S : List (Fin 16)} {Q : ae → List ah → Prop},n ≤ e → Uni R → (∀ q ∈ r,q ∈ R) → Hd R hd → S ≠ [] → S.Nodup →
 (∀ S' hd' J',S' ≠ [] → S'.Nodup → br S' = (F (br S)).1 → Hd R hd' → (∀ q,q ∈ hd' ↔ q ∈ hd ∨ q ∈ (F (br S)).2) → Q (.lst (S'.map stV)) (D B hd' J')) →
 W (sem e .f_law_ways [v,.lst (S.map stV),.mref B.length]) (D B hd J) Q
noncomputable def yd (h : Nat) : Prop:=∀ v F r,IsS v F r h → WS (3 * h + 7) v F r
noncomputable def lO (h : Nat) : Prop:=∀ v F r,IsB v F r h → WS (3 * h + 8) v F r
section
variable {B : List ah} {hd R : Rd} {J M X : List ah} {d : Nat}
theorem w8 {h : Nat} (ws : yd h) (he : 3 * h + 7 ≤ d) (u : Uni R) (x y : ae) {Q : Fl × Loc → List ah → Prop} : ∀ {as : List ae} {F : Den} {r : Rd},IsL as F r h → ∀ (hd : Rd) (J : List ah) (S : List (Fin 16)) (z : Option ae),(∀ q ∈ r,q ∈ R) → Hd R hd → S ≠ [] → S.Nodup →
  (∀ S' hd' J' z,S' ≠ [] → S'.Nodup → br S' = (F (br S)).1 → Hd R hd' → (∀ q,q ∈ hd' ↔ q ∈ hd ∨ q ∈ (F (br S)).2) → Q (.next,[some x,some (.lst (S'.map stV)),some (.mref B.length),some y,z,none,none,none]) (D B hd' J')) →
  W (dU 4 (a7 1 (aq (sem d .f_law_ways) (ab (af 4) (ab (af 1) (ab (af 2) am))))) as [some x,some (.lst (S.map stV)),some (.mref B.length),some y,z,none,none,none]) (D B hd J) Q:=by
 intro as0 F0 r0 i0
 refine IsL.ind ?_ ?_ i0
 ·intro hd J E z hr hh hS hn k
  refine bN ?_
  exact k _ _ _ z hS hn rfl hh fun q=>⟨.inl,fun a=>a.elim id fun a=>by cases a⟩
 ·intro a _ _ _ _ _ i j ih hd J E z hr hh hS hn k
  refine aY (aP (aA (wr rfl ?_)))
  refine ws _ _ _ i he u (fun q hq=>hr q (List.mem_append_left _ hq)) hh hS hn fun S1 hd1 J1 n1 d1 e1 h1 m1=>?_
  refine ih _ _ _ (some a) (fun q hq=>hr q (List.mem_append_right _ hq)) h1 n1 d1 fun S2 hd2 J2 z2 n2 d2 e2 h2 m2=>?_
  refine k S2 hd2 J2 z2 n2 d2 (by rw [e2,e1]; rfl) h2 fun q=>?_
  rw [m2 q,m1 q,e1]
  unfold wv
  dsimp only
  rw [List.mem_append,or_assoc]
theorem sv {h : Nat} (ws : yd h) : lO h:=by
 intro v F r i
 intro e R B hd J S Q he u hr hh hS hn k
 cases i with
 | @mk p kids _ _ _ i=>
  obtain ⟨d,rfl⟩ : ∃ d,e = d + 1:=⟨e - 1,(Jb he)⟩
  rw [cY]
  refine bK (loc0:=[some (ndV "block" p .none kids .none),some (.lst (S.map stV)),some (.mref B.length),none,none,none,none,none]) (by simp) rfl ?_
  unfold cg ndV
  rw [cZ hS]
  refine bg (i:=0) (op := "block") rfl (ifp rfl ?_)
  rw [de]
  refine aB (ci (ao (v:=.lst kids) rfl ?_))
  refine ⟨_,rfl,w8 ws (IK he) u _ _ i _ _ _ none hr hh hS hn fun S' hd' J' z n' d' e' h' m'=>?_⟩
  refine aj (a8 (ao (v:=.lst (S'.map stV)) rfl (aX (aF ?_))))
  exact k S' hd' J' n' d' e' h' m'
theorem gE {h : Nat} : ∀ {kids : List ae} {Fs : List (Rd × Den)} {r : Rd},cE kids Fs r h → kids.length = 2 * Fs.length:=by
 intro as0 F0 r0 i0
 refine cE.ind ?_ ?_ i0
 ·exact rfl
 ·intro _ _ _ _ _ _ _ _ i j k ih
  rw [List.length_cons,List.length_cons,List.length_cons,ih]; exact Ke
theorem pk {h : Nat} (wb : lO h) (he : 3 * h + 8 ≤ d) (u : Uni R) (x : ae) (kids : List ae) (hk : kids.length ≤ 10) {S : List (Fin 16)} (hS : S ≠ []) (hn : S.Nodup) {Q : Fl × Loc → List ah → Prop} : ∀ {as : List ae} {Fs : List (Rd × Den)} {r : Rd},cE as Fs r h → ∀ (hd : Rd) (J : List ah) (E : List (Fin 16)) (z : Option ae) (pre post : List ae) (n : Nat),kids = pre ++ as ++ post → pre.length = 2 * n → (∀ q ∈ r,q ∈ R) → Hd R hd → E.Nodup →
  (∀ E' hd' J' z,E'.Nodup → br E' = dz (br E) (Fs.map fun q=>(q.2 (br S)).1) → Hd R hd' → (∀ q,q ∈ hd' ↔ q ∈ hd ∨ q ∈ Fs.flatMap (ix (br S))) → Q (.next,[some x,some (.lst (S.map stV)),some (.mref B.length),some (.lst kids),none,some (.lst (E'.map stV)),z,none]) (D B hd' J')) →
  W (dU 6 (au (bx (aq (sem d .f_law_uses) (ab (aE aV (af 3) (aE lk (ar (.int 2)) (af 6))) (ab (af 1) (ab (af 2) am))))) (a7 5 (aq (sem d .f_law_joined) (ab (af 5) (ab (aq (sem d .f_law_ways) (ab (aE aV (af 3) (aE eF (aE lk (ar (.int 2)) (af 6)) (ar (.int 1)))) (ab (af 1) (ab (af 2) am)))) am)))))
   ((List.range' n Fs.length).map fun (i : Nat)=>ae.int (i : Int)) [some x,some (.lst (S.map stV)),some (.mref B.length),some (.lst kids),none,some (.lst (E.map stV)),z,none]) (D B hd J) Q:=by
 intro as0 F0 r0 i0
 refine cE.ind ?_ ?_ i0
 ·intro hd J E z pre post n e1 e2 hr hh hE k
  rw [show (List.range' n ([] : List (Rd × Den)).length).map (fun (i : Nat)=>ae.int (i : Int)) = [] from rfl]
  refine bN ?_
  exact k _ _ _ z hE rfl hh fun q=>⟨.inl,fun a=>a.elim id fun a=>by cases a⟩
 ·intro t b rt rb _ F as Fs i j ia ih hd J E z pre post n e1 e2 hr hh hE k
  have l1:=congrArg List.length e1
  rw [List.length_append,List.length_append,List.length_cons,List.length_cons] at l1
  have mul : ∀ (M : List ah) (Q : ae → List ah → Prop),W (lk (.int 2) (.int (n : Int))) M Q ↔ Q (.int ((2 * n : Nat) : Int)) M:=fun M Q=>bI (by
   unfold lk i2i
   dsimp only
   rw [if_pos (show fit 2 = true from rfl),show ((2 : Int) * (n : Int)) = ((2 * n : Nat) : Int) by exact Jc]
   rfl)
  have g0 : kids[2 * n]? = some t:=by rw [e1,List.append_assoc,List.getElem?_append_right (z3 e2),e2,Nat.sub_self]; rfl
  have g1 : kids[2 * n + 1]? = some b:=by rw [e1,List.append_assoc,List.getElem?_append_right (by exact AM e2),e2,show 2 * n + 1 - 2 * n = 1 by exact Ax]; rfl
  rw [List.length_cons,List.range'_succ,List.map_cons]
  refine aY (aB (bu (aA (ag (aT (ao (v:=.lst kids) rfl (aT (aR (ao (v:=.int (n : Int)) rfl ?_)))))))))
  rw [mul]
  refine fq g0 (DS hk e2 l1) (wr rfl ?_)
  refine dX i (CL he) u (fun q hq=>hr q (List.mem_append_left _ hq)) hh fun hd1 h1 m1=>?_
  refine aj (aP (aA (ag (ao (v:=.lst (E.map stV)) rfl (ag (aA (ag (aT (ao (v:=.lst kids) rfl (aT (aT (aR (ao (v:=.int (n : Int)) rfl ?_)))))))))))))
  rw [mul]
  refine aR (fJ ?_)
  rw [show (((2 * n : Nat) : Int) + 1) = ((2 * n + 1 : Nat) : Int) by exact Bv]
  refine fq g1 (Db hk e2 l1) (wr rfl ?_)
  refine wb _ _ _ j he u (fun q hq=>hr q (List.mem_append_right _ (List.mem_append_left _ hq))) h1 hS hn fun S2 hd2 J2 n2 d2 e3 h2 m2=>?_
  refine av ?_
  refine fg (Bj he) hE d2 fun X=>?_
  rw [de]
  refine ih _ _ _ (some (.int (n : Int))) (pre ++ [t,b]) post (n + 1) (by rw [e1]; simp) (by rw [List.length_append,e2]; simp; exact AD) (fun q hq=>hr q (List.mem_append_right _ (List.mem_append_right _ hq))) h2 (ff hE d2) fun E' hd' J' z' n' e' h' m'=>?_
  refine k E' hd' J' z' n' ?_ h' fun q=>?_
  ·rw [e',fe,e3]; rfl
  ·rw [m' q,m2 q,m1 q,List.flatMap_cons,List.mem_append]
   unfold ix
   rw [List.mem_append,or_assoc,or_assoc,or_assoc]
theorem wQ {h : Nat} (wb : lO h) (he : 3 * h + 8 ≤ d) (u : Uni R) (x y : ae) {S : List (Fin 16)} (hS : S ≠ []) (hn : S.Nodup) {Q : Fl × Loc → List ah → Prop} : ∀ {bs : List ae} {Fs : List Den} {r : Rd},dL bs Fs r h → ∀ (hd : Rd) (J : List ah) (E : List (Fin 16)) (z : Option ae),(∀ q ∈ r,q ∈ R) → Hd R hd → E.Nodup →
  (∀ E' hd' J' z,(E ≠ [] ∨ Fs ≠ [] → E' ≠ []) → E'.Nodup → br E' = dz (br E) (Fs.map fun F=>(F (br S)).1) → Hd R hd' → (∀ q,q ∈ hd' ↔ q ∈ hd ∨ q ∈ Fs.flatMap fun F=>(F (br S)).2) → Q (.next,[some x,some (.lst (S.map stV)),some (.mref B.length),some y,z,some (.lst (E'.map stV)),none,none]) (D B hd' J')) →
  W (dU 4 (a7 5 (aq (sem d .f_law_joined) (ab (af 5) (ab (aq (sem d .f_law_ways) (ab (af 4) (ab (af 1) (ab (af 2) am)))) am)))) bs [some x,some (.lst (S.map stV)),some (.mref B.length),some y,z,some (.lst (E.map stV)),none,none]) (D B hd J) Q:=by
 intro as0 F0 r0 i0
 refine dL.ind ?_ ?_ i0
 ·intro hd J E z hr hh hE k
  refine bN ?_
  exact k _ _ _ z (fun a=>a.elim id fun a=>absurd rfl a) hE rfl hh fun q=>⟨.inl,fun a=>a.elim id fun a=>by cases a⟩
 ·intro b F _ _ _ Fs j ib ih hd J E z hr hh hE k
  refine aY (aP (aA (ag (ao (v:=.lst (E.map stV)) rfl (ag (aA (wr rfl ?_)))))))
  refine wb _ _ _ j he u (fun q hq=>hr q (List.mem_append_left _ hq)) hh hS hn fun S2 hd2 J2 n2 d2 e3 h2 m2=>?_
  refine av ?_
  refine fg (Bj he) hE d2 fun X=>?_
  rw [de]
  refine ih _ _ _ (some b) (fun q hq=>hr q (List.mem_append_right _ hq)) h2 (ff hE d2) fun E' hd' J' z' ne' n' e' h' m'=>?_
  refine k E' hd' J' z' (fun _=>ne' (.inl ?_)) n' ?_ h' fun q=>?_
  ·intro e0
   obtain ⟨a,S2',rfl⟩:=List.exists_cons_of_ne_nil n2
   have : a ∈ fb E (a :: S2'):=kD.mpr (.inr List.mem_cons_self)
   rw [e0] at this; cases this
  ·rw [e',fe,e3]; rfl
  ·rw [m' q,m2 q,List.flatMap_cons,List.mem_append,or_assoc]
end
end Mine
end
section
open PySem PySem.W PySem.Spec PySem.Calls PySem.SeqAt PyProof.Rows
namespace Mine
section
variable {B : List ah} {hd R : Rd} {J M X : List ah} {d : Nat}
theorem Ah {Q : Bool → List ah → Prop} {loc : Loc} : W (a6 (ar (.bool true)) loc) M Q ↔ Q true M:=by rw [dN,dq,gl]
theorem vS {Q : Bool → List ah → Prop} {loc : Loc} (xx : Q true M) : W (a6 (ar (.bool true)) loc) M Q:=(Ah (Q:=Q) (loc:=loc)).mpr xx
theorem zP {a c : Int} {Q : ae → List ah → Prop} : W (cV [.int a,.int c,.int 2]) M Q ↔ Q (.rng a c 2) M:=by
 unfold cV
 dsimp only
 rw [if_pos (show (decide ((2 : Int) ≠ 0) && fit 2) = true from rfl)]
 exact cb
theorem jI {a c : Int} {Q : ae → List ah → Prop} (xx : Q (.rng a c 2) M) : W (cV [.int a,.int c,.int 2]) M Q:=(zP (a:=a) (c:=c) (Q:=Q)).mpr xx
theorem k7 {h : Nat} (wb : lO h) (he : 3 * h + 8 ≤ d) (u : Uni R) (x y : ae) {kids : List ae} {iu ib : Nat} {t b : ae} {rt r : Rd} {F : Den} (iv : IsV t rt 3) (jb : IsB b F r h) (g0 : kids[iu]? = some t) (g1 : kids[ib]? = some b) (hu : iu ≤ 100) (hb : ib ≤ 100) (hr : ∀ q ∈ rt ++ r,q ∈ R) (Z : Fin 16) {Q : Fl × Loc → List ah → Prop} :
  ∀ (n : Nat) (hd : Rd) (J : List ah) (T : List (Fin 16)) (z : Option ae),17 ≤ n + T.length → T ≠ [] → T.Nodup → br T = Z → Hd R hd →
  (∀ T' hd' J' loc,T' ≠ [] → T'.Nodup → br T' = Z → Hd R hd' → (∀ q,q ∈ hd' ↔ q ∈ hd ∨ q ∈ dT Z rt ∨ q ∈ (F Z).2) → Q (.ret (.lst (T'.map stV)),loc) (D B hd' J')) →
  W (dy (a6 (ar (.bool true))) (au (bx (aq (sem d .f_law_uses) (ab (aE aV (af 3) (ar (.int (iu : Int)))) (ab (af 4) (ab (af 2) am))))) (au (a7 5 (aq (sem d .f_law_joined) (ab (af 4) (ab (aq (sem d .f_law_ways) (ab (aE aV (af 3) (ar (.int (ib : Int)))) (ab (af 4) (ab (af 2) am)))) am)))) (au (sIf (a6 (aE oEq (aq fi (ab (af 5) am)) (aq fi (ab (af 4) am)))) (bL (af 4)) bD) (a7 4 (af 5))))) n [some x,some y,some (.mref B.length),some (.lst kids),some (.lst (T.map stV)),z,none]) (D B hd J) Q
 | 0,hd,J,T,z,hl,hT,hn,hz,hh,k=>absurd (du hn) (fun a=>EY hl a)
 | n + 1,hd,J,T,z,hl,hT,hn,hz,hh,k=>by
  have G:=vA h _ _ _ jb
  refine g8 (vS (ifp rfl (aB (bu (aA (ag (aT (ao (v:=.lst kids) rfl (aR (fq g0 (yt hu) (ag (ao (v:=.lst (T.map stV)) rfl (ag (ao (v:=.mref B.length) rfl (av ?_)))))))))))))))
  refine dX iv (CL he) u (fun q hq=>hr q (List.mem_append_left _ hq)) hh fun hd1 h1 m1=>?_
  refine aj (aB (aP (aA (ag (ao (v:=.lst (T.map stV)) rfl (ag (aA (ag (aT (ao (v:=.lst kids) rfl (aR (fq g1 (yt hb) (ag (ao (v:=.lst (T.map stV)) rfl (ag (ao (v:=.mref B.length) rfl (av ?_)))))))))))))))))
  refine wb _ _ _ jb he u (fun q hq=>hr q (List.mem_append_right _ hq)) h1 hT hn fun S2 hd2 J2 n2 d2 e3 h2 m2=>?_
  refine av ?_
  refine fg (Bj he) hn d2 fun X=>?_
  have dj:=ff hn d2
  have lj:=du dj
  have lt:=du hn
  have ll:=tc T S2
  rw [de]
  refine aj (aB (cH (bM (aT (aA (ag (ao (v:=.lst ((fb T S2).map stV)) rfl (av (gi (by rw [List.length_map]; exact zr lj) (aA (ag (ao (v:=.lst (T.map stV)) rfl (av (gi (by rw [List.length_map]; exact zr lt) (eH (b7 ?_))))))))))))))))
  rw [List.length_map,List.length_map]
  have hits : ∀ q,q ∈ hd2 ↔ q ∈ hd ∨ q ∈ dT Z rt ∨ q ∈ (F Z).2:=fun q=>by rw [m2 q,m1 q,hz,or_assoc]
  by_cases hc : ((fb T S2).length : Int) = T.length
  ·refine ifp (decide_eq_true hc) (a8 (ao (v:=.lst (T.map stV)) rfl (aX ?_)))
   exact k T hd2 _ _ hT hn hz h2 hits
  ·refine ifn (by rw [decide_eq_true_eq]; exact hc) (cA (aj (aP (ao (v:=.lst ((fb T S2).map stV)) rfl ?_))))
   refine k7 wb he u x y iv jb g0 g1 hu hb hr Z n hd2 _ (fb T S2) (some (.lst ((fb T S2).map stV))) (Eg hl ll hc) ?_ dj ?_ h2 fun T' hd' J' loc t' n' e' h' m'=>?_
   ·intro e0
    rw [e0] at ll
    exact hT (List.length_eq_zero_iff.mp (Nat.le_zero.mp ll))
   ·rw [fe,e3,hz]
    refine iK _ _ fun s=>?_
    rw [cS]
    cases e4 : bV Z s with
    | false=>rfl
    | true=>rw [G.ext Z s e4]; rfl
   ·refine k T' hd' J' loc t' n' e' h' fun q=>?_
    rw [m' q,hits q]
    constructor
    ·rintro ((a | a) | a)
     ·exact .inl a
     ·exact .inr a
     ·exact .inr a
    ·rintro (a | a)
     ·exact .inl (.inl a)
     ·exact .inr a
theorem uq {h : Nat} (wb : lO h) (he : 3 * h + 8 ≤ d) (u : Uni R) (x y : ae) (kids : List ae) (hk : kids.length ≤ 10) {T : List (Fin 16)} (hT : T ≠ []) (hn : T.Nodup) {Q : Fl × Loc → List ah → Prop} : ∀ {as : List ae} {Fs : List (Rd × Den)} {r : Rd},cE as Fs r h → ∀ (hd : Rd) (J : List ah) (E : List (Fin 16)) (z : Option ae) (pre : List ae) (n : Nat),kids = pre ++ as → pre.length = 2 * n → (∀ q ∈ r,q ∈ R) → Hd R hd → E.Nodup →
  (∀ E' hd' J' z,E'.Nodup → E.length ≤ E'.length → br E' = dz (br E) (Fs.map fun q=>(q.2 (br T)).1) → Hd R hd' → (∀ q,q ∈ hd' ↔ q ∈ hd ∨ q ∈ Fs.flatMap (ix (br T))) → Q (.next,[some x,some y,some (.mref B.length),some (.lst kids),some (.lst (T.map stV)),some (.lst (E'.map stV)),z]) (D B hd' J')) →
  W (dU 6 (au (bx (aq (sem d .f_law_uses) (ab (aE aV (af 3) (af 6)) (ab (af 4) (ab (af 2) am))))) (a7 5 (aq (sem d .f_law_joined) (ab (af 5) (ab (aq (sem d .f_law_ways) (ab (aE aV (af 3) (aE eF (af 6) (ar (.int 1)))) (ab (af 4) (ab (af 2) am)))) am)))))
   ((List.range' n Fs.length).map fun (i : Nat)=>ae.int ((2 * i : Nat) : Int)) [some x,some y,some (.mref B.length),some (.lst kids),some (.lst (T.map stV)),some (.lst (E.map stV)),z]) (D B hd J) Q:=by
 intro as0 F0 r0 i0
 refine cE.ind ?_ ?_ i0
 ·intro hd J E z pre n e1 e2 hr hh hE k
  rw [show (List.range' n ([] : List (Rd × Den)).length).map (fun (i : Nat)=>ae.int ((2 * i : Nat) : Int)) = [] from rfl]
  refine bN ?_
  exact k _ _ _ z hE (Nat.le_refl _) rfl hh fun q=>⟨.inl,fun a=>a.elim id fun a=>by cases a⟩
 ·intro t b rt rb _ F as Fs i j ia ih hd J E z pre n e1 e2 hr hh hE k
  have l1:=congrArg List.length e1
  rw [List.length_append,List.length_cons,List.length_cons] at l1
  have g0 : kids[2 * n]? = some t:=by rw [e1,List.getElem?_append_right (z3 e2),e2,Nat.sub_self]; rfl
  have g1 : kids[2 * n + 1]? = some b:=by rw [e1,List.getElem?_append_right (by exact AM e2),e2,show 2 * n + 1 - 2 * n = 1 by exact Ax]; rfl
  rw [List.length_cons,List.range'_succ,List.map_cons]
  refine aY (aB (bu (aA (ag (aT (ao (v:=.lst kids) rfl (ao (v:=.int ((2 * n : Nat) : Int)) rfl (fq g0 (HY hk e2 l1) (ag (ao (v:=.lst (T.map stV)) rfl (ag (ao (v:=.mref B.length) rfl (av ?_)))))))))))))
  refine dX i (CL he) u (fun q hq=>hr q (List.mem_append_left _ hq)) hh fun hd1 h1 m1=>?_
  refine aj (aP (aA (ag (ao (v:=.lst (E.map stV)) rfl (ag (aA (ag (aT (ao (v:=.lst kids) rfl (aT (ao (v:=.int ((2 * n : Nat) : Int)) rfl (aR (fJ ?_)))))))))))))
  rw [show (((2 * n : Nat) : Int) + 1) = ((2 * n + 1 : Nat) : Int) by exact Bv]
  refine fq g1 (JF hk e2 l1) (ag (ao (v:=.lst (T.map stV)) rfl (ag (ao (v:=.mref B.length) rfl (av ?_)))))
  refine wb _ _ _ j he u (fun q hq=>hr q (List.mem_append_right _ (List.mem_append_left _ hq))) h1 hT hn fun S2 hd2 J2 n2 d2 e3 h2 m2=>?_
  refine av ?_
  refine fg (Bj he) hE d2 fun X=>?_
  have ll:=tc E S2
  rw [de]
  refine ih _ _ _ (some (.int ((2 * n : Nat) : Int))) (pre ++ [t,b]) (n + 1) (by rw [e1]; simp) (by rw [List.length_append,e2]; simp; exact AD) (fun q hq=>hr q (List.mem_append_right _ (List.mem_append_right _ hq))) h2 (ff hE d2) fun E' hd' J' z' n' le' e' h' m'=>?_
  refine k E' hd' J' z' n' (EV ll le') ?_ h' fun q=>?_
  ·rw [e',fe,e3]; rfl
  ·rw [m' q,m2 q,m1 q,List.flatMap_cons,List.mem_append]
   unfold ix
   rw [List.mem_append,or_assoc,or_assoc,or_assoc]
theorem Ed {Fs : List (Rd × Den)} (h : Fs.length ≤ 2) {kl : Nat} (e : kl = 2 * Fs.length) : cR (.rng 0 (kl : Int) 2) = some ((List.range' 0 Fs.length).map fun (i : Nat)=>ae.int ((2 * i : Nat) : Int)):=by
 subst e
 match hl : Fs.length,h with
 | 0,_=>kernel_rfl
 | 1,_=>kernel_rfl
 | 2,_=>kernel_rfl
theorem m6 {h : Nat} (wb : lO h) (he : 3 * h + 8 ≤ d) (u : Uni R) (x y : ae) {kids : List ae} (hk : kids.length ≤ 4) {Fs : List (Rd × Den)} {r : Rd} (ia : cE kids Fs r h) (hr : ∀ q ∈ r,q ∈ R) (Z : Fin 16) {Q : Fl × Loc → List ah → Prop} :
  ∀ (n : Nat) (hd : Rd) (J : List ah) (T : List (Fin 16)) (z z6 : Option ae),17 ≤ n + T.length → T ≠ [] → T.Nodup → br T = Z → Hd R hd →
  (∀ T' hd' J' loc,T' ≠ [] → T'.Nodup → br T' = Z → Hd R hd' → (∀ q,q ∈ hd' ↔ q ∈ hd ∨ q ∈ Fs.flatMap (ix Z)) → Q (.ret (.lst (T'.map stV)),loc) (D B hd' J')) →
  W (dy (a6 (ar (.bool true))) (au (a7 5 (af 4)) (au (dW 6 (aq cV (ab (ar (.int 0)) (ab (aq fi (ab (af 3) am)) (ab (ar (.int 2)) am)))) (au (bx (aq (sem d .f_law_uses) (ab (aE aV (af 3) (af 6)) (ab (af 4) (ab (af 2) am))))) (a7 5 (aq (sem d .f_law_joined) (ab (af 5) (ab (aq (sem d .f_law_ways) (ab (aE aV (af 3) (aE eF (af 6) (ar (.int 1)))) (ab (af 4) (ab (af 2) am)))) am)))))) (au (sIf (a6 (aE oEq (aq fi (ab (af 5) am)) (aq fi (ab (af 4) am)))) (bL (af 4)) bD) (a7 4 (af 5))))) n [some x,some y,some (.mref B.length),some (.lst kids),some (.lst (T.map stV)),z,z6]) (D B hd J) Q
 | 0,hd,J,T,z,z6,hl,hT,hn,hz,hh,k=>absurd (du hn) (fun a=>EY hl a)
 | n + 1,hd,J,T,z,z6,hl,hT,hn,hz,hh,k=>by
  have G:=i7 (vA h) ia
  have al:=gE ia
  refine g8 (vS (ifp rfl (aB (aP (ao (v:=.lst (T.map stV)) rfl (aj (aB (ci (aA (ag (aR (ag (aA (ag (ao (v:=.lst kids) rfl (av (gi (AR hk al) (ag (aR (av ?_))))))))))))))))))))
  refine jI ?_
  refine ⟨_,Ed (wM hk al) al,?_⟩
  refine uq wb he u x y kids (AN hk al) hT hn ia hd J T z6 [] 0 rfl rfl hr hh hn fun E' hd2 J2 z2 n2 le2 e2 h2 m2=>?_
  have lj:=du n2
  have lt:=du hn
  refine aj (aB (cH (bM (aT (aA (ag (ao (v:=.lst (E'.map stV)) rfl (av (gi (by rw [List.length_map]; exact zr lj) (aA (ag (ao (v:=.lst (T.map stV)) rfl (av (gi (by rw [List.length_map]; exact zr lt) (eH (b7 ?_))))))))))))))))
  rw [List.length_map,List.length_map]
  have hits : ∀ q,q ∈ hd2 ↔ q ∈ hd ∨ q ∈ Fs.flatMap (ix Z):=fun q=>by rw [m2 q,hz]
  by_cases hc : (E'.length : Int) = T.length
  ·refine ifp (decide_eq_true hc) (a8 (ao (v:=.lst (T.map stV)) rfl (aX ?_)))
   exact k T hd2 _ _ hT hn hz h2 hits
  ·refine ifn (by rw [decide_eq_true_eq]; exact hc) (cA (aj (aP (ao (v:=.lst (E'.map stV)) rfl ?_))))
   refine m6 wb he u x y hk ia hr Z n hd2 _ E' (some (.lst (E'.map stV))) z2 (Eg hl le2 hc) ?_ n2 ?_ h2 fun T' hd' J' loc t' n' e' h' m'=>?_
   ·intro e0
    rw [e0] at le2
    exact hT (List.length_eq_zero_iff.mp (Nat.le_zero.mp le2))
   ·rw [e2,hz]
    refine iK _ _ fun s=>?_
    rw [jw]
    cases e4 : bV Z s with
    | false=>rfl
    | true=>
     rw [Bool.true_and,List.all_eq_true]
     intro Y hY
     obtain ⟨p,hp,rfl⟩:=List.mem_map.mp hY
     exact (G p hp).1.ext Z s e4
   ·refine k T' hd' J' loc t' n' e' h' fun q=>?_
    rw [m' q,hits q]
    constructor
    ·rintro ((a | a) | a)
     ·exact .inl a
     ·exact .inr a
     ·exact .inr a
    ·rintro (a | a)
     ·exact .inl (.inl a)
     ·exact .inr a
end
end Mine
end
section
open PySem PySem.W PySem.Spec PySem.Calls PySem.SeqAt PyProof.Rows
namespace Mine
section
variable {B : List ah} {hd R : Rd} {J M X : List ah} {d : Nat}
theorem EB {Fs : List (Rd × Den)} (h : Fs.length ≤ 2) {kl : Nat} (e : kl = 2 * Fs.length ∨ kl = 2 * Fs.length + 1) : ∃ n,(∀ (M : List ah) (Q : ae → List ah → Prop),W (qY (.int (kl : Int)) (.int 2)) M Q ↔ Q (.int n) M) ∧ cR (.rng 0 n 1) = some ((List.range' 0 Fs.length).map fun (i : Nat)=>ae.int (i : Int)):=by
 refine ⟨(kl : Int).fdiv 2,fun M Q=>?_,?_⟩
 ·unfold qY i2i
  dsimp only
  rw [if_pos (show (decide ((2 : Int) ≠ 0) && fit 2) = true from rfl)]
  exact cb
 ·have : (kl : Int).fdiv 2 = (Fs.length : Int):=by
   rw [Int.fdiv_eq_ediv_of_nonneg _ (by decide)]
   exact H6 e
  rw [this]
  match hl : Fs.length,h with
  | 0,_=>kernel_rfl
  | 1,_=>kernel_rfl
  | 2,_=>kernel_rfl
theorem kK {ks : List ae} {v : ae} {x : Int} (i : Nat) (hx : x = (i : Int)) (h : ks[i]? = some v) (hi : i ≤ 1000000) {Q : ae → List ah → Prop} : W (aV (.lst ks) (.int x)) M Q ↔ Q v M:=by
 subst hx
 exact vy h hi
theorem dA {ks : List ae} {v : ae} {x : Int} (i : Nat) (hx : x = (i : Int)) (h : ks[i]? = some v) (hi : i ≤ 1000000) {Q : ae → List ah → Prop} (xx : Q v M) : W (aV (.lst ks) (.int x)) M Q:=(kK (ks:=ks) (v:=v) (x:=x) (i:=i) (hx:=hx) (h:=h) (hi:=hi) (Q:=Q)).mpr xx
theorem zz {loc : Loc} {Q : ae → List ah → Prop} : W (aD (bB am) loc) M Q ↔ Q (.lst ([].map stV)) (M ++ [.gone]):=by
 rw [jd,fO]
 exact ⟨fun h=>h.2,fun h=>⟨rfl,h⟩⟩
theorem jK {loc : Loc} {Q : ae → List ah → Prop} (xx : Q (.lst ([].map stV)) (M ++ [.gone])) : W (aD (bB am) loc) M Q:=(zz (loc:=loc) (Q:=Q)).mpr xx
theorem tU {s : Fin 4} {p : Int} {Q : ae → List ah → Prop} {l : Loc → Mo ae} {loc : Loc} (h : W (l loc) M fun a M1=>a = vaV p s ∧ M1 = M) : W (aS (aK "slot") (aS (aK "value") l) loc) M Q ↔ Q (.int (s.val : Int)) M:=by
 obtain ⟨a,M1,e,rfl,rfl⟩:=h
 rw [dM,dM,bI e]
 unfold vaV ndV
 rw [e7,kG]
theorem g6 {s : Fin 4} {p : Int} {Q : ae → List ah → Prop} {l : Loc → Mo ae} {loc : Loc} (h : W (l loc) M fun a M1=>a = vaV p s ∧ M1 = M) (xx : Q (.int (s.val : Int)) M) : W (aS (aK "slot") (aS (aK "value") l) loc) M Q:=(tU (s:=s) (p:=p) (Q:=Q) (l:=l) (loc:=loc) (h:=h)).mpr xx
theorem Bq {i : Nat} {loc : Loc} {a : ae} {vs : List ae} {Q : ae → List ah → Prop} (h : loc[i]? = some (some (.lst (a :: vs)))) (hl : vs.length ≤ 1000) : W (aD (gY 1 (af i)) loc) M Q ↔ Q (.lst vs) (M ++ [.gone]):=by
 have e : gY 1 (af i) loc M = some (.mref M.length,M ++ [.lst vs]):=by
  unfold gY af
  rw [h]
  unfold bnd
  dsimp only
  unfold cz
  dsimp only
  rw [bi (by rw [List.length_cons]; exact CR hl),if_pos rfl]
  rfl
 rw [kI,bI e]
 constructor
 ·rintro ⟨j,mo,v,e1,e2,e3,q⟩
  cases e1
  rw [bH] at e2; cases e2; cases e3
  rw [cB] at q; exact q
 ·intro q
  refine ⟨_,_,_,rfl,bH,rfl,?_⟩
  rw [cB]; exact q
theorem Aw {i : Nat} {loc : Loc} {a : ae} {vs : List ae} {Q : ae → List ah → Prop} (h : loc[i]? = some (some (.lst (a :: vs)))) (hl : vs.length ≤ 1000) (xx : Q (.lst vs) (M ++ [.gone])) : W (aD (gY 1 (af i)) loc) M Q:=(Bq (i:=i) (loc:=loc) (a:=a) (vs:=vs) (Q:=Q) (h:=h) (hl:=hl)).mpr xx
theorem sU {h : Nat} (wb0 : ∀ g,h = g + 1 → lO g) : yd h:=by
 intro v F r i
 intro e R B hd J S Q he u hr hh hS hn k
 obtain ⟨d,rfl⟩ : ∃ d,e = d + 1:=⟨e - 1,(H7 he)⟩
 have ls:=du hn
 cases i with
 | @asg at_ p s v r _ iv=>
  rw [cY]
  refine bK (loc0:=[some (ndV "assign" at_ .none [vaV p s,v] .none),some (.lst (S.map stV)),some (.mref B.length),none,none,none,none,none]) (by simp) rfl ?_
  unfold cg ndV
  rw [cZ hS]
  refine bg (i:=0) (op := "assign") rfl (ifn (by decide) (bg (i:=0) (op := "assign") rfl (ifp rfl ?_)))
  rw [de]
  refine aB (bu (aA (wr rfl ?_)))
  refine dX iv (DP he) u (fun q hq=>hr q (List.mem_cons_of_mem _ hq)) hh fun hd1 h1 m1=>?_
  refine aj (a8 (aA (ag (ao (v:=.lst (S.map stV)) rfl (ag (g6 (s:=s) (p:=p) (by rw [dJ,bU (v:=.lst [vaV p s,v]) rfl,dq,kK (x:=0) 0 rfl rfl (by decide)]; exact ⟨rfl,rfl⟩) (av ?_)))))))
  refine hH (Dg he) hn fun X=>?_
  refine aX (aF ?_)
  rw [de]
  exact k _ _ _ (ja s hS) (eG s S [] List.nodup_nil) (fP s hS) h1 m1
 | @inc at_ p s v r _ iv=>
  rw [cY]
  refine bK (loc0:=[some (ndV "std" at_ .none [vaV p s,v] (.str "INC")),some (.lst (S.map stV)),some (.mref B.length),none,none,none,none,none]) (by simp) rfl ?_
  unfold cg ndV
  rw [cZ hS]
  refine bg (i:=0) (op := "std") rfl (ifn (by decide) (bg (i:=0) (op := "std") rfl (ifn (by decide) (bg (i:=0) (op := "std") rfl (ifp rfl ?_)))))
  rw [de]
  refine aB (bu (aA (wr rfl ?_)))
  refine dX iv (DP he) u (fun q hq=>hr q (List.mem_cons_of_mem _ hq)) hh fun hd1 h1 m1=>?_
  refine aj (aB (bu (aA (wr rfl ?_))))
  refine dX (.var p s 0) (J6 he) u (fun q hq=>hr q (by rw [List.mem_singleton.mp hq]; exact List.mem_cons_self)) h1 fun hd2 h2 m2=>?_
  refine aj (a8 (aA (ag (ao (v:=.lst (S.map stV)) rfl (ag (g6 (s:=s) (p:=p) (by rw [dJ,bU (v:=.lst [vaV p s,v]) rfl,dq,kK (x:=0) 0 rfl rfl (by decide)]; exact ⟨rfl,rfl⟩) (av ?_)))))))
  refine hH (Dg he) hn fun X=>?_
  refine aX (aF ?_)
  rw [de]
  exact k _ _ _ (ja s hS) (eG s S [] List.nodup_nil) (fP s hS) h2 fun q=>by rw [m2 q,m1 q,List.mem_append,or_assoc]
 | @cal at_ pc p s v r _ iv=>
  rw [cY]
  refine bK (loc0:=[some (ndV "call" at_ .none [ndV "proc" pc dG [] fk,vaV p s,v] .none),some (.lst (S.map stV)),some (.mref B.length),none,none,none,none,none]) (by simp) rfl ?_
  rw [show ndV "call" at_ .none [ndV "proc" pc dG [] fk,vaV p s,v] .none = .inst 32 (ndF "call" (.int at_) .none (.lst [ndV "proc" pc dG [] fk,vaV p s,v]) .none) from rfl]
  unfold cg
  rw [cZ hS]
  refine bg (i:=0) (op := "call") rfl (ifn (by decide) (bg (i:=0) (op := "call") rfl (ifn (by decide) (bg (i:=0) (op := "call") rfl (ifn (by decide) (bg (i:=0) (op := "call") rfl (ifp rfl ?_)))))))
  rw [de]
  refine aB (bu (aA (wr rfl ?_)))
  refine dX iv (DP he) u (fun q hq=>hr q (List.mem_cons_of_mem _ hq)) hh fun hd1 h1 m1=>?_
  refine aj (a8 (aA (ag (ao (v:=.lst (S.map stV)) rfl (ag (g6 (s:=s) (p:=p) (by rw [dJ,bU (v:=.lst [ndV "proc" pc dG [] fk,vaV p s,v]) rfl,dq,kK (x:=1) 1 rfl rfl (by decide)]; exact ⟨rfl,rfl⟩) (av ?_)))))))
  refine hH (Dg he) hn fun X=>?_
  refine aX (aF ?_)
  rw [de]
  exact k _ _ _ (ja s hS) (eG s S [] List.nodup_nil) (fP s hS) h1 m1
 | @if0 at_ kids Fs r g ia hl=>
  have wb:=wb0 g rfl
  have al:=gE ia
  obtain ⟨n,hdv,hit⟩:=EB (Fs:=Fs) (wM hl al) (.inl al)
  rw [cY]
  refine bK (loc0:=[some (ndV "if" at_ .none kids (.bool false)),some (.lst (S.map stV)),some (.mref B.length),none,none,none,none,none]) (by simp) rfl ?_
  unfold cg ndV
  rw [cZ hS]
  refine bg (i:=0) (op := "if") rfl (ifn (by decide) (bg (i:=0) (op := "if") rfl (ifn (by decide) (bg (i:=0) (op := "if") rfl (ifn (by decide) (bg (i:=0) (op := "if") rfl (ifn (by decide) (bg (i:=0) (op := "if") rfl (ifp rfl ?_)))))))))
  rw [de]
  refine aB (aP (jK ?_))
  rw [de]
  refine aj (aB (ci (aA (ag (aT (aA (ag (ao (v:=.lst kids) rfl (av (gi (AR hl al) (aR ?_)))))))))))
  rw [hdv]
  refine av (kg ?_)
  refine ⟨_,hit,pk wb (Av he) u _ kids (AN hl al) hS hn ia _ _ [] none [] [] 0 (by simp) rfl hr hh List.nodup_nil fun E' hd1 J1 z1 n1 e1 h1 m1=>?_⟩
  refine aj (aB (aP (tt (wr rfl (ifn (by decide) (ao (v:=.lst (S.map stV)) rfl (aj (a8 (aA (wr rfl ?_))))))))))
  refine fg (EW he) n1 hn fun X=>?_
  refine aX (aF ?_)
  rw [de]
  refine k _ _ _ (fun e0=>?_) (ff n1 hn) ?_ h1 m1
  ·obtain ⟨a,S',rfl⟩:=List.exists_cons_of_ne_nil hS
   have : a ∈ fb E' (a :: S'):=kD.mpr (.inr List.mem_cons_self)
   rw [e0] at this; cases this
  ·rw [fe,e1,gM]
   dsimp only
   rw [fW (Fs.map _) (br S),fW]
   exact iK _ _ fun t=>by rw [cS,cS,cS,fT,Bool.true_and,Bool.and_comm]
 | @if1 at_ kids Fs ra rb g b F ia hl ib=>
  have wb:=wb0 g rfl
  have al:=gE ia
  obtain ⟨n,hdv,hit⟩:=EB (Fs:=Fs) (kl:=(kids ++ [b]).length) (wM hl al) (.inr (by rw [List.length_append,List.length_singleton,al]))
  rw [cY]
  refine bK (loc0:=[some (ndV "if" at_ .none (kids ++ [b]) (.bool true)),some (.lst (S.map stV)),some (.mref B.length),none,none,none,none,none]) (by simp) rfl ?_
  unfold cg ndV
  have kl : (kids ++ [b]).length ≤ 5:=by rw [List.length_append,List.length_singleton]; exact EI hl al
  rw [cZ hS]
  refine bg (i:=0) (op := "if") rfl (ifn (by decide) (bg (i:=0) (op := "if") rfl (ifn (by decide) (bg (i:=0) (op := "if") rfl (ifn (by decide) (bg (i:=0) (op := "if") rfl (ifn (by decide) (bg (i:=0) (op := "if") rfl (ifp rfl ?_)))))))))
  rw [de]
  refine aB (aP (jK ?_))
  rw [de]
  refine aj (aB (ci (aA (ag (aT (aA (ag (ao (v:=.lst (kids ++ [b])) rfl (av (gi (EE kl) (aR ?_)))))))))))
  rw [hdv]
  refine av (kg ?_)
  refine ⟨_,hit,pk wb (Av he) u _ (kids ++ [b]) (E0 kl) hS hn ia _ _ [] none [] [b] 0 (by simp) rfl (fun q hq=>hr q (List.mem_append_left _ hq)) hh List.nodup_nil fun E' hd1 J1 z1 n1 e1 h1 m1=>?_⟩
  refine aj (aB (aP (tt (wr rfl (ifp rfl (aA (ag (aT (ao (v:=.lst (kids ++ [b])) rfl (ba (aR (gj (a:=.int (-1)) rfl (ng (wr rfl ?_))))))))))))))
  refine wb _ _ _ ib (Av he) u (fun q hq=>hr q (List.mem_append_right _ hq)) h1 hS hn fun S2 hd2 J2 n2 d2 e2 h2 m2=>?_
  refine aj (a8 (aA (wr rfl ?_)))
  refine fg (EW he) n1 d2 fun X=>?_
  refine aX (aF ?_)
  rw [de]
  refine k _ _ _ (fun e0=>?_) (ff n1 d2) ?_ h2 fun q=>?_
  ·obtain ⟨a,S',rfl⟩:=List.exists_cons_of_ne_nil n2
   have : a ∈ fb E' (a :: S'):=kD.mpr (.inr List.mem_cons_self)
   rw [e0] at this; cases this
  ·rw [fe,e1,e2,gM]
   dsimp only
   rw [fW (Fs.map _) (F (br S)).1,fW]
   exact iK _ _ fun t=>by rw [cS,cS,cS,fT,Bool.true_and,Bool.and_comm]
  ·rw [m2 q,m1 q,List.mem_append,or_assoc]
 | @whl at_ kids Fs r g ia hl=>
  have wb:=wb0 g rfl
  rw [cY]
  refine bK (loc0:=[some (ndV "while" at_ .none kids .none),some (.lst (S.map stV)),some (.mref B.length),none,none,none,none,none]) (by simp) rfl ?_
  unfold cg ndV
  rw [cZ hS]
  refine bg (i:=0) (op := "while") rfl (ifn (by decide) (bg (i:=0) (op := "while") rfl (ifn (by decide) (bg (i:=0) (op := "while") rfl (ifn (by decide) (bg (i:=0) (op := "while") rfl (ifn (by decide) (bg (i:=0) (op := "while") rfl (ifn (by decide) (bg (i:=0) (op := "while") rfl (ifn (by decide) ?_)))))))))))
  rw [de]
  refine a8 (aA (wr rfl ?_))
  obtain ⟨d,rfl⟩ : ∃ d',d = d' + 1:=⟨d - 1,(Ce he)⟩
  rw [iJ]
  refine bK (loc0:=[some (.inst 32 (ndF "while" (.int at_) .none (.lst kids) .none)),some (.lst (S.map stV)),some (.mref B.length),none,none,none,none]) (by simp) rfl ?_
  unfold dI
  refine xt rfl (bg (i:=0) (op := "while") rfl (ifn (by decide) (bg (i:=0) (op := "while") rfl (ifn (by decide) (xt rfl ?_)))))
  refine m6 wb (A4 he) u _ _ hl ia hr (br S) 1000 _ _ S none none (G7 ls) hS hn rfl hh fun T' hd' J' loc t' n' e' h' m'=>?_
  refine aF (aF ?_)
  exact k _ _ _ t' n' e' h' m'
 | @rep at_ b t F rb rt g ib iv=>
  have wb:=wb0 g rfl
  have G:=vA g _ _ _ ib
  rw [cY]
  refine bK (loc0:=[some (ndV "repeat" at_ .none [b,t] .none),some (.lst (S.map stV)),some (.mref B.length),none,none,none,none,none]) (by simp) rfl ?_
  unfold cg ndV
  rw [cZ hS]
  refine bg (i:=0) (op := "repeat") rfl (ifn (by decide) (bg (i:=0) (op := "repeat") rfl (ifn (by decide) (bg (i:=0) (op := "repeat") rfl (ifn (by decide) (bg (i:=0) (op := "repeat") rfl (ifn (by decide) (bg (i:=0) (op := "repeat") rfl (ifn (by decide) (bg (i:=0) (op := "repeat") rfl (ifn (by decide) ?_)))))))))))
  rw [de]
  refine a8 (aA (wr rfl ?_))
  obtain ⟨d,rfl⟩ : ∃ d',d = d' + 1:=⟨d - 1,(Ce he)⟩
  rw [iJ]
  refine bK (loc0:=[some (.inst 32 (ndF "repeat" (.int at_) .none (.lst [b,t]) .none)),some (.lst (S.map stV)),some (.mref B.length),none,none,none,none]) (by simp) rfl ?_
  unfold dI
  refine xt rfl (bg (i:=0) (op := "repeat") rfl (ifp rfl (aB (aP (aA (wr rfl ?_))))))
  refine wb _ _ _ ib (A4 he) u (fun q hq=>hr q (List.mem_append_left _ hq)) hh hS hn fun S2 hd2 J2 n2 d2 e2 h2 m2=>?_
  refine aj ?_
  refine k7 wb (A4 he) u _ _ (iu:=1) (ib:=0) iv ib rfl rfl (by decide) (by decide) (fun q hq=>hr q (by rw [List.mem_append] at *; exact hq.symm)) (F (br S)).1 1000 _ _ S2 none (Fm) n2 d2 e2 h2 fun T' hd' J' loc t' n' e' h' m'=>?_
  refine aX (aF (aF ?_))
  refine k _ _ _ t' n' e' h' fun q=>?_
  rw [m' q,m2 q,List.mem_append]
  constructor
  ·rintro ((a | a) | a | a)
   ·exact .inl a
   ·exact .inr (.inl a)
   ·exact .inr (.inr a)
   ·exact .inr (.inl (G.anti _ _ (G.ext _) _ a))
  ·rintro (a | a | a)
   ·exact .inl (.inl a)
   ·exact .inl (.inr a)
   ·exact .inr (.inl a)
 | @for_ at_ p s v1 v2 b r1 r2 rb F g i1 i2 ib=>
  have wb:=wb0 g rfl
  rw [cY]
  refine bK (loc0:=[some (ndV "for" at_ .none [vaV p s,v1,v2,b] (.int 1)),some (.lst (S.map stV)),some (.mref B.length),none,none,none,none,none]) (by simp) rfl ?_
  unfold cg ndV
  rw [cZ hS]
  refine bg (i:=0) (op := "for") rfl (ifn (by decide) (bg (i:=0) (op := "for") rfl (ifn (by decide) (bg (i:=0) (op := "for") rfl (ifn (by decide) (bg (i:=0) (op := "for") rfl (ifn (by decide) (bg (i:=0) (op := "for") rfl (ifn (by decide) (bg (i:=0) (op := "for") rfl (ifn (by decide) ?_)))))))))))
  rw [de]
  refine a8 (aA (wr rfl ?_))
  obtain ⟨d,rfl⟩ : ∃ d',d = d' + 1:=⟨d - 1,(Ce he)⟩
  rw [iJ]
  refine bK (loc0:=[some (.inst 32 (ndF "for" (.int at_) .none (.lst [vaV p s,v1,v2,b]) (.int 1))),some (.lst (S.map stV)),some (.mref B.length),none,none,none,none]) (by simp) rfl ?_
  unfold dI
  refine xt rfl (bg (i:=0) (op := "for") rfl (ifn (by decide) (bg (i:=0) (op := "for") rfl (ifp rfl (aB (bu (aA (wr rfl ?_))))))))
  refine dX i1 (JJ he) u (fun q hq=>hr q (List.mem_cons_of_mem _ (List.mem_append_left _ hq))) hh fun hd1 h1 m1=>?_
  refine aj (aB (aP (aA (ag (ao (v:=.lst (S.map stV)) rfl (ag (g6 (s:=s) (p:=p) (by rw [dJ,bU (v:=.lst [vaV p s,v1,v2,b]) rfl,dq,kK (x:=0) 0 rfl rfl (by decide)]; exact ⟨rfl,rfl⟩) (av ?_))))))))
  refine hH (JP he) hn fun X=>?_
  rw [de]
  refine aj ?_
  refine k7 wb (A4 he) u _ _ (iu:=2) (ib:=3) i2 ib rfl rfl (by decide) (by decide) (fun q hq=>hr q (List.mem_cons_of_mem _ (List.mem_append_right _ hq))) (dH (br S) s) 1000 _ _ (eS s [] S) none (Fm) (ja s hS) (eG s S [] List.nodup_nil) (fP s hS) h1 fun T' hd' J' loc t' n' e' h' m'=>?_
  refine aX (aF (aF ?_))
  refine k _ _ _ t' n' e' h' fun q=>?_
  rw [m' q,m1 q,List.mem_append,List.mem_append,or_assoc]
 | @cas at_ v val bs rv r Fs g iv ib hl hne=>
  have wb:=wb0 g rfl
  rw [cY]
  refine bK (loc0:=[some (ndV "case" at_ .none (v :: bs) val),some (.lst (S.map stV)),some (.mref B.length),none,none,none,none,none]) (by simp) rfl ?_
  unfold cg ndV
  rw [cZ hS]
  refine bg (i:=0) (op := "case") rfl (ifn (by decide) (bg (i:=0) (op := "case") rfl (ifn (by decide) (bg (i:=0) (op := "case") rfl (ifn (by decide) (bg (i:=0) (op := "case") rfl (ifn (by decide) (bg (i:=0) (op := "case") rfl (ifn (by decide) (bg (i:=0) (op := "case") rfl (ifp rfl ?_)))))))))))
  rw [de]
  refine aB (bu (aA (wr rfl ?_)))
  refine dX iv (Je he) u (fun q hq=>hr q (List.mem_append_left _ hq)) hh fun hd1 h1 m1=>?_
  refine aj (aB (aP (jK ?_)))
  rw [de]
  refine aj (aB (ci (Aw (i:=3) rfl (E5 hl) ?_)))
  rw [de]
  refine ⟨_,rfl,wQ wb (Av he) u _ _ hS hn ib _ _ [] none (fun q hq=>hr q (List.mem_append_right _ hq)) h1 List.nodup_nil fun E' hd2 J2 z2 t2 n2 e2 h2 m2=>?_⟩
  refine aj (a8 (ao (v:=.lst (E'.map stV)) rfl (aX (aF ?_))))
  refine k _ _ _ (t2 (.inr hne)) n2 e2 h2 fun q=>?_
  rw [m2 q,m1 q,List.mem_append,or_assoc]
theorem BW : ∀ h : Nat,lO h
 | 0=>sv (sU fun g e=>nomatch e)
 | h + 1=>sv (sU fun g e=>by obtain rfl : g = h:=Bl e; exact BW g)
end
end Mine
end
section
open PySem PySem.W PySem.Spec PySem.Calls PySem.SeqAt PyProof.Rows
namespace Mine
noncomputable def gD (hd : Rd) : List (Int × ae):=hd.map fun q=>(q.1,.int (q.2.val : Int))
noncomputable def E (B : List ah) (hd : Rd) (J : List ah) : List ah:=B ++ .idict (gD hd) :: J
noncomputable def yf (st sl n : Nat) : ah:=.inst 116 [("level",.int 1),("slots",.mref sl),("found",.mref n)]
structure FB (B : List ah) (st sl : Nat) (T : Fin 16) : Prop where
 st : B[st]? = some (yf st sl B.length)
 sl : ∃ kvs,B[sl]? = some (.idict kvs) ∧ ∀ s : Fin 4,(kvs.lookup (s.val : Int)).isSome = bV T s
theorem wz {R hd : Rd} (u : Uni R) (h : Hd R hd) {q : Int × Fin 4} (hq : q ∈ R) : jE (gD hd) q.1 (.int (q.2.val : Int)) = gD (kS hd q):=by
 unfold jE kS
 by_cases hm : q ∈ hd
 ·rw [if_pos hm,if_pos]
  ·unfold gD
   rw [List.map_map]
   refine List.map_congr_left fun x hx=>?_
   show (if x.1 = q.1 then (x.1,ae.int (q.2.val : Int)) else (x.1,ae.int (x.2.val : Int))) = _
   split
   ·rename_i e
    rw [u.inj (h.1 x hx) hq e]
   ·rfl
  ·rw [List.any_eq_true]
   exact ⟨(q.1,.int (q.2.val : Int)),List.mem_map.mpr ⟨q,hm,rfl⟩,by simp⟩
 ·rw [if_neg hm,if_neg]
  ·unfold gD; rw [List.map_append]; rfl
  ·rw [List.any_eq_true]
   rintro ⟨kv,hk,e⟩
   obtain ⟨x,hx,rfl⟩:=List.mem_map.mp hk
   have e' : x.1 = q.1:=of_decide_eq_true e
   exact hm (u.inj (h.1 x hx) hq e' ▸ hx)
noncomputable def mV (X T : Fin 16) : ae:=.int ((d6 X T).val : Int)
theorem d8 {B X : List ah} {i : Nat} {o : ah} (h : B[i]? = some o) : (B ++ X)[i]? = some o:=by
 rw [List.getElem?_append_left (List.getElem?_eq_some_iff.mp h).1]; exact h
section
variable {B : List ah} {hd R : Rd} {J M X : List ah} {d st sl : Nat} {T : Fin 16}
theorem kt : E B hd J ++ X = E B hd (J ++ X):=by unfold E; rw [List.append_assoc,List.cons_append]
theorem xL : (E B hd J)[B.length]? = some (.idict (gD hd)):=by unfold E; simp
theorem ER (hd' : Rd) : (E B hd J).set B.length (.idict (gD hd')) = E B hd' J:=by unfold E; simp
theorem sD : (E B hd J).length = B.length + 1 + J.length:=by unfold E; simp; exact HC
theorem nf {x : ah} : (E B hd (J ++ x :: X))[B.length + 1 + J.length]? = some x:=by
 have : E B hd (J ++ x :: X) = E B hd J ++ x :: X:=by rw [kt]
 rw [this,← sD (hd:=hd),eE]
theorem t4 {x y : ah} : (E B hd (J ++ x :: X)).set (B.length + 1 + J.length) y = E B hd (J ++ y :: X):=by
 have h1 : E B hd (J ++ x :: X) = E B hd J ++ x :: X:=by rw [kt]
 have h2 : E B hd (J ++ y :: X) = E B hd J ++ y :: X:=by rw [kt]
 rw [h1,h2,← sD (hd:=hd),ji]
theorem wY {vs : List ae} {v : ae} {Q : ae → List ah → Prop} (hs : bW vs.length = true) : W (be [.mref (B.length + 1 + J.length),v]) (E B hd (J ++ .lst vs :: X)) Q ↔ Q .none (E B hd (J ++ .lst (vs ++ [v]) :: X)):=by
 refine bI ?_
 unfold be
 dsimp only
 rw [nf]
 dsimp only
 rw [hs,if_pos rfl,t4]
theorem oU {vs : List ae} {v : ae} {Q : ae → List ah → Prop} (hs : bW vs.length = true) (xx : Q .none (E B hd (J ++ .lst (vs ++ [v]) :: X))) : W (be [.mref (B.length + 1 + J.length),v]) (E B hd (J ++ .lst vs :: X)) Q:=(wY (vs:=vs) (v:=v) (Q:=Q) (hs:=hs)).mpr xx
theorem Cg {i : Nat} {loc : Loc} {vs : List ae} {Q : ae → List ah → Prop} (h : loc[i]? = some (some (.mref (B.length + 1 + J.length)))) : W (aD (af i) loc) (E B hd (J ++ .lst vs :: X)) Q ↔ Q (.lst vs) (E B hd (J ++ .gone :: X)):=by
 rw [kI,bU h]
 constructor
 ·rintro ⟨j,mo,v,e1,e2,e3,q⟩
  cases e1
  rw [nf] at e2; cases e2; cases e3
  rw [t4] at q; exact q
 ·intro q
  refine ⟨_,_,_,rfl,nf,rfl,?_⟩
  rw [t4]; exact q
theorem ul {i : Nat} {loc : Loc} {vs : List ae} {Q : ae → List ah → Prop} (h : loc[i]? = some (some (.mref (B.length + 1 + J.length)))) (xx : Q (.lst vs) (E B hd (J ++ .gone :: X))) : W (aD (af i) loc) (E B hd (J ++ .lst vs :: X)) Q:=(Cg (i:=i) (loc:=loc) (vs:=vs) (Q:=Q) (h:=h)).mpr xx
theorem FB.getSt (f : FB B st sl T) : (E B hd J)[st]? = some (yf st sl B.length):=d8 f.st
theorem jH {i : Nat} {C : Addr} {fs : List (Str × ae)} {x : Str} {v : ae} {Q : ae → List ah → Prop} (h : M[i]? = some (.inst C fs)) (hC : cL.contains C = true) (hx : mq x fs = some v) : W (aK x (.mref i)) M Q ↔ Q v M:=by
 refine bI ?_
 unfold aK nm
 dsimp only
 rw [h]
 dsimp only
 rw [hC,if_pos rfl,hx]
theorem iB {i : Nat} {C : Addr} {fs : List (Str × ae)} {x : Str} {v : ae} {Q : ae → List ah → Prop} (h : M[i]? = some (.inst C fs)) (hC : cL.contains C = true) (hx : mq x fs = some v) (xx : Q v M) : W (aK x (.mref i)) M Q:=(jH (i:=i) (C:=C) (fs:=fs) (x:=x) (v:=v) (Q:=Q) (h:=h) (hC:=hC) (hx:=hx)).mpr xx
theorem CV {Q : Unit → List ah → Prop} (u : Uni R) (h : Hd R hd) {p : Int} {s : Fin 4} (hq : (p,s) ∈ R) : W (fI (.mref B.length) (.int p) (.int (s.val : Int))) (E B hd J) Q ↔ Q () (E B (kS hd (p,s)) J):=by
 refine bI ?_
 unfold fI
 dsimp only
 rw [xL]
 dsimp only
 rw [bi (by unfold gD; rw [List.length_map]; exact h.len u),if_pos rfl,wz (q:=(p,s)) u h hq,ER]
theorem Cq {Q : Unit → List ah → Prop} (u : Uni R) (h : Hd R hd) {p : Int} {s : Fin 4} (hq : (p,s) ∈ R) (xx : Q () (E B (kS hd (p,s)) J)) : W (fI (.mref B.length) (.int p) (.int (s.val : Int))) (E B hd J) Q:=(CV (Q:=Q) (u:=u) (h:=h) (p:=p) (s:=s) (hq:=hq)).mpr xx
theorem qj {C : Addr} {x : Str} {F : List ae → Mo ae} {o : Loc → Mo ae} {ms : Loc → Mo (List ae)} {loc : Loc} {Q : ae → List ah → Prop} {a : ae} (h1 : o loc M = some (a,M)) (h2 : pe C x a M = some ((),M)) : W (ew C x F o ms loc) M Q ↔ W (ms loc) M fun as M1=>W (F (a :: as)) M1 Q:=by
 unfold ew
 rw [ca,bI h1,ca,bI h2,ca]
theorem A2 {C : Addr} {x : Str} {F : List ae → Mo ae} {o : Loc → Mo ae} {ms : Loc → Mo (List ae)} {loc : Loc} {Q : ae → List ah → Prop} {a : ae} (h1 : o loc M = some (a,M)) (h2 : pe C x a M = some ((),M)) (xx : W (ms loc) M fun as M1=>W (F (a :: as)) M1 Q) : W (ew C x F o ms loc) M Q:=(qj (C:=C) (x:=x) (F:=F) (o:=o) (ms:=ms) (loc:=loc) (Q:=Q) (a:=a) (h1:=h1) (h2:=h2)).mpr xx
noncomputable def slI (T : Fin 16) (s : Fin 4) : Int:=if bV T s then (s.val : Int) else -1
theorem n6 {e : Nat} (he : 1 ≤ e) (f : FB B st sl T) {p : Int} {s : Fin 4} {Q : ae → List ah → Prop} : W (sem e .slot_of [.mref st,vaV p s]) (E B hd J) Q ↔ Q (.int (slI T s)) (E B hd J):=by
 obtain ⟨d,rfl⟩ : ∃ d,e = d + 1:=⟨e - 1,(oK he)⟩
 obtain ⟨kvs,hk,hm⟩:=f.sl
 have e1 : oIn (.int (s.val : Int)) (.mref sl) (E B hd J) = some (.bool (bV T s),E B hd J):=by
  unfold oIn iT
  dsimp only
  rw [show (E B hd J)[sl]? = some (.idict kvs) from d8 hk]
  dsimp only
  rw [hm s]; rfl
 rw [wW,sR (loc0:=[some (.mref st),some (vaV p s)]) (by simp) rfl]
 unfold cM
 rw [eV,kJ,ua,dN,dJ,dM,bU (v:=vaV p s) rfl]
 unfold vaV ndV
 rw [gX,dq,hZ,gl,if_pos (by decide),ua,dN,dJ,dM,dM,bU (v:=vaV p s) rfl]
 unfold vaV ndV
 rw [e7,n9,dM,bU (v:=.mref st) rfl,jH (f.getSt) rfl (v:=.int 1) rfl,pN,gl,if_pos (by decide),dN,dJ,dM,dM,bU (v:=vaV p s) rfl]
 unfold vaV ndV
 rw [e7,kG,dM,bU (v:=.mref st) rfl,jH (f.getSt) rfl (v:=.mref sl) rfl,bI e1,gl]
 unfold slI
 cases hT : bV T s with
 | true=>
  rw [if_pos rfl,if_pos rfl,gh,dM,dM,bU (v:=vaV p s) rfl]
  unfold vaV ndV
  rw [e7,kG,iI,fF]
 | false=>
  rw [if_neg (by decide),if_neg (by decide),hU,dP,gh,dM,dq,bI (a:=.int (-1)) rfl,fF]
theorem zL {e : Nat} (he : 1 ≤ e) (f : FB B st sl T) {p : Int} {s : Fin 4} {Q : ae → List ah → Prop} (xx : Q (.int (slI T s)) (E B hd J)) : W (sem e .slot_of [.mref st,vaV p s]) (E B hd J) Q:=(n6 (e:=e) (he:=he) (f:=f) (p:=p) (s:=s) (Q:=Q)).mpr xx
theorem isF (f : FB B st sl T) : pe 116 "slot_of" (.mref st) (E B hd J) = some ((),E B hd J):=by
 unfold pe nm
 dsimp only
 rw [f.getSt]
 rfl
theorem zi : ∀ (Y : Fin 16) (s : Fin 4),Builtin.bitAnd ((Y.val : Int).fdiv (2 ^ (s.val : Int).toNat)) 1 = if bV Y s then 1 else 0:=by decide
theorem xC : ∀ (X T : Fin 16) (s : Fin 4),Builtin.bitOr ((d6 X T).val : Int) (1 * 2 ^ (s.val : Int).toNat) = if bV T s then ((d6 (dH X s) T).val : Int) else Builtin.bitOr ((d6 X T).val : Int) (1 * 2 ^ (s.val : Int).toNat):=by decide
theorem zN : ∀ (X T : Fin 16) (s : Fin 4),bV T s = false → d6 (dH X s) T = d6 X T:=by decide
theorem s5 : ∀ (X Y T : Fin 16),Builtin.bitAnd ((d6 X T).val : Int) ((d6 Y T).val : Int) = ((d6 (d6 X Y) T).val : Int):=by decide
theorem yR : ∀ (Y T : Fin 16),Builtin.bitAnd (-1) ((d6 Y T).val : Int) = ((d6 (d6 15 Y) T).val : Int):=by decide
theorem zd {e : Nat} (he : 2 ≤ e) (f : FB B st sl T) {p : Int} {s : Fin 4} {X : Fin 16} (u : Uni R) (h : Hd R hd) (hq : (p,s) ∈ R) {Q : ae → List ah → Prop}
  (k : ∀ v hd',Hd R hd' → (∀ q,q ∈ hd' ↔ q ∈ hd ∨ q ∈ dT X [(p,s)] ∧ bV T q.2 = true) → Q v (E B hd' J)) : W (sem e .f_used [.mref st,vaV p s,mV X T]) (E B hd J) Q:=by
 obtain ⟨d,rfl⟩ : ∃ d,e = d + 1:=⟨e - 1,(Am he)⟩
 rw [Dx]
 refine bK (loc0:=[some (.mref st),some (vaV p s),some (mV X T),none]) (by simp) rfl ?_
 unfold n5
 refine aB (aP (A2 (a:=.mref st) rfl (isF f) (wr rfl (zL (yK he) f (aj (cH (io (wr rfl ?_))))))))
 unfold slI
 cases hT : bV T s with
 | false=>
  simp only [Bool.false_eq_true,if_false]
  refine ifn (by decide) (cA (eC ?_))
  refine k _ _ h fun q=>⟨.inl,fun a=>a.elim id fun a=>?_⟩
  rw [List.mem_singleton.mp (fu a.1),hT] at a
  cases a.2
 | true=>
  simp only [if_true]
  have bit : ∀ (M : List ah) (Q : ae → List ah → Prop),W (zY (mV X T) (.int (s.val : Int))) M (fun a M2=>W (mx a (.int 1)) M2 Q) ↔ Q (.int (if bV (d6 X T) s then 1 else 0)) M:=fun M Q=>by
   unfold zY mx i2i mV
   dsimp only
   rw [if_pos (by rw [decide_eq_true_eq]; exact HM),cb]
   dsimp only
   rw [if_pos (show sV _ _ = true from rfl),cb,zi]
  refine ifp (by rw [decide_eq_true_eq]; exact E4) (bM (aT (aT (aT (ao (v:=mV X T) rfl (ao (v:=.int (s.val : Int)) rfl ?_))))))
  simp only [dq]
  rw [bit]
  refine eH (b7 ?_)
  rw [cS,hT,Bool.and_true]
  cases hX : bV X s with
  | true=>
   simp only [if_true]
   refine ifn (by decide) (cA (eC ?_))
   refine k _ _ h fun q=>⟨.inl,fun a=>a.elim id fun a=>?_⟩
   have a1:=kz.mp a.1
   rw [List.mem_singleton.mp a1.1,hX] at a1
   cases a1.2
  | false=>
   simp only [Bool.false_eq_true,if_false]
   refine ifp (by decide) (mF (ao (v:=.int (s.val : Int)) rfl (ba (ao (v:=.mref st) rfl (iB f.getSt rfl (v:=.mref B.length) rfl (ba (ao (v:=vaV p s) rfl ?_)))))))
   unfold vaV ndV
   refine rW (Cq u h hq (eC ?_))
   refine k _ _ (h.ins hq) fun q=>?_
   rw [qC,kz,List.mem_singleton]
   constructor
   ·rintro (a | a)
    ·exact .inl a
    ·subst a; exact .inr ⟨⟨rfl,hX⟩,hT⟩
   ·rintro (a | a)
    ·exact .inl a
    ·exact .inr a.1.1
theorem Be {e : Nat} (he : 2 ≤ e) (f : FB B st sl T) {p : Int} {s : Fin 4} {X : Fin 16} {Q : ae → List ah → Prop} : W (sem e .f_with_store [.mref st,vaV p s,mV X T]) (E B hd J) Q ↔ Q (mV (dH X s) T) (E B hd J):=by
 obtain ⟨d,rfl⟩ : ∃ d,e = d + 1:=⟨e - 1,(Am he)⟩
 rw [qf,sR (loc0:=[some (.mref st),some (vaV p s),some (mV X T),none]) (by simp) rfl]
 unfold eK
 rw [eV,vF,dN,dJ,dM,bU (v:=vaV p s) rfl]
 unfold vaV ndV
 rw [gX,dq,hZ,gl,if_neg (by decide),dP,eV,u3,qj (a:=.mref st) rfl (isF f),fE,bU (v:=vaV p s) rfl,fO,n6 (yK he) f,dP,eV,kJ,dN,dJ,bU (v:=.int (slI T s)) rfl,dq,Eb,gl]
 unfold slI
 cases hT : bV T s with
 | false=>
  simp only [Bool.false_eq_true,if_false]
  rw [if_pos (by decide),gh,bU (v:=mV X T) rfl,iI,fF]
  unfold mV
  rw [zN X T s hT]
 | true=>
  simp only [if_true]
  have bit : ∀ (M : List ah) (Q : ae → List ah → Prop),W (Bd (.int 1) (.int (s.val : Int))) M (fun a M2=>W (oOr (mV X T) a) M2 Q) ↔ Q (mV (dH X s) T) M:=fun M Q=>by
   have hs:=s.isLt
   unfold Bd oOr i2i mV
   dsimp only
   rw [if_pos (by rw [Bool.and_eq_true,Bool.and_eq_true,decide_eq_true_eq,decide_eq_true_eq]; exact ⟨⟨(Ko hs),(Hj hs)⟩,rfl⟩),cb]
   dsimp only
   rw [if_pos (show sV _ _ = true from rfl),cb,xC,hT,if_pos rfl]
  rw [if_neg (by rw [decide_eq_true_eq]; exact fun a=>Gk a),hU,dP,gh,dJ,bU (v:=mV X T) rfl,dJ,dq,bU (v:=.int (s.val : Int)) rfl,bit,fF]
theorem mA {e : Nat} (he : 2 ≤ e) (f : FB B st sl T) {p : Int} {s : Fin 4} {X : Fin 16} {Q : ae → List ah → Prop} (xx : Q (mV (dH X s) T) (E B hd J)) : W (sem e .f_with_store [.mref st,vaV p s,mV X T]) (E B hd J) Q:=(Be (e:=e) (he:=he) (f:=f) (p:=p) (s:=s) (X:=X) (Q:=Q)).mpr xx
theorem rS {e : Nat} (he : 2 ≤ e) (f : FB B st sl T) {p : Int} {s : Fin 4} {x : ae} {Q : ae → List ah → Prop} : W (sem e .f_place_uses [.mref st,vaV p s,x]) (E B hd J) Q ↔ Q x (E B hd J):=by
 obtain ⟨d,rfl⟩ : ∃ d,e = d + 1:=⟨e - 1,(Am he)⟩
 rw [qk,sR (loc0:=[some (.mref st),some (vaV p s),some x,none]) (by simp) rfl]
 unfold eM
 rw [eV,kJ,dN,dJ,qj (a:=.mref st) rfl (isF f),fE,bU (v:=vaV p s) rfl,fO,n6 (yK he) f,dq,Fa,gl]
 unfold slI
 cases hT : bV T s with
 | false=>
  simp only [Bool.false_eq_true,if_false]
  rw [if_neg (by decide),hU,dP,p7 (i:=1) (op := "var") rfl,if_pos rfl,gh,bU (v:=x) rfl,iI,fF]
 | true=>
  simp only [if_true]
  rw [if_pos (by rw [decide_eq_true_eq]; exact E4),gh,bU (v:=x) rfl,iI,fF]
theorem gn {e : Nat} (he : 2 ≤ e) (f : FB B st sl T) {p : Int} {s : Fin 4} {x : ae} {Q : ae → List ah → Prop} (xx : Q x (E B hd J)) : W (sem e .f_place_uses [.mref st,vaV p s,x]) (E B hd J) Q:=(rS (e:=e) (he:=he) (f:=f) (p:=p) (s:=s) (x:=x) (Q:=Q)).mpr xx
end
end Mine
end
section
open PySem PySem.W PySem.Spec PySem.Calls PySem.SeqAt PyProof.Rows
namespace Mine
section
variable {B : List ah} {hd R : Rd} {J M : List ah} {d st sl : Nat} {T : Fin 16}
theorem vI {i : Nat} {x y op : Str} {p ty ks v : ae} {body rest : Loc → Mo (Fl × Loc)} {loc : Loc} {Q : Fl × Loc → List ah → Prop} (h : loc[i]? = some (some (.inst 32 (ndF op p ty ks v)))) :
  W (au (sIf (tOr (a6 (aE oEq (aS (aK "op") (af i)) (ar (.str x)))) (a6 (aE oEq (aS (aK "op") (af i)) (ar (.str y))))) body bD) rest loc) M Q ↔ if op = x ∨ op = y then W (body loc) M (jf rest Q) else W (rest loc) M Q:=by
 rw [eV,kJ,BD,dN,dJ,dM,bU h,gX,dq,hZ,gl]
 by_cases hx : op = x
 ·simp only [hx,decide_true,if_true,true_or]
 ·simp only [hx,decide_false,Bool.false_eq_true,if_false,false_or]
  rw [dN,dJ,dM,bU h,gX,dq,hZ,gl]
  by_cases hy : op = y
  ·simp only [hy,decide_true,if_true]
  ·simp only [hy,decide_false,Bool.false_eq_true,if_false]
   rw [hU]; rfl
theorem vW {i : Nat} {x y op : Str} {p ty ks v : ae} {body rest : Loc → Mo (Fl × Loc)} {loc : Loc} {Q : Fl × Loc → List ah → Prop} (h : loc[i]? = some (some (.inst 32 (ndF op p ty ks v)))) (xx : if op = x ∨ op = y then W (body loc) M (jf rest Q) else W (rest loc) M Q) : W (au (sIf (tOr (a6 (aE oEq (aS (aK "op") (af i)) (ar (.str x)))) (a6 (aE oEq (aS (aK "op") (af i)) (ar (.str y))))) body bD) rest loc) M Q:=(vI (i:=i) (x:=x) (y:=y) (op:=op) (p:=p) (ty:=ty) (ks:=ks) (v:=v) (body:=body) (rest:=rest) (loc:=loc) (Q:=Q) (h:=h)).mpr xx
theorem AV {i : Nat} {x v : Str} {body rest : Loc → Mo (Fl × Loc)} {loc : Loc} {Q : Fl × Loc → List ah → Prop} (h : loc[i]? = some (some (.str v))) :
  W (au (sIf (a6 (aE oEq (af i) (ar (.str x)))) body bD) rest loc) M Q ↔ if v = x then W (body loc) M (jf rest Q) else W (rest loc) M Q:=by
 rw [eV,kJ,dN,dJ,bU h,dq,hZ,gl]
 by_cases hx : v = x
 ·simp only [hx,decide_true,if_true]
 ·simp only [hx,decide_false,Bool.false_eq_true,if_false]
  rw [hU]; rfl
theorem a9 {i : Nat} {x v : Str} {body rest : Loc → Mo (Fl × Loc)} {loc : Loc} {Q : Fl × Loc → List ah → Prop} (h : loc[i]? = some (some (.str v))) (xx : if v = x then W (body loc) M (jf rest Q) else W (rest loc) M Q) : W (au (sIf (a6 (aE oEq (af i) (ar (.str x)))) body bD) rest loc) M Q:=(AV (i:=i) (x:=x) (v:=v) (body:=body) (rest:=rest) (loc:=loc) (Q:=Q) (h:=h)).mpr xx
theorem zU : ∀ op ∈ g7,¬ op = "call" := by decide
theorem cF {v : ae} {r : Rd} {m : Nat} (i : IsV v r m) : ∀ {e : Nat} {hd : Rd} {X : Fin 16} {Q : ae → List ah → Prop},m + 3 ≤ e → FB B st sl T → Uni R → (∀ q ∈ r,q ∈ R) → Hd R hd →
  (∀ hd',Hd R hd' → (∀ q,q ∈ hd' ↔ q ∈ hd ∨ q ∈ dT X r ∧ bV T q.2 = true) → Q (mV X T) (E B hd' J)) → W (sem e .f_value_uses [.mref st,v,mV X T]) (E B hd J) Q:=by
 induction i with
 | var p s m=>
  intro e hd X Q he f u hr h k
  obtain ⟨d,rfl⟩ : ∃ d,e = d + 1:=⟨e - 1,(EU he)⟩
  rw [fQ]
  refine bK (loc0:=[some (.mref st),some (vaV p s),some (mV X T),none]) (by simp) rfl ?_
  unfold cT
  refine bg (i:=1) (op := "var") rfl (ifp rfl (aB (bu (aA (wr rfl ?_)))))
  refine zd (Gv he) f u h (hr _ List.mem_cons_self) fun v hd' h' mm=>?_
  refine aj (a8 (ao (v:=mV X T) rfl (aX (aF ?_))))
  exact k hd' h' mm
 | cst p m=>
  intro e hd X Q he f u hr h k
  obtain ⟨d,rfl⟩ : ∃ d,e = d + 1:=⟨e - 1,(EU he)⟩
  rw [fQ]
  refine bK (loc0:=[some (.mref st),some (ndV "const" p dE [] (.int 1)),some (mV X T),none]) (by simp) rfl ?_
  unfold cT
  refine bg (i:=1) (op := "const") rfl (ifn (by decide) (vW (i:=1) (op := "const") rfl (ifn (by decide) (bg (i:=1) (op := "const") rfl (ifn (by decide) (aB (ci (ba (ao (v:=ndV "const" p dE [] (.int 1)) rfl ?_)))))))))
  unfold ndV
  refine ic ?_
  refine ⟨_,rfl,?_⟩
  refine bN (aj (a8 (ao (v:=mV X T) rfl (aF ?_))))
  exact k hd h fun q=>⟨.inl,fun a=>a.elim id fun a=>by cases a.1⟩
 | @bin op p ty l r a b m ho h1 h2 i1 i2=>
  intro e hd X Q he f u hr h k
  obtain ⟨d,rfl⟩ : ∃ d,e = d + 1:=⟨e - 1,(GS he)⟩
  have fin : ∀ hd1 hd2 : Rd,(∀ q,q ∈ hd1 ↔ q ∈ hd ∨ q ∈ dT X a ∧ bV T q.2 = true) → (∀ q,q ∈ hd2 ↔ q ∈ hd1 ∨ q ∈ dT X b ∧ bV T q.2 = true) → ∀ q,q ∈ hd2 ↔ q ∈ hd ∨ q ∈ dT X (a ++ b) ∧ bV T q.2 = true:=fun hd1 hd2 m1 m2 q=>by
   rw [m2 q,m1 q,nR,List.mem_append,or_and_right,or_assoc]
  rw [fQ]
  refine bK (loc0:=[some (.mref st),some (ndV op p ty [l,r] .none),some (mV X T),none]) (by simp) rfl ?_
  unfold cT
  refine bg (i:=1) (op:=op) rfl (ifn (xA op ho) (vW (i:=1) (op:=op) rfl ?_))
  by_cases hc : op = "&" ∨ op = "OR"
  ·refine ifp hc (aB (aP (aA (ag (ao (v:=.mref st) rfl (ag (aT (ba (ao (v:=ndV op p ty [l,r] .none) rfl ?_)))))))))
   unfold ndV
   refine ic (aR (dA (x:=0) 0 rfl rfl (by decide) (wr rfl ?_)))
   refine i1 (AU he) f u (fun q hq=>hr q (List.mem_append_left _ hq)) h fun hd1 k1 m1=>?_
   refine aj (aB (bu (aA (ag (ao (v:=.mref st) rfl (ag (aT (ba (ao (v:=ndV op p ty [l,r] .none) rfl ?_)))))))))
   unfold ndV
   refine ic (aR (dA (x:=1) 1 rfl rfl (by decide) (wr rfl ?_)))
   refine i2 (AU he) f u (fun q hq=>hr q (List.mem_append_right _ hq)) k1 fun hd2 k2 m2=>?_
   refine aj (a8 (ao (v:=mV X T) rfl (aX (aF ?_))))
   exact k hd2 k2 (fin hd1 hd2 m1 m2)
  ·refine ifn hc (bg (i:=1) (op:=op) rfl (ifn (zU op ho) (aB (ci (ba (ao (v:=ndV op p ty [l,r] .none) rfl ?_))))))
   unfold ndV
   refine ic ?_
   refine ⟨_,rfl,?_⟩
   refine aY (aP (aA (wr rfl ?_)))
   refine i1 (AU he) f u (fun q hq=>hr q (List.mem_append_left _ hq)) h fun hd1 k1 m1=>?_
   dsimp only
   refine aY (aP (aA (wr rfl ?_)))
   refine i2 (AU he) f u (fun q hq=>hr q (List.mem_append_right _ hq)) k1 fun hd2 k2 m2=>?_
   dsimp only
   refine bN (aj (a8 (ao (v:=mV X T) rfl (aF ?_))))
   exact k hd2 k2 (fin hd1 hd2 m1 m2)
theorem zo {l : Loc → Mo ae} {loc : Loc} {a : ae} {vs : List ae} {Q : ae → List ah → Prop} (h : W (l loc) M fun x M1=>x = .lst (a :: vs) ∧ M1 = M) (hl : vs.length ≤ 1000) : W (aD (gY 1 l) loc) M Q ↔ Q (.lst vs) (M ++ [.gone]):=by
 obtain ⟨x,M1,h0,rfl,rfl⟩:=h
 have e : gY 1 l loc M1 = some (.mref M1.length,M1 ++ [.lst vs]):=by
  unfold gY
  rw [q6 h0]
  unfold cz
  dsimp only
  rw [bi (by rw [List.length_cons]; exact CR hl),if_pos rfl]
  rfl
 rw [kI,bI e]
 constructor
 ·rintro ⟨j,mo,v,e1,e2,e3,q⟩
  cases e1
  rw [bH] at e2; cases e2; cases e3
  rw [cB] at q; exact q
 ·intro q
  refine ⟨_,_,_,rfl,bH,rfl,?_⟩
  rw [cB]; exact q
theorem rg {l : Loc → Mo ae} {loc : Loc} {a : ae} {vs : List ae} {Q : ae → List ah → Prop} (h : W (l loc) M fun x M1=>x = .lst (a :: vs) ∧ M1 = M) (hl : vs.length ≤ 1000) (xx : Q (.lst vs) (M ++ [.gone])) : W (aD (gY 1 l) loc) M Q:=(zo (l:=l) (loc:=loc) (a:=a) (vs:=vs) (Q:=Q) (h:=h) (hl:=hl)).mpr xx
theorem AG {n k m : Str} {ty v : ae} {l s : Int} {Q : ae → List ah → Prop} : W (aK "kind" (obV n k ty l m v s)) M Q ↔ Q (.str k) M:=bI (by kernel_rfl)
theorem vE {n k m : Str} {ty v : ae} {l s : Int} {Q : ae → List ah → Prop} (xx : Q (.str k) M) : W (aK "kind" (obV n k ty l m v s)) M Q:=(AG (n:=n) (k:=k) (m:=m) (ty:=ty) (v:=v) (l:=l) (s:=s) (Q:=Q)).mpr xx
theorem wT {Q : ae → List ah → Prop} : W (aK "params" dG) M Q ↔ Q (.lst [obV "x" "par" dE 0 "" .none 0,obV "y" "var" dE 0 "" .none 0]) M:=bI (by kernel_rfl)
theorem wP {Q : ae → List ah → Prop} (xx : Q (.lst [obV "x" "par" dE 0 "" .none 0,obV "y" "var" dE 0 "" .none 0]) M) : W (aK "params" dG) M Q:=(wT (Q:=Q)).mpr xx
theorem rE {e : Nat} (he : 1 ≤ e) {pc : Int} {a x : ae} {Q : ae → List ah → Prop} : W (sem e .f_value_uses [a,ndV "proc" pc dG [] fk,x]) M Q ↔ Q x M:=by
 obtain ⟨d,rfl⟩ : ∃ d,e = d + 1:=⟨e - 1,(oK he)⟩
 rw [fQ,sR (loc0:=[some a,some (ndV "proc" pc dG [] fk),some x,none]) (by simp) rfl]
 unfold cT
 rw [p7 (i:=1) (op := "proc") rfl,if_neg (by decide),vI (i:=1) (op := "proc") rfl,if_neg (by decide),p7 (i:=1) (op := "proc") rfl,if_neg (by decide),eV,yc,dM,bU (v:=ndV "proc" pc dG [] fk) rfl]
 rw [show ndV "proc" pc dG [] fk = .inst 32 (ndF "proc" (.int pc) dG (.lst []) fk) from rfl,eg]
 constructor
 ·rintro ⟨as,e,h⟩
  cases e
  rw [f9,dP,gh,bU (v:=x) rfl,fF] at h
  exact h
 ·intro h
  refine ⟨_,rfl,?_⟩
  refine bN (aj (a8 (ao (v:=x) rfl (aF ?_))))
  exact h
theorem sw {e : Nat} (he : 1 ≤ e) {pc : Int} {a x : ae} {Q : ae → List ah → Prop} (xx : Q x M) : W (sem e .f_value_uses [a,ndV "proc" pc dG [] fk,x]) M Q:=(rE (e:=e) (he:=he) (pc:=pc) (a:=a) (x:=x) (Q:=Q)).mpr xx
theorem vc {e : Nat} {at_ pc p : Int} {s : Fin 4} {v : ae} {r : Rd} {X : Fin 16} {Q : ae → List ah → Prop} (iv : IsV v r 3) (he : 7 ≤ e) (f : FB B st sl T) (u : Uni R) (hr : ∀ q ∈ r,q ∈ R) (h : Hd R hd)
  (k : ∀ hd' J',Hd R hd' → (∀ q,q ∈ hd' ↔ q ∈ hd ∨ q ∈ dT X r ∧ bV T q.2 = true) → Q (mV (dH X s) T) (E B hd' (J ++ J'))) :
  W (sem e .f_call_uses [.mref st,ndV "call" at_ .none [ndV "proc" pc dG [] fk,vaV p s,v] .none,mV X T]) (E B hd J) Q:=by
 obtain ⟨d,rfl⟩ : ∃ d,e = d + 1:=⟨e - 1,(Ff he)⟩
 generalize hnd : ndV "call" at_ .none [ndV "proc" pc dG [] fk,vaV p s,v] .none = nd
 have gk : ∀ (M : List ah) (Q : ae → List ah → Prop),W (aK "kids" nd) M Q ↔ Q (.lst [ndV "proc" pc dG [] fk,vaV p s,v]) M:=fun M Q=>by subst hnd; exact eg
 rw [rD]
 refine bK (loc0:=[some (.mref st),some nd,some (mV X T),none,none,none,none,none]) (by simp) rfl ?_
 unfold fz
 refine aB (aP (aT (ba (ao (v:=nd) rfl (ii (gk _ _) (aR (dA (x:=0) 0 rfl rfl (by decide) (aj (aB (aP (aA (wr rfl ?_))))))))))))
 refine sw (Kp he) (aj (aB (aP (ba (ba (ao (v:=ndV "proc" pc dG [] fk) rfl ?_))))))
 rw [show ndV "proc" pc dG [] fk = .inst 32 (ndF "proc" (.int pc) dG (.lst []) fk) from rfl]
 refine Bp (wP ?_)
 generalize hps : ([obV "x" "par" dE 0 "" .none 0,obV "y" "var" dE 0 "" .none 0] : List ae) = ps
 refine aj (aB (aP (cU (av ?_))))
 refine ⟨rfl,?_⟩
 rw [sD,kt]
 refine aj (aB (ci (aA (ag (aT (aA (ag (ba (ao (v:=nd) rfl (ii (gk _ _) (av (gi (by simp) (aR (vm (av (kg ?_))))))))))))))))
 refine ⟨[.int 0,.int 1],by kernel_rfl,?_⟩
 refine aY (aB (aP (aT (ba (ao (v:=nd) rfl (ii (gk _ _) (aT (ao (v:=.int 0) rfl (aR (fJ (dA (x:=0 + 1) 1 rfl rfl (by decide) (aj (cH (io (bM (aT (ba (aT (ao (v:=.lst ps) rfl (ao (v:=.int 0) rfl (dA (x:=0) 0 rfl (v:=obV "x" "par" dE 0 "" .none 0) (by subst hps; rfl) (by decide) (vE (aR (ig (b7 (ifp (by decide) (bM (aT (ba (ao (v:=vaV p s) rfl ?_))))))))))))))))))))))))))))))
 rw [show vaV p s = .inst 32 (ndF "var" (.int p) dE (.lst []) (c8 s)) from rfl]
 refine nz (aR (v8 (b7 (ifp (by decide) (aB (aP (aA (wr rfl ?_))))))))
 rw [show (.inst 32 (ndF "var" (.int p) dE (.lst []) (c8 s)) : ae) = vaV p s from rfl]
 refine gn (yM he) f (aj (bu (cr (ao (v:=.mref (B.length + 1 + J.length)) rfl ?_))))
 refine ⟨_,_,rfl,nf,?_⟩
 refine wr rfl (oU (bi (by decide)) ?_)
 dsimp only
 refine aY (aB (aP (aT (ba (ao (v:=nd) rfl (ii (gk _ _) (aT (ao (v:=.int 1) rfl (aR (fJ (dA (x:=1 + 1) 2 rfl rfl (by decide) (aj (cH (io (bM (aT (ba (aT (ao (v:=.lst ps) rfl (ao (v:=.int 1) rfl (dA (x:=1) 1 rfl (v:=obV "y" "var" dE 0 "" .none 0) (by subst hps; rfl) (by decide) (vE (aR (ig (b7 (ifn (by decide) (ifn (by decide) (aP (aA (ag (ao (v:=.mref st) rfl (ag (ao (v:=v) rfl (ag (ao (v:=mV X T) rfl (av ?_))))))))))))))))))))))))))))))))))))
 refine cF iv (Fw he) f u hr h fun hd1 h1 m1=>?_
 dsimp only
 refine bN (aj (aB (ci (ul rfl ?_))))
 refine ⟨_,rfl,?_⟩
 rw [List.nil_append]
 refine aY (aP (aA (wr rfl (mA (yM he) f ?_))))
 dsimp only
 refine bN (aj (a8 (ao (v:=mV (dH X s) T) rfl (aF ?_))))
 exact k hd1 _ h1 m1
theorem wu {e : Nat} {at_ p : Int} {s : Fin 4} {v : ae} {r : Rd} {X : Fin 16} {Q : ae → List ah → Prop} (iv : IsV v r 3) (he : 7 ≤ e) (f : FB B st sl T) (u : Uni R) (hr : ∀ q ∈ (p,s) :: r,q ∈ R) (h : Hd R hd)
  (k : ∀ hd' J',Hd R hd' → (∀ q,q ∈ hd' ↔ q ∈ hd ∨ q ∈ dT X r ++ dT X [(p,s)] ∧ bV T q.2 = true) → Q (mV (dH X s) T) (E B hd' (J ++ J'))) :
  W (sem e .f_std_uses [.mref st,ndV "std" at_ .none [vaV p s,v] (.str "INC"),mV X T]) (E B hd J) Q:=by
 obtain ⟨d,rfl⟩ : ∃ d,e = d + 1:=⟨e - 1,(Ff he)⟩
 generalize hnd : ndV "std" at_ .none [vaV p s,v] (.str "INC") = nd
 have gk : ∀ (M : List ah) (Q : ae → List ah → Prop),W (aK "kids" nd) M Q ↔ Q (.lst [vaV p s,v]) M:=fun M Q=>by subst hnd; exact eg
 have gv : ∀ (M : List ah) (Q : ae → List ah → Prop),W (aK "value" nd) M Q ↔ Q (.str "INC") M:=fun M Q=>by subst hnd; exact e7
 rw [uA]
 refine bK (loc0:=[some (.mref st),some nd,some (mV X T),none,none]) (by simp) rfl ?_
 unfold f0
 refine aB (aP (aT (ba (ao (v:=nd) rfl (ii (gk _ _) (aR (dA (x:=0) 0 rfl rfl (by decide) (aj (aB (cH (bM (aT (ba (ao (v:=nd) rfl (ii (gv _ _) (aR (ig (b7 (ifn (by decide) (cA (aj (aB (aP (aA (wr rfl (gn (yM he) f (aj (aB (ci (rg (a:=vaV p s) (vs:=[v]) (by rw [dM,bU (v:=nd) rfl,gk]; exact ⟨rfl,rfl⟩) (by simp) ?_))))))))))))))))))))))))))))))
 refine ⟨_,rfl,?_⟩
 rw [kt]
 refine aY (aP (aA (wr rfl ?_)))
 refine cF iv (Fw he) f u (fun q hq=>hr q (List.mem_cons_of_mem _ hq)) h fun hd1 h1 m1=>?_
 dsimp only
 refine bN (aj (aB (cH (bM (aT (ba (ao (v:=nd) rfl (ii (gv _ _) (aR (v8 (b7 (ifp (by decide) (bu (aA (wr rfl ?_)))))))))))))))
 refine zd (yM he) f u h1 (hr _ List.mem_cons_self) fun _ hd2 h2 m2=>?_
 refine aj (a8 (aA (wr rfl (mA (yM he) f (aF ?_)))))
 exact k hd2 _ h2 fun q=>by rw [m2 q,m1 q,List.mem_append,or_and_right,or_assoc]
end
end Mine
end
section
open PySem PySem.W PySem.Spec PySem.Calls PySem.SeqAt PyProof.Rows
namespace Mine
noncomputable def FS (n : Nat) (v : ae) (F : Den) (r : Rd) : Prop:=∀ {e : Nat} {R : Rd} {B : List ah} {st sl : Nat} {T : Fin 16} {hd : Rd} {J : List ah} {X : Fin 16} {Q : ae → List ah → Prop},n ≤ e → FB B st sl T → Uni R → (∀ q ∈ r,q ∈ R) → Hd R hd →
 (∀ hd' J',Hd R hd' → (∀ q,q ∈ hd' ↔ q ∈ hd ∨ q ∈ (F X).2 ∧ bV T q.2 = true) → Q (mV (F X).1 T) (E B hd' (J ++ J'))) → W (sem e .f_statement_uses [.mref st,v,mV X T]) (E B hd J) Q
noncomputable def zA (h : Nat) : Prop:=∀ v F r,IsS v F r h → FS (3 * h + 10) v F r
noncomputable def wA (h : Nat) : Prop:=∀ v F r,IsB v F r h → FS (3 * h + 11) v F r
section
variable {B : List ah} {hd R : Rd} {J M : List ah} {d st sl : Nat} {T : Fin 16}
theorem Bn {h : Nat} (ws : zA h) (he : 3 * h + 10 ≤ d) (f : FB B st sl T) (u : Uni R) (x y : ae) {Q : Fl × Loc → List ah → Prop} : ∀ {as : List ae} {F : Den} {r : Rd},IsL as F r h → ∀ (hd : Rd) (J : List ah) (X : Fin 16) (z : Option ae),(∀ q ∈ r,q ∈ R) → Hd R hd →
  (∀ hd' J' z,Hd R hd' → (∀ q,q ∈ hd' ↔ q ∈ hd ∨ q ∈ (F X).2 ∧ bV T q.2 = true) → Q (.next,[some (.mref st),some x,some (mV (F X).1 T),some y,z]) (E B hd' (J ++ J'))) →
  W (dU 4 (a7 2 (aq (sem d .f_statement_uses) (ab (af 0) (ab (af 4) (ab (af 2) am))))) as [some (.mref st),some x,some (mV X T),some y,z]) (E B hd J) Q:=by
 intro as0 F0 r0 i0
 refine IsL.ind ?_ ?_ i0
 ·intro hd J X z hr hh k
  refine bN ?_
  have:=k hd [] z hh fun q=>⟨.inl,fun a=>a.elim id fun a=>by cases a.1⟩
  rw [List.append_nil] at this
  exact this
 ·intro a _ _ _ _ _ i j ih hd J X z hr hh k
  refine aY (aP (aA (wr rfl ?_)))
  refine ws _ _ _ i he f u (fun q hq=>hr q (List.mem_append_left _ hq)) hh fun hd1 J1 h1 m1=>?_
  refine ih hd1 _ _ (some a) (fun q hq=>hr q (List.mem_append_right _ hq)) h1 fun hd2 J2 z2 h2 m2=>?_
  rw [List.append_assoc]
  refine k hd2 (J1 ++ J2) z2 h2 fun q=>?_
  rw [m2 q,m1 q]
  unfold wv
  dsimp only
  rw [List.mem_append,or_and_right,or_assoc]
theorem vL {h : Nat} (ws : zA h) : wA h:=by
 intro v F r i
 intro e R B st sl T hd J X Q he f u hr hh k
 cases i with
 | @mk p kids _ _ _ i=>
  obtain ⟨d,rfl⟩ : ∃ d,e = d + 1:=⟨e - 1,(JU he)⟩
  rw [bQ]
  refine bK (loc0:=[some (.mref st),some (ndV "block" p .none kids .none),some (mV X T),none,none]) (by simp) rfl ?_
  unfold bj ndV
  refine xt rfl (a9 (i:=3) (v := "block") rfl (ifp rfl (aB (ci (wr rfl ?_)))))
  refine ⟨_,rfl,Bn ws (Ib he) f u _ _ i _ _ X none hr hh fun hd' J' z h' m'=>?_⟩
  refine aj (a8 (ao (v:=mV (F X).1 T) rfl (aX (aF ?_))))
  exact k hd' J' h' m'
theorem v9 {h : Nat} (wb : wA h) (he : 3 * h + 11 ≤ d) (f : FB B st sl T) (u : Uni R) (nd : ae) (kids : List ae) (hk : kids.length ≤ 10) (gk : ∀ (M : List ah) (Q : ae → List ah → Prop),W (aK "kids" nd) M Q ↔ Q (.lst kids) M) (J : List ah) (X : Fin 16) {Q : Fl × Loc → List ah → Prop} : ∀ {as : List ae} {Fs : List (Rd × Den)} {r : Rd},cE as Fs r h → ∀ (hd : Rd) (es : List ae) (J2 : List ah) (z : Option ae) (pre post : List ae) (n : Nat),kids = pre ++ as ++ post → pre.length = 2 * n → es.length + Fs.length ≤ 100 → (∀ q ∈ r,q ∈ R) → Hd R hd →
  (∀ hd' J' z,Hd R hd' → (∀ q,q ∈ hd' ↔ q ∈ hd ∨ q ∈ Fs.flatMap (ix X) ∧ bV T q.2 = true) → Q (.next,[some (.mref st),some nd,some (mV X T),some (.mref (B.length + 1 + J.length)),z,none]) (E B hd' (J ++ .lst (es ++ Fs.map fun q=>mV (q.2 X).1 T) :: J'))) →
  W (dU 4 (au (a7 2 (aq (sem d .f_value_uses) (ab (af 0) (ab (aE aV (aS (aK "kids") (af 1)) (af 4)) (ab (af 2) am))))) (bx (bF be (af 3) (ab (aq (sem d .f_statement_uses) (ab (af 0) (ab (aE aV (aS (aK "kids") (af 1)) (aE eF (af 4) (ar (.int 1)))) (ab (af 2) am)))) am))))
   ((List.range' n Fs.length).map fun (i : Nat)=>ae.int ((2 * i : Nat) : Int)) [some (.mref st),some nd,some (mV X T),some (.mref (B.length + 1 + J.length)),z,none]) (E B hd (J ++ .lst es :: J2)) Q:=by
 intro as0 F0 r0 i0
 refine cE.ind ?_ ?_ i0
 ·intro hd es J2 z pre post n e1 e2 l hr hh k
  rw [show (List.range' n ([] : List (Rd × Den)).length).map (fun (i : Nat)=>ae.int ((2 * i : Nat) : Int)) = [] from rfl]
  refine bN ?_
  have:=k hd J2 z hh fun q=>⟨.inl,fun a=>a.elim id fun a=>by cases a.1⟩
  rw [List.map_nil,List.append_nil] at this
  exact this
 ·intro t b rt rb _ F as Fs i j ia ih hd es J2 z pre post n e1 e2 l hr hh k
  rw [List.length_cons] at l
  have l1:=congrArg List.length e1
  rw [List.length_append,List.length_append,List.length_cons,List.length_cons] at l1
  have g0 : kids[2 * n]? = some t:=by rw [e1,List.append_assoc,List.getElem?_append_right (z3 e2),e2,Nat.sub_self]; rfl
  have g1 : kids[2 * n + 1]? = some b:=by rw [e1,List.append_assoc,List.getElem?_append_right (by exact AM e2),e2,show 2 * n + 1 - 2 * n = 1 by exact Ax]; rfl
  rw [List.length_cons,List.range'_succ,List.map_cons]
  refine aY (aB (aP (aA (ag (ao (v:=.mref st) rfl (ag (aT (ba (ao (v:=nd) rfl (ii (gk _ _) (ao (v:=.int ((2 * n : Nat) : Int)) rfl (fq g0 (DS hk e2 l1) (wr rfl ?_)))))))))))))
  refine cF i (FQ he) f u (fun q hq=>hr q (List.mem_append_left _ hq)) hh fun hd1 h1 m1=>?_
  refine aj (bu (cr (ao (v:=.mref (B.length + 1 + J.length)) rfl ?_)))
  refine ⟨_,_,rfl,nf,?_⟩
  refine ag (aA (ag (ao (v:=.mref st) rfl (ag (aT (ba (ao (v:=nd) rfl (ii (gk _ _) (aT (ao (v:=.int ((2 * n : Nat) : Int)) rfl (aR (fJ ?_))))))))))))
  rw [show (((2 * n : Nat) : Int) + 1) = ((2 * n + 1 : Nat) : Int) by exact Bv]
  refine fq g1 (Db hk e2 l1) (ag (ao (v:=mV X T) rfl (av ?_)))
  refine wb _ _ _ j he f u (fun q hq=>hr q (List.mem_append_right _ (List.mem_append_left _ hq))) h1 fun hd2 J3 h2 m2=>?_
  refine av ?_
  rw [List.append_assoc,List.cons_append]
  refine oU (bi (IE l)) ?_
  dsimp only
  refine ih hd2 (es ++ [mV (F X).1 T]) (J2 ++ J3) (some (.int ((2 * n : Nat) : Int))) (pre ++ [t,b]) post (n + 1) (by rw [e1]; simp) (by rw [List.length_append,e2]; simp; exact AD) (by rw [List.length_append,List.length_singleton]; exact Ih l) (fun q hq=>hr q (List.mem_append_right _ (List.mem_append_right _ hq))) h2 fun hd' J' z' h' m'=>?_
  have:=k hd' J' z' h' fun q=>by
   rw [m' q,m2 q,m1 q,List.flatMap_cons,List.mem_append]
   unfold ix
   rw [List.mem_append,or_and_right,or_and_right,or_assoc,or_assoc,or_assoc]
  rw [List.map_cons] at this
  rw [List.append_assoc]
  exact this
theorem EJ {Fs : List (Rd × Den)} (h : Fs.length ≤ 2) {kl : Nat} (e : kl = 2 * Fs.length ∨ kl = 2 * Fs.length + 1) : cR (.rng 0 ((kl : Int) - 1) 2) = some ((List.range' 0 Fs.length).map fun (i : Nat)=>ae.int ((2 * i : Nat) : Int)):=by
 rcases e with e | e
 ·subst e
  match hl : Fs.length,h with
  | 0,_=>kernel_rfl
  | 1,_=>kernel_rfl
  | 2,_=>kernel_rfl
 ·subst e
  match hl : Fs.length,h with
  | 0,_=>kernel_rfl
  | 1,_=>kernel_rfl
  | 2,_=>kernel_rfl
theorem om (a b c : ae) (z4 : Option ae) {Q : Fl × Loc → List ah → Prop} : ∀ (Ys : List (Fin 16)) (Z : Fin 16) (z : Option ae),(∀ z,Q (.next,[some a,some b,some (mV (dz Z Ys) T),some c,z4,z]) M) →
  W (dU 5 (a7 2 (aE mx (af 2) (af 5))) (Ys.map fun Y=>mV Y T) [some a,some b,some (mV Z T),some c,z4,z]) M Q
 | [],Z,z,k=>by rw [List.map_nil,f9]; exact k z
 | Y :: Ys,Z,z,k=>by
  have e : ∀ Q : ae → List ah → Prop,W (mx (mV Z T) (mV Y T)) M Q ↔ Q (mV (d6 Z Y) T) M:=fun Q=>bI (by
   unfold mx i2i mV
   dsimp only
   rw [if_pos (show sV _ _ = true from rfl),s5]; rfl)
  rw [List.map_cons]
  refine aY (aP (aT (ao (v:=mV Z T) rfl (ao (v:=mV Y T) rfl ?_))))
  rw [e]
  exact om a b c z4 Ys (d6 Z Y) _ k
theorem y6 {h : Nat} (wb : wA h) (he : 3 * h + 11 ≤ d) (f : FB B st sl T) (u : Uni R) (nd : ae) (kids : List ae) (hk : kids.length ≤ 10) (gk : ∀ (M : List ah) (Q : ae → List ah → Prop),W (aK "kids" nd) M Q ↔ Q (.lst kids) M) (X : Fin 16) {Q : Fl × Loc → List ah → Prop} : ∀ {as : List ae} {Fs : List (Rd × Den)} {r : Rd},cE as Fs r h → ∀ (hd : Rd) (J : List ah) (z : Option ae) (pre post : List ae) (n : Nat),kids = pre ++ as ++ post → pre.length = 2 * n → (∀ q ∈ r,q ∈ R) → Hd R hd →
  (∀ hd' J' z,Hd R hd' → (∀ q,q ∈ hd' ↔ q ∈ hd ∨ q ∈ Fs.flatMap (ix X) ∧ bV T q.2 = true) → Q (.next,[some (.mref st),some nd,some (mV X T),z]) (E B hd' (J ++ J'))) →
  W (dU 3 (au (a7 2 (aq (sem d .f_value_uses) (ab (af 0) (ab (aE aV (aS (aK "kids") (af 1)) (af 3)) (ab (af 2) am))))) (bx (aq (sem d .f_statement_uses) (ab (af 0) (ab (aE aV (aS (aK "kids") (af 1)) (aE eF (af 3) (ar (.int 1)))) (ab (af 2) am))))))
   ((List.range' n Fs.length).map fun (i : Nat)=>ae.int ((2 * i : Nat) : Int)) [some (.mref st),some nd,some (mV X T),z]) (E B hd J) Q:=by
 intro as0 F0 r0 i0
 refine cE.ind ?_ ?_ i0
 ·intro hd J z pre post n e1 e2 hr hh k
  rw [show (List.range' n ([] : List (Rd × Den)).length).map (fun (i : Nat)=>ae.int ((2 * i : Nat) : Int)) = [] from rfl]
  refine bN ?_
  have:=k hd [] z hh fun q=>⟨.inl,fun a=>a.elim id fun a=>by cases a.1⟩
  rw [List.append_nil] at this
  exact this
 ·intro t b rt rb _ F as Fs i j ia ih hd J z pre post n e1 e2 hr hh k
  have l1:=congrArg List.length e1
  rw [List.length_append,List.length_append,List.length_cons,List.length_cons] at l1
  have g0 : kids[2 * n]? = some t:=by rw [e1,List.append_assoc,List.getElem?_append_right (z3 e2),e2,Nat.sub_self]; rfl
  have g1 : kids[2 * n + 1]? = some b:=by rw [e1,List.append_assoc,List.getElem?_append_right (by exact AM e2),e2,show 2 * n + 1 - 2 * n = 1 by exact Ax]; rfl
  rw [List.length_cons,List.range'_succ,List.map_cons]
  refine aY (aB (aP (aA (ag (ao (v:=.mref st) rfl (ag (aT (ba (ao (v:=nd) rfl (ii (gk _ _) (ao (v:=.int ((2 * n : Nat) : Int)) rfl (fq g0 (DS hk e2 l1) (wr rfl ?_)))))))))))))
  refine cF i (FQ he) f u (fun q hq=>hr q (List.mem_append_left _ hq)) hh fun hd1 h1 m1=>?_
  refine aj (bu (aA (ag (ao (v:=.mref st) rfl (ag (aT (ba (ao (v:=nd) rfl (ii (gk _ _) (aT (ao (v:=.int ((2 * n : Nat) : Int)) rfl (aR (fJ ?_)))))))))))))
  rw [show (((2 * n : Nat) : Int) + 1) = ((2 * n + 1 : Nat) : Int) by exact Bv]
  refine fq g1 (Db hk e2 l1) (ag (ao (v:=mV X T) rfl (av ?_)))
  refine wb _ _ _ j he f u (fun q hq=>hr q (List.mem_append_right _ (List.mem_append_left _ hq))) h1 fun hd2 J3 h2 m2=>?_
  dsimp only
  refine ih hd2 (J ++ J3) (some (.int ((2 * n : Nat) : Int))) (pre ++ [t,b]) post (n + 1) (by rw [e1]; simp) (by rw [List.length_append,e2]; simp; exact AD) (fun q hq=>hr q (List.mem_append_right _ (List.mem_append_right _ hq))) h2 fun hd' J' z' h' m'=>?_
  rw [List.append_assoc]
  exact k hd' (J3 ++ J') z' h' fun q=>by
   rw [m' q,m2 q,m1 q,List.flatMap_cons,List.mem_append]
   unfold ix
   rw [List.mem_append,or_and_right,or_and_right,or_assoc,or_assoc,or_assoc]
theorem AE {h : Nat} (wb : wA h) (he : 3 * h + 11 ≤ d) (f : FB B st sl T) (u : Uni R) (x : ae) (X : Fin 16) {Q : Fl × Loc → List ah → Prop} : ∀ {bs : List ae} {Fs : List Den} {r : Rd},dL bs Fs r h → ∀ (hd : Rd) (J : List ah) (a : Int) (Z : Fin 16) (z : Option ae),(∀ Y : Fin 16,Builtin.bitAnd a ((d6 Y T).val : Int) = ((d6 (d6 Z Y) T).val : Int)) → (∀ q ∈ r,q ∈ R) → Hd R hd →
  (∀ hd' J' a' z,(Fs = [] → a' = a) → (Fs ≠ [] → a' = ((d6 (dz Z (Fs.map fun F=>(F X).1)) T).val : Int)) → Hd R hd' → (∀ q,q ∈ hd' ↔ q ∈ hd ∨ q ∈ (Fs.flatMap fun F=>(F X).2) ∧ bV T q.2 = true) → Q (.next,[some (.mref st),some x,some (mV X T),some (.int a'),z]) (E B hd' (J ++ J'))) →
  W (dU 4 (a7 3 (aE mx (af 3) (aq (sem d .f_statement_uses) (ab (af 0) (ab (af 4) (ab (af 2) am)))))) bs [some (.mref st),some x,some (mV X T),some (.int a),z]) (E B hd J) Q:=by
 intro as0 F0 r0 i0
 refine dL.ind ?_ ?_ i0
 ·intro hd J a Z z ha hr hh k
  refine bN ?_
  have:=k hd [] a z (fun _=>rfl) (fun e=>absurd rfl e) hh fun q=>⟨.inl,fun a=>a.elim id fun a=>by cases a.1⟩
  rw [List.append_nil] at this
  exact this
 ·intro b F _ _ _ Fs j ib ih hd J a Z z ha hr hh k
  have e : ∀ (M : List ah) (Q : ae → List ah → Prop),W (mx (.int a) (mV (F X).1 T)) M Q ↔ Q (.int ((d6 (d6 Z (F X).1) T).val : Int)) M:=fun M Q=>bI (by
   unfold mx i2i mV
   dsimp only
   rw [if_pos (show sV _ _ = true from rfl),ha]; rfl)
  refine aY (aP (aT (ao (v:=.int a) rfl (aA (wr rfl ?_)))))
  refine wb _ _ _ j he f u (fun q hq=>hr q (List.mem_append_left _ hq)) hh fun hd2 J2 h2 m2=>?_
  rw [e]
  dsimp only
  refine ih hd2 _ _ (d6 Z (F X).1) (some b) (fun Y=>s5 _ _ _) (fun q hq=>hr q (List.mem_append_right _ hq)) h2 fun hd' J' a' z' k1 k2 h' m'=>?_
  rw [List.append_assoc]
  refine k hd' _ a' z' (fun e=>by cases e) (fun _=>?_) h' fun q=>?_
  ·by_cases hf : Fs = []
   ·rw [k1 hf,hf]; rfl
   ·rw [k2 hf]; rfl
  ·rw [m' q,m2 q,List.flatMap_cons,List.mem_append,or_and_right,or_assoc]
end
end Mine
end
section
open PySem PySem.W PySem.Spec PySem.Calls PySem.SeqAt PyProof.Rows
namespace Mine
theorem HN {Fs : List (Rd × Den)} (h : Fs.length ≤ 2) {kl : Nat} (e : kl = 2 * Fs.length) : cR (.rng 0 (kl : Int) 2) = some ((List.range' 0 Fs.length).map fun (i : Nat)=>ae.int ((2 * i : Nat) : Int)):=Ed h e
theorem KE (X : Fin 16) (T : Fin 16) (hd : Rd) (r : Rd) (q : Int × Fin 4) : (q ∈ hd ∨ q ∈ dT X r ∧ bV T q.2 = true) ↔ (q ∈ hd ∨ q ∈ dT X r ∧ bV T q.2 = true):=Iff.rfl
theorem tB {h : Nat} (wb0 : ∀ g,h = g + 1 → wA g) : zA h:=by
 intro v F r i
 intro e R B st sl T hd J X Q he f u hr hh k
 obtain ⟨d,rfl⟩ : ∃ d,e = d + 1:=⟨e - 1,(HO he)⟩
 cases i with
 | @asg at_ p s v r _ iv=>
  rw [bQ]
  refine bK (loc0:=[some (.mref st),some (ndV "assign" at_ .none [vaV p s,v] .none),some (mV X T),none,none]) (by simp) rfl ?_
  unfold bj
  generalize hnd : ndV "assign" at_ .none [vaV p s,v] .none = nd
  have go : ∀ (M : List ah) (Q : ae → List ah → Prop),W (aK "op" nd) M Q ↔ Q (.str "assign") M:=fun M Q=>by subst hnd; exact gX
  have gk : ∀ (M : List ah) (Q : ae → List ah → Prop),W (aK "kids" nd) M Q ↔ Q (.lst [vaV p s,v]) M:=fun M Q=>by subst hnd; exact eg
  refine aB (aP (ba (ao (v:=nd) rfl (ii (go _ _) (aj (a9 (i:=3) (v := "assign") rfl (ifn (by decide) (a9 (i:=3) (v := "assign") rfl (ifp rfl (aB (aP (aA (ag (ao (v:=.mref st) rfl (ag (aT (ba (ao (v:=nd) rfl (ii (gk _ _) (aR (dA (x:=0) 0 rfl rfl (by decide) (wr rfl (gn (EL he) f (aj (aB (aP (aA (ag (ao (v:=.mref st) rfl (ag (aT (ba (ao (v:=nd) rfl (ii (gk _ _) (aR (dA (x:=1) 1 rfl rfl (by decide) (wr rfl ?_)))))))))))))))))))))))))))))))))))))
  refine cF iv (Jg he) f u (fun q hq=>hr q (List.mem_cons_of_mem _ hq)) hh fun hd1 h1 m1=>?_
  refine aj (a8 (aA (ag (ao (v:=.mref st) rfl (ag (aT (ba (ao (v:=nd) rfl (ii (gk _ _) (aR (dA (x:=0) 0 rfl rfl (by decide) (wr rfl (mA (EL he) f (aX (aF ?_)))))))))))))))
  have:=k hd1 [] h1 m1
  rw [List.append_nil] at this
  exact this
 | @inc at_ p s v r _ iv=>
  rw [bQ]
  refine bK (loc0:=[some (.mref st),some (ndV "std" at_ .none [vaV p s,v] (.str "INC")),some (mV X T),none,none]) (by simp) rfl ?_
  unfold bj
  refine aB (aP (ba (ao (v:=ndV "std" at_ .none [vaV p s,v] (.str "INC")) rfl ?_)))
  rw [show ndV "std" at_ .none [vaV p s,v] (.str "INC") = .inst 32 (ndF "std" (.int at_) .none (.lst [vaV p s,v]) (.str "INC")) from rfl]
  refine nz (aj (a9 (i:=3) (v := "std") rfl (ifn (by decide) (a9 (i:=3) (v := "std") rfl (ifn (by decide) (a9 (i:=3) (v := "std") rfl (ifn (by decide) (a9 (i:=3) (v := "std") rfl (ifp rfl (a8 (aA (wr rfl ?_))))))))))))
  refine wu (at_:=at_) iv (ET he) f u hr hh fun hd1 J1 h1 m1=>?_
  refine aX (aF ?_)
  exact k hd1 J1 h1 m1
 | @cal at_ pc p s v r _ iv=>
  rw [bQ]
  refine bK (loc0:=[some (.mref st),some (ndV "call" at_ .none [ndV "proc" pc dG [] fk,vaV p s,v] .none),some (mV X T),none,none]) (by simp) rfl ?_
  unfold bj
  refine aB (aP (ba (ao (v:=ndV "call" at_ .none [ndV "proc" pc dG [] fk,vaV p s,v] .none) rfl ?_)))
  rw [show ndV "call" at_ .none [ndV "proc" pc dG [] fk,vaV p s,v] .none = .inst 32 (ndF "call" (.int at_) .none (.lst [ndV "proc" pc dG [] fk,vaV p s,v]) .none) from rfl]
  refine nz (aj (a9 (i:=3) (v := "call") rfl (ifn (by decide) (a9 (i:=3) (v := "call") rfl (ifn (by decide) (a9 (i:=3) (v := "call") rfl (ifp rfl (a8 (aA (wr rfl ?_))))))))))
  refine vc (at_:=at_) (pc:=pc) (p:=p) (s:=s) iv (ET he) f u (fun q hq=>hr q (List.mem_cons_of_mem _ hq)) hh fun hd1 J1 h1 m1=>?_
  refine aX (aF ?_)
  exact k hd1 J1 h1 m1
 | @if0 at_ kids Fs r g ia hl=>
  have wb:=wb0 g rfl
  have al:=gE ia
  rw [bQ]
  refine bK (loc0:=[some (.mref st),some (ndV "if" at_ .none kids (.bool false)),some (mV X T),none,none]) (by simp) rfl ?_
  unfold bj
  generalize hnd : ndV "if" at_ .none kids (.bool false) = nd
  have go : ∀ (M : List ah) (Q : ae → List ah → Prop),W (aK "op" nd) M Q ↔ Q (.str "if") M:=fun M Q=>by subst hnd; exact gX
  have gk : ∀ (M : List ah) (Q : ae → List ah → Prop),W (aK "kids" nd) M Q ↔ Q (.lst kids) M:=fun M Q=>by subst hnd; exact eg
  have gv : ∀ (M : List ah) (Q : ae → List ah → Prop),W (aK "value" nd) M Q ↔ Q (.bool false) M:=fun M Q=>by subst hnd; exact e7
  refine aB (aP (ba (ao (v:=nd) rfl (ii (go _ _) (aj (a9 (i:=3) (v := "if") rfl (ifn (by decide) (a9 (i:=3) (v := "if") rfl (ifn (by decide) (a9 (i:=3) (v := "if") rfl (ifn (by decide) (a9 (i:=3) (v := "if") rfl (ifn (by decide) (a9 (i:=3) (v := "if") rfl (ifp rfl (a8 (aA (wr rfl ?_))))))))))))))))))
  obtain ⟨d,rfl⟩ : ∃ d',d = d' + 1:=⟨d - 1,(ym he)⟩
  rw [jl]
  refine bK (loc0:=[some (.mref st),some nd,some (mV X T),none,none,none]) (by simp) rfl ?_
  unfold dv
  refine aB (aP (cU (av ?_)))
  refine ⟨rfl,?_⟩
  rw [sD,kt]
  refine aj (aB (ci (aA (ag (aR (ag (aT (aA (ag (ba (ao (v:=nd) rfl (ii (gk _ _) (av (gi (AR hl al) (aR (vm (wr rfl (jI ?_))))))))))))))))))
  refine ⟨_,EJ (Fs:=Fs) (wM hl al) (.inl al),v9 wb (wm he) f u nd kids (AN hl al) gk J X ia hd [] [] none [] [] 0 (by simp) rfl (by simp; exact FE hl al) hr hh fun hd1 J1 z1 h1 m1=>?_⟩
  rw [List.nil_append]
  refine aj (aB (cH (bM (ba (ao (v:=nd) rfl (ii (gv _ _) (b7 (ifn (by decide) (cA (aj (aB (ci (ul rfl ?_)))))))))))))
  rw [show (Fs.map fun q=>mV (q.2 X).1 T) = (Fs.map fun q=>(q.2 X).1).map fun Y=>mV Y T by rw [List.map_map]; rfl]
  refine ⟨_,rfl,om _ _ _ _ _ X none fun z=>?_⟩
  refine aj (a8 (ao (v:=mV (dz X (Fs.map fun q=>(q.2 X).1)) T) rfl (aF (aX (aF ?_)))))
  exact k hd1 (.gone :: J1) h1 m1
 | @if1 at_ kids Fs ra rb g b F ia hl ib=>
  have wb:=wb0 g rfl
  have al:=gE ia
  have kl : (kids ++ [b]).length ≤ 5:=by rw [List.length_append,List.length_singleton]; exact EI hl al
  rw [bQ]
  refine bK (loc0:=[some (.mref st),some (ndV "if" at_ .none (kids ++ [b]) (.bool true)),some (mV X T),none,none]) (by simp) rfl ?_
  unfold bj
  generalize hnd : ndV "if" at_ .none (kids ++ [b]) (.bool true) = nd
  have go : ∀ (M : List ah) (Q : ae → List ah → Prop),W (aK "op" nd) M Q ↔ Q (.str "if") M:=fun M Q=>by subst hnd; exact gX
  have gk : ∀ (M : List ah) (Q : ae → List ah → Prop),W (aK "kids" nd) M Q ↔ Q (.lst (kids ++ [b])) M:=fun M Q=>by subst hnd; exact eg
  have gv : ∀ (M : List ah) (Q : ae → List ah → Prop),W (aK "value" nd) M Q ↔ Q (.bool true) M:=fun M Q=>by subst hnd; exact e7
  refine aB (aP (ba (ao (v:=nd) rfl (ii (go _ _) (aj (a9 (i:=3) (v := "if") rfl (ifn (by decide) (a9 (i:=3) (v := "if") rfl (ifn (by decide) (a9 (i:=3) (v := "if") rfl (ifn (by decide) (a9 (i:=3) (v := "if") rfl (ifn (by decide) (a9 (i:=3) (v := "if") rfl (ifp rfl (a8 (aA (wr rfl ?_))))))))))))))))))
  obtain ⟨d,rfl⟩ : ∃ d',d = d' + 1:=⟨d - 1,(ym he)⟩
  rw [jl]
  refine bK (loc0:=[some (.mref st),some nd,some (mV X T),none,none,none]) (by simp) rfl ?_
  unfold dv
  refine aB (aP (cU (av ?_)))
  refine ⟨rfl,?_⟩
  rw [sD,kt]
  refine aj (aB (ci (aA (ag (aR (ag (aT (aA (ag (ba (ao (v:=nd) rfl (ii (gk _ _) (av (gi (EE kl) (aR (vm (wr rfl (jI ?_))))))))))))))))))
  refine ⟨_,EJ (Fs:=Fs) (wM hl al) (.inr (by rw [List.length_append,List.length_singleton,al])),v9 wb (wm he) f u nd (kids ++ [b]) (E0 kl) gk J X ia hd [] [] none [] [b] 0 (by simp) rfl (by simp; exact FE hl al) (fun q hq=>hr q (List.mem_append_left _ hq)) hh fun hd1 J1 z1 h1 m1=>?_⟩
  rw [List.nil_append]
  refine aj (aB (cH (bM (ba (ao (v:=nd) rfl (ii (gv _ _) (b7 (ifp rfl (aP (aA (ag (ao (v:=.mref st) rfl (ag (aT (ba (ao (v:=nd) rfl (ii (gk _ _) (ba (aR (gj (a:=.int (-1)) rfl (ng (wr rfl ?_))))))))))))))))))))))
  refine wb _ _ _ ib (wm he) f u (fun q hq=>hr q (List.mem_append_right _ hq)) h1 fun hd2 J2 h2 m2=>?_
  refine aj (aB (ci ?_))
  rw [List.append_assoc,List.cons_append]
  refine ul rfl ?_
  rw [show (Fs.map fun q=>mV (q.2 X).1 T) = (Fs.map fun q=>(q.2 X).1).map fun Y=>mV Y T by rw [List.map_map]; rfl]
  refine ⟨_,rfl,om _ _ _ _ _ (F X).1 none fun z=>?_⟩
  refine aj (a8 (ao (v:=mV (dz (F X).1 (Fs.map fun q=>(q.2 X).1)) T) rfl (aF (aX (aF ?_)))))
  exact k hd2 (.gone :: (J1 ++ J2)) h2 fun q=>by rw [m2 q,m1 q,List.mem_append,or_and_right,or_assoc]
 | @whl at_ kids Fs r g ia hl=>
  have wb:=wb0 g rfl
  have al:=gE ia
  rw [bQ]
  refine bK (loc0:=[some (.mref st),some (ndV "while" at_ .none kids .none),some (mV X T),none,none]) (by simp) rfl ?_
  unfold bj
  generalize hnd : ndV "while" at_ .none kids .none = nd
  have go : ∀ (M : List ah) (Q : ae → List ah → Prop),W (aK "op" nd) M Q ↔ Q (.str "while") M:=fun M Q=>by subst hnd; exact gX
  have gk : ∀ (M : List ah) (Q : ae → List ah → Prop),W (aK "kids" nd) M Q ↔ Q (.lst kids) M:=fun M Q=>by subst hnd; exact eg
  refine aB (aP (ba (ao (v:=nd) rfl (ii (go _ _) (aj (a9 (i:=3) (v := "while") rfl (ifn (by decide) (a9 (i:=3) (v := "while") rfl (ifn (by decide) (a9 (i:=3) (v := "while") rfl (ifn (by decide) (a9 (i:=3) (v := "while") rfl (ifn (by decide) (a9 (i:=3) (v := "while") rfl (ifn (by decide) (a9 (i:=3) (v := "while") rfl (ifp rfl (a8 (aA (wr rfl ?_))))))))))))))))))))
  obtain ⟨d,rfl⟩ : ∃ d',d = d' + 1:=⟨d - 1,(ym he)⟩
  rw [qM]
  refine bK (loc0:=[some (.mref st),some nd,some (mV X T),none]) (by simp) rfl ?_
  unfold e8
  refine aB (ci (aA (ag (aR (ag (aA (ag (ba (ao (v:=nd) rfl (ii (gk _ _) (av (gi (AR hl al) (wr rfl (jI ?_))))))))))))))
  refine ⟨_,HN (Fs:=Fs) (wM hl al) al,y6 wb (wm he) f u nd kids (AN hl al) gk X ia hd J none [] [] 0 (by simp) rfl hr hh fun hd1 J1 z1 h1 m1=>?_⟩
  refine aj (a8 (ao (v:=mV X T) rfl (aF (aX (aF ?_)))))
  exact k hd1 J1 h1 m1
 | @rep at_ b t F rb rt g ib iv=>
  have wb:=wb0 g rfl
  rw [bQ]
  refine bK (loc0:=[some (.mref st),some (ndV "repeat" at_ .none [b,t] .none),some (mV X T),none,none]) (by simp) rfl ?_
  unfold bj
  generalize hnd : ndV "repeat" at_ .none [b,t] .none = nd
  have go : ∀ (M : List ah) (Q : ae → List ah → Prop),W (aK "op" nd) M Q ↔ Q (.str "repeat") M:=fun M Q=>by subst hnd; exact gX
  have gk : ∀ (M : List ah) (Q : ae → List ah → Prop),W (aK "kids" nd) M Q ↔ Q (.lst [b,t]) M:=fun M Q=>by subst hnd; exact eg
  refine aB (aP (ba (ao (v:=nd) rfl (ii (go _ _) (aj (a9 (i:=3) (v := "repeat") rfl (ifn (by decide) (a9 (i:=3) (v := "repeat") rfl (ifn (by decide) (a9 (i:=3) (v := "repeat") rfl (ifn (by decide) (a9 (i:=3) (v := "repeat") rfl (ifn (by decide) (a9 (i:=3) (v := "repeat") rfl (ifn (by decide) (a9 (i:=3) (v := "repeat") rfl (ifn (by decide) (a9 (i:=3) (v := "repeat") rfl (ifp rfl (a8 (aA (ag (ao (v:=.mref st) rfl (ag (aT (ba (ao (v:=nd) rfl (ii (gk _ _) (aR (dA (x:=1) 1 rfl rfl (by decide) (ag (aA (ag (ao (v:=.mref st) rfl (ag (aT (ba (ao (v:=nd) rfl (ii (gk _ _) (aR (dA (x:=0) 0 rfl rfl (by decide) (wr rfl ?_))))))))))))))))))))))))))))))))))))))))))
  refine wb _ _ _ ib (GX he) f u (fun q hq=>hr q (List.mem_append_left _ hq)) hh fun hd1 J1 h1 m1=>?_
  refine av ?_
  refine cF iv (HG he) f u (fun q hq=>hr q (List.mem_append_right _ hq)) h1 fun hd2 h2 m2=>?_
  refine aX (aF ?_)
  exact k hd2 J1 h2 fun q=>by rw [m2 q,m1 q,List.mem_append,or_and_right,or_assoc]
 | @for_ at_ p s v1 v2 b r1 r2 rb F g i1 i2 ib=>
  have wb:=wb0 g rfl
  rw [bQ]
  refine bK (loc0:=[some (.mref st),some (ndV "for" at_ .none [vaV p s,v1,v2,b] (.int 1)),some (mV X T),none,none]) (by simp) rfl ?_
  unfold bj
  generalize hnd : ndV "for" at_ .none [vaV p s,v1,v2,b] (.int 1) = nd
  have go : ∀ (M : List ah) (Q : ae → List ah → Prop),W (aK "op" nd) M Q ↔ Q (.str "for") M:=fun M Q=>by subst hnd; exact gX
  refine aB (aP (ba (ao (v:=nd) rfl (ii (go _ _) (aj (a9 (i:=3) (v := "for") rfl (ifn (by decide) (a9 (i:=3) (v := "for") rfl (ifn (by decide) (a9 (i:=3) (v := "for") rfl (ifn (by decide) (a9 (i:=3) (v := "for") rfl (ifn (by decide) (a9 (i:=3) (v := "for") rfl (ifn (by decide) (a9 (i:=3) (v := "for") rfl (ifn (by decide) (a9 (i:=3) (v := "for") rfl (ifn (by decide) (a9 (i:=3) (v := "for") rfl (ifp rfl (a8 (aA (wr rfl ?_))))))))))))))))))))))))
  obtain ⟨d,rfl⟩ : ∃ d',d = d' + 1:=⟨d - 1,(ym he)⟩
  rw [uc]
  refine bK (loc0:=[some (.mref st),some nd,some (mV X T),none,none,none,none]) (by simp) rfl ?_
  unfold fY
  have up : W (mz [3,4,5,6] (aS (aK "kids") (af 1)) [some (.mref st),some nd,some (mV X T),none,none,none,none]) (E B hd J) (fun r M1=>r = (.next,[some (.mref st),some nd,some (mV X T),some (vaV p s),some v1,some v2,some b]) ∧ M1 = E B hd J):=by
   subst hnd
   unfold mz
   refine vi (ba (ao (v:=ndV "for" at_ .none [vaV p s,v1,v2,b] (.int 1)) rfl ?_))
   unfold ndV
   refine ic ?_
   exact ⟨_,_,rfl,rfl,rfl⟩
  obtain ⟨_,_,up,rfl,rfl⟩:=up
  refine aB (gj up (aj (aB (aP (aA (ag (ao (v:=.mref st) rfl (ag (ao (v:=v1) rfl (ag (aA (wr rfl (gn (FO he) f (av ?_))))))))))))))
  refine cF i1 (Dv he) f u (fun q hq=>hr q (List.mem_cons_of_mem _ (List.mem_append_left _ hq))) hh fun hd1 h1 m1=>?_
  refine aj (aB (aP (aA (ag (ao (v:=.mref st) rfl (ag (ao (v:=v2) rfl (ag (aA (wr rfl (mA (FO he) f (av ?_))))))))))))
  refine cF i2 (Dv he) f u (fun q hq=>hr q (List.mem_cons_of_mem _ (List.mem_append_right _ (List.mem_append_left _ hq)))) h1 fun hd2 h2 m2=>?_
  refine aj (aB (bu (aA (wr rfl ?_))))
  refine wb _ _ _ ib (wm he) f u (fun q hq=>hr q (List.mem_cons_of_mem _ (List.mem_append_right _ (List.mem_append_right _ hq)))) h2 fun hd3 J3 h3 m3=>?_
  refine aj (a8 (ao (v:=mV (dH X s) T) rfl (aF (aX (aF ?_)))))
  exact k hd3 J3 h3 fun q=>by rw [m3 q,m2 q,m1 q,List.mem_append,List.mem_append,or_and_right,or_and_right,or_assoc,or_assoc]
 | @cas at_ v val bs rv r Fs g iv ib hl hne=>
  have wb:=wb0 g rfl
  rw [bQ]
  refine bK (loc0:=[some (.mref st),some (ndV "case" at_ .none (v :: bs) val),some (mV X T),none,none]) (by simp) rfl ?_
  unfold bj
  generalize hnd : ndV "case" at_ .none (v :: bs) val = nd
  have go : ∀ (M : List ah) (Q : ae → List ah → Prop),W (aK "op" nd) M Q ↔ Q (.str "case") M:=fun M Q=>by subst hnd; exact gX
  have gk : ∀ (M : List ah) (Q : ae → List ah → Prop),W (aK "kids" nd) M Q ↔ Q (.lst (v :: bs)) M:=fun M Q=>by subst hnd; exact eg
  refine aB (aP (ba (ao (v:=nd) rfl (ii (go _ _) (aj (a9 (i:=3) (v := "case") rfl (ifn (by decide) (a9 (i:=3) (v := "case") rfl (ifn (by decide) (a9 (i:=3) (v := "case") rfl (ifn (by decide) (a9 (i:=3) (v := "case") rfl (ifn (by decide) (a9 (i:=3) (v := "case") rfl (ifn (by decide) (a9 (i:=3) (v := "case") rfl (ifn (by decide) (a9 (i:=3) (v := "case") rfl (ifn (by decide) (a9 (i:=3) (v := "case") rfl (ifn (by decide) (a8 (aA (wr rfl ?_))))))))))))))))))))))))
  obtain ⟨d,rfl⟩ : ∃ d',d = d' + 1:=⟨d - 1,(ym he)⟩
  rw [tn]
  refine bK (loc0:=[some (.mref st),some nd,some (mV X T),none,none]) (by simp) rfl ?_
  unfold fA
  refine aB (aP (aA (ag (ao (v:=.mref st) rfl (ag (aT (ba (ao (v:=nd) rfl (ii (gk _ _) (aR (dA (x:=0) 0 rfl rfl (by decide) (wr rfl ?_))))))))))))
  refine cF iv (Dv he) f u (fun q hq=>hr q (List.mem_append_left _ hq)) hh fun hd1 h1 m1=>?_
  refine aj (aB (aP (ba (aR (gj (a:=.int (-1)) rfl (aj (aB (ci (rg (a:=v) (vs:=bs) (by rw [dM,bU (v:=nd) rfl,gk]; exact ⟨rfl,rfl⟩) (E5 hl) ?_)))))))))
  rw [kt]
  refine ⟨_,rfl,AE wb (wm he) f u nd X ib hd1 _ (-1) 15 none (fun Y=>yR Y T) (fun q hq=>hr q (List.mem_append_right _ hq)) h1 fun hd2 J2 a' z k1 k2 h2 m2=>?_⟩
  refine aj (a8 (ao (v:=.int a') rfl (aF (aF ?_))))
  rw [k2 hne,List.append_assoc]
  exact k hd2 _ h2 fun q=>by rw [m2 q,m1 q,List.mem_append,or_and_right,or_assoc]
theorem E6 : ∀ h : Nat,wA h
 | 0=>vL (tB fun g e=>nomatch e)
 | h + 1=>vL (tB fun g e=>by obtain rfl : g = h:=Bl e; exact E6 g)
end Mine
end
section
open PySem PySem.W PySem.Spec PySem.Calls PySem.SeqAt PyProof.Rows
namespace Mine
theorem wD {vs : List ae} {v : ae} {X : List ah} {Q : ae → List ah → Prop} (hs : bW vs.length = true) : W (be [.mref 0,v]) (.lst vs :: X) Q ↔ Q .none (.lst (vs ++ [v]) :: X):=pr (M:=[]) hs
theorem xc {vs : List ae} {v : ae} {X : List ah} {Q : ae → List ah → Prop} (hs : bW vs.length = true) (xx : Q .none (.lst (vs ++ [v]) :: X)) : W (be [.mref 0,v]) (.lst vs :: X) Q:=(wD (vs:=vs) (v:=v) (X:=X) (Q:=Q) (hs:=hs)).mpr xx
theorem xV {M : List ah} {x : Int} {Q : ae → List ah → Prop} : W (tG (.int x) (.int 997)) M Q ↔ Q (.int (x.fmod 997)) M:=BX (by decide)
theorem yq {M : List ah} {x : Int} {Q : ae → List ah → Prop} (xx : Q (.int (x.fmod 997)) M) : W (tG (.int x) (.int 997)) M Q:=(xV (M:=M) (x:=x) (Q:=Q)).mpr xx
theorem zF {M : List ah} {x : Int} {Q : ae → List ah → Prop} : W (qY (.int x) (.int 997)) M Q ↔ Q (.int (x.fdiv 997)) M:=by
 unfold qY i2i
 dsimp only
 rw [if_pos (show (decide ((997 : Int) ≠ 0) && fit 997) = true from rfl)]
 exact cb
theorem zp {M : List ah} {x : Int} {Q : ae → List ah → Prop} (xx : Q (.int (x.fdiv 997)) M) : W (qY (.int x) (.int 997)) M Q:=(zF (M:=M) (x:=x) (Q:=Q)).mpr xx
theorem Dl {M : List ah} {x : Int} {Q : ae → List ah → Prop} : W (lk (.int 3) (.int x)) M Q ↔ Q (.int (3 * x)) M:=by
 unfold lk i2i
 dsimp only
 rw [if_pos (show fit 3 = true from rfl)]
 exact cb
theorem Dm {M : List ah} {x : Int} {Q : ae → List ah → Prop} (xx : Q (.int (3 * x)) M) : W (lk (.int 3) (.int x)) M Q:=(Dl (M:=M) (x:=x) (Q:=Q)).mpr xx
noncomputable def ze : Loc → Mo (Fl × Loc):=au (bx (bF be (af 1) (ab (aE tG (af 3) (ar (.int 997))) am))) (au (a7 3 (aE qY (af 3) (ar (.int 997)))) (sIf (a6 (aE oEq (af 3) (ar (.int 0)))) yr bD))
theorem oY (S : ae) {Q : Fl × Loc → List ah → Prop} : ∀ (ls : List ae) (fs : List Int) (x : Int) (c z : Option ae),fs.length + ls.length ≤ 100000 →
  (∀ (fs' : List Int) x' z',fs'.length ≤ fs.length + ls.length → Q (.next,[some S,some (.mref 0),c,some (.int x'),z']) [.lst (fs'.map .int),.gone]) →
  W (dU 4 ze ls [some S,some (.mref 0),c,some (.int x),z]) [.lst (fs.map .int),.gone] Q
 | [],fs,x,c,z,hl,k=>by rw [f9]; exact k fs x z (Nat.le_add_right _ _)
 | l :: ls,fs,x,c,z,hl,k=>by
  rw [List.length_cons] at hl
  unfold ze
  refine aY (aB (bu (cr (ao (v:=.mref 0) rfl ?_))))
  refine ⟨0,_,rfl,rfl,?_⟩
  refine ag (aT (ao (v:=.int x) rfl (aR (yq (av (xc (bi (by rw [List.length_map]; exact HK hl)) (aj (aB (aP (aT (ao (v:=.int x) rfl (aR (zp (aj (cH (wr rfl ?_))))))))))))))))
  rw [show fs.map ae.int ++ [ae.int (x.fmod 997)] = (fs ++ [x.fmod 997]).map .int by rw [List.map_append]; rfl]
  by_cases h0 : x.fdiv 997 = 0
  ·refine ifp (decide_eq_true h0) (CO ?_)
   exact k _ _ _ (by simp only [List.length_append,List.length_cons,List.length_nil]; exact Ha)
  ·refine ifn (by rw [decide_eq_true_eq]; exact h0) (cA ?_)
   refine oY S ls (fs ++ [x.fmod 997]) _ c _ (by rw [List.length_append,List.length_singleton]; exact IQ hl) fun fs' x' z' h'=>?_
   exact k fs' x' z' (by rw [List.length_append,List.length_singleton] at h'; rw [List.length_cons]; exact Hg h')
theorem nh (S : ae) {Q : Fl × Loc → List ah → Prop} : ∀ (ns : List Int) (fs : List Int) (c y z : Option ae),fs.length + 40 * ns.length ≤ 100000 →
  (∀ (fs' : List Int) c y z,fs'.length ≤ fs.length + 40 * ns.length → Q (.next,[some S,some (.mref 0),c,y,z]) [.lst (fs'.map .int),.gone]) →
  W (dU 2 (au (a7 3 (eIf (a6 (aE oGe (af 2) (ar (.int 0)))) (af 2) (aE kN (ar (.int 5)) (aE lk (ar (.int 3)) (af 2))))) (dW 4 (aq cV (ab (ar (.int 40)) am)) ze)) (ns.map .int) [some S,some (.mref 0),c,y,z]) [.lst (fs.map .int),.gone] Q
 | [],fs,c,y,z,hl,k=>by rw [List.map_nil,f9]; exact k fs c y z (Nat.le_add_right _ _)
 | n :: ns,fs,c,y,z,hl,k=>by
  rw [List.length_cons] at hl
  have cont : ∀ x : Int,W (dW 4 (aq cV (ab (ar (.int 40)) am)) ze [some S,some (.mref 0),some (.int n),some (.int x),z]) [.lst (fs.map .int),.gone] fun r M1=>match r.1 with
    | .next=>W (dU 2 (au (a7 3 (eIf (a6 (aE oGe (af 2) (ar (.int 0)))) (af 2) (aE kN (ar (.int 5)) (aE lk (ar (.int 3)) (af 2))))) (dW 4 (aq cV (ab (ar (.int 40)) am)) ze)) (ns.map .int) r.2) M1 Q
    | .brk=>Q (.next,r.2) M1
    | .ret v=>Q (.ret v,r.2) M1:=by
   intro x
   refine ci (wr rfl ?_)
   refine ⟨kM 0 40 1,rfl,?_⟩
   have e40 : (kM 0 40 1).length = 40:=by kernel_rfl
   refine oY S _ fs x _ _ (by rw [e40]; exact IX hl) fun fs' x' z' h'=>?_
   rw [e40] at h'
   dsimp only
   refine nh S ns fs' _ _ _ (I8 hl h') fun fs2 c2 y2 z2 h2=>?_
   exact k fs2 c2 y2 z2 (by rw [List.length_cons]; exact HQ h' h2)
  rw [List.map_cons]
  refine aY (aB (aP (tt (wr rfl ?_))))
  by_cases h0 : n ≥ 0
  ·refine ifp (decide_eq_true h0) (ao (v:=.int n) rfl (aj ?_))
   exact cont n
  ·refine ifn (by rw [decide_eq_true_eq]; exact h0) (aT (aR (aT (aR (ao (v:=.int n) rfl (Dm (vm (aj ?_))))))))
   exact cont (5 - 3 * n)
theorem zK {e : Nat} {ns : List Int} {Q : ae → List ah → Prop} (he : 1 ≤ e) (hl : ns.length ≤ 1000000) (k : ∀ (A : List ae) (pool : List Int),pool.length ≤ 240 → Q (.mref 2) [.lst A,.gone,.lst (pool.map .int)]) : W (sem e .f_law_pool [.lst (ns.map .int)]) [] Q:=by
 obtain ⟨d,rfl⟩ : ∃ d,e = d + 1:=⟨e - 1,(oK he)⟩
 rw [uu]
 refine bK (loc0:=[some (.lst (ns.map .int)),none,none,none,none]) (by simp) rfl ?_
 unfold fX
 refine aB (aP (cU (av ?_)))
 refine ⟨rfl,?_⟩
 have e1 : W (aD (nk 60 (af 0)) [some (.lst (ns.map .int)),some (.mref 0),none,none,none]) [.lst []] (fun a M1=>a = .lst ((ns.take 60).map .int) ∧ M1 = [.lst [],.gone]):=by
  refine lQ ?_
  unfold nk
  refine vi (ao (v:=.lst (ns.map .int)) rfl ?_)
  refine ⟨.mref 1,[.lst [],.lst ((ns.map .int).take 60)],?_,1,_,_,rfl,rfl,rfl,?_,rfl⟩
  ·unfold cz
   dsimp only
   rw [bi (by rw [List.length_map]; exact hl),if_pos rfl]
   rfl
  ·rw [List.map_take]
 obtain ⟨_,_,e1,rfl,rfl⟩:=e1
 refine aj (aB (ci ?_))
 refine uz e1 ⟨_,rfl,?_⟩
 have l60 : (ns.take 60).length ≤ 60:=List.length_take_le ..
 refine nh _ (ns.take 60) [] none none none (by simp; exact Gq hl) fun fs c y z h=>?_
 rw [List.length_nil] at h
 have e2 : W (nk 240 (af 1) [some (.lst (ns.map .int)),some (.mref 0),c,y,z]) [.lst (fs.map .int),.gone] (fun a M1=>a = .mref 2 ∧ M1 = [.lst (fs.map .int),.gone,.lst ((fs.take 240).map .int)]):=by
  unfold nk
  refine vi (ao (v:=.mref 0) rfl ?_)
  refine ⟨.mref 2,[.lst (fs.map .int),.gone,.lst ((fs.map .int).take 240)],?_,rfl,by rw [List.map_take]⟩
  unfold cz
  dsimp only [List.getElem?_cons_zero]
  rw [bi (by rw [List.length_map]; exact JE l60 h),if_pos rfl]
  rfl
 obtain ⟨_,_,e2,rfl,rfl⟩:=e2
 refine aj (aB (aP (gj e2 (aj (aB (bu (cr (ao (v:=.mref 2) rfl ?_))))))))
 refine ⟨2,_,rfl,rfl,?_⟩
 refine av ?_
 have l240 : (fs.take 240).length ≤ 240:=List.length_take_le ..
 have e3 : iM [.mref 2] [.lst (fs.map .int),.gone,.lst ((fs.take 240).map .int)] = some (.none,[.lst (fs.map .int),.gone,.lst ((fs.take 240).reverse.map .int)]):=by
  unfold iM
  dsimp only [List.getElem?_cons_zero,List.getElem?_cons_succ]
  rw [bi (by rw [List.length_map]; exact Ei l240),if_pos rfl,List.map_reverse]
  rfl
 refine gj e3 (aj (a8 (ao (v:=.mref 2) rfl (aF ?_))))
 exact k _ _ (by rw [List.length_reverse]; exact l240)
end Mine
end
section
open PySem PySem.W PySem.Spec PySem.Calls PySem.SeqAt PyProof.Rows
namespace Mine
theorem Cj (A : List ae) (pool : List Int) (S : ae) : (au (mX (sem 199)) (au (mI (sem 199)) (au (mQ (sem 199)) (au (mE (sem 199)) (au (mO (sem 199)) (au (mU (sem 199)) (au (mN (sem 199)) (au (mK (sem 199)) (au (mL (sem 199)) (au (kH (sem 199)) (au (j0 (sem 199)) (au (j4 (sem 199)) (kC (sem 199))))))))))))))
  [some S,some (.mref 2),none,none,none,none,none,none,none,none,none,none,none,none,none,none] [.lst A,.gone,.lst (pool.map .int)] =
 some ((.next,[some S,some (.mref 2),some (.mref 3),some (.mref 34),some (.int 3),some dG,some (.mref 43),some (.mref 46),some (.mref 48),none,none,none,none,none,some (.mref 38),none]),H A pool 0 14 (gd (.lst []) .none .none) []):=by kernel_rfl
noncomputable def p6 (p : Int) : ae:=ndV "const" p dE [] (.int 1)
noncomputable def oQ : ae:=ndV "assign" 0 .none [vaV 1 3,p6 0] .none
noncomputable def fB : ae:=ndV "block" 0 .none [oQ] .none
section
variable {M X : List ah} {d : Nat}
theorem ij {x y : ah} : (M ++ x :: y :: X)[M.length + 1]? = some y:=by
 rw [List.getElem?_append_right (o97)]; simp
theorem t8 {x y z : ah} : (M ++ x :: y :: X).set (M.length + 1) z = M ++ x :: z :: X:=by
 rw [List.set_append_right _ _ (o97)]; simp
theorem AX {x : ah} : (M ++ [x]).length = M.length + 1:=by simp
theorem w6 {x : ah} {vs : List ae} {v : ae} {Q : ae → List ah → Prop} (hs : bW vs.length = true) : W (be [.mref (M.length + 1),v]) (M ++ x :: .lst vs :: X) Q ↔ Q .none (M ++ x :: .lst (vs ++ [v]) :: X):=by
 refine bI ?_
 unfold be
 dsimp only
 rw [ij]
 dsimp only
 rw [hs,if_pos rfl,t8]
theorem pC {x : ah} {vs : List ae} {v : ae} {Q : ae → List ah → Prop} (hs : bW vs.length = true) (xx : Q .none (M ++ x :: .lst (vs ++ [v]) :: X)) : W (be [.mref (M.length + 1),v]) (M ++ x :: .lst vs :: X) Q:=(w6 (x:=x) (vs:=vs) (v:=v) (Q:=Q) (hs:=hs)).mpr xx
theorem zM {x : ah} {vs : List ae} {v : ae} {Q : ae → List ah → Prop} (hs : vs.length ≤ 1000) : W (kP [.mref (M.length + 1)]) (M ++ x :: .lst (vs ++ [v]) :: X) Q ↔ Q v (M ++ x :: .lst vs :: X):=by
 refine bI ?_
 unfold kP
 dsimp only
 rw [ij]
 dsimp only
 rw [bi (by rw [List.length_append,List.length_singleton]; exact CR hs),if_pos rfl,List.getLast?_append]
 simp only [List.getLast?_singleton,Option.some_or,List.dropLast_concat]
 rw [t8]
theorem C9 {x : ah} {vs : List ae} {v : ae} {Q : ae → List ah → Prop} (hs : vs.length ≤ 1000) (xx : Q v (M ++ x :: .lst vs :: X)) : W (kP [.mref (M.length + 1)]) (M ++ x :: .lst (vs ++ [v]) :: X) Q:=(zM (x:=x) (vs:=vs) (v:=v) (Q:=Q) (hs:=hs)).mpr xx
theorem Dz {x : ah} {vs : List ae} {Q : ae → List ah → Prop} (hs : vs.length ≤ 1000) : W (fi [.mref (M.length + 1)]) (M ++ x :: .lst vs :: X) Q ↔ Q (.int (vs.length : Int)) (M ++ x :: .lst vs :: X):=by
 refine bI ?_
 unfold fi cz
 dsimp only
 rw [ij]
 dsimp only
 rw [bi (Ao hs),if_pos rfl]
theorem nV {x : ah} {vs : List ae} {Q : ae → List ah → Prop} (hs : vs.length ≤ 1000) (xx : Q (.int (vs.length : Int)) (M ++ x :: .lst vs :: X)) : W (fi [.mref (M.length + 1)]) (M ++ x :: .lst vs :: X) Q:=(Dz (x:=x) (vs:=vs) (Q:=Q) (hs:=hs)).mpr xx
theorem wt {i : Nat} {l : Loc → Mo ae} {m : Loc → Mo (Fl × Loc)} {loc : Loc} {vs : List ae} {Q : Fl × Loc → List ah → Prop} (h : W (l loc) M fun a M1=>a = .lst vs ∧ M1 = M) : W (i8 i l m loc) M Q ↔ W (dU i m vs.reverse loc) M Q:=by
 obtain ⟨a,M1,e,rfl,rfl⟩:=h
 unfold i8
 rw [ca,bI e]
theorem wx {i : Nat} {l : Loc → Mo ae} {m : Loc → Mo (Fl × Loc)} {loc : Loc} {vs : List ae} {Q : Fl × Loc → List ah → Prop} (h : W (l loc) M fun a M1=>a = .lst vs ∧ M1 = M) (xx : W (dU i m vs.reverse loc) M Q) : W (i8 i l m loc) M Q:=(wt (i:=i) (l:=l) (m:=m) (loc:=loc) (vs:=vs) (Q:=Q) (h:=h)).mpr xx
theorem pa (a : ae) (one : ae) (fs : List ae) {Q : Fl × Loc → List ah → Prop} : ∀ (ks ws : List ae) (z : Option ae),(∀ x ∈ ks,eu x = false) → ws.length + ks.length ≤ 1000 →
  (∀ z,Q (.next,[some a,some (.mref M.length),some (.mref (M.length + 1)),some one,z]) (M ++ .lst fs :: .lst (ws ++ ks) :: X)) →
  W (dU 4 (sIf (a6 (aE iA (af 4) (ar .none))) (bx (bF be (af 2) (ab (af 4) am))) bD) ks [some a,some (.mref M.length),some (.mref (M.length + 1)),some one,z]) (M ++ .lst fs :: .lst ws :: X) Q
 | [],ws,z,hn,hl,k=>by rw [f9]; have:=k z; rw [List.append_nil] at this; exact this
 | x :: ks,ws,z,hn,hl,k=>by
  rw [List.length_cons] at hl
  refine aY (cH (bM (aT (ao (v:=x) rfl (aR (gj (a:=.bool (!eu x)) rfl (b7 ?_)))))))
  rw [hn x List.mem_cons_self,Bool.not_false]
  refine ifp rfl (bu (cr (ao (v:=.mref (M.length + 1)) rfl ?_)))
  refine ⟨_,_,rfl,ij,?_⟩
  refine wr rfl (pC (bi (Ey hl)) ?_)
  refine pa a one fs ks (ws ++ [x]) _ (fun y hy=>hn y (List.mem_cons_of_mem _ hy)) (by rw [List.length_append,List.length_singleton]; exact FP hl) fun z=>?_
  have:=k z
  rw [List.append_assoc]
  exact this
noncomputable def Ba : Loc → Mo (Fl × Loc):=au (a7 3 (bF kP (af 2) am)) (au (bx (bF be (af 1) (ab (af 3) am))) (i8 4 (aS (aK "kids") (af 3)) (sIf (a6 (aE iA (af 4) (ar .none))) (bx (bF be (af 2) (ab (af 4) am))) bD)))
noncomputable def zv : Loc → Mo Bool:=a6 (aE oGt (aq fi (ab (af 2) am)) (ar (.int 0)))
theorem i5 {n : Nat} (a : ae) {op : Str} {p : Int} {ty val : ae} {ks fs ws : List ae} {z y : Option ae} (hn : ∀ x ∈ ks,eu x = false) (hl : fs.length + ws.length + ks.length ≤ 900) {Q : Fl × Loc → List ah → Prop}
  (k : ∀ z y,W (dy zv Ba n [some a,some (.mref M.length),some (.mref (M.length + 1)),z,y]) (M ++ .lst (fs ++ [ndV op p ty ks val]) :: .lst (ws ++ ks.reverse) :: X) Q) :
  W (dy zv Ba (n + 1) [some a,some (.mref M.length),some (.mref (M.length + 1)),z,y]) (M ++ .lst fs :: .lst (ws ++ [ndV op p ty ks val]) :: X) Q:=by
 generalize hnd : ndV op p ty ks val = nd at k ⊢
 have gk : ∀ (M : List ah) (Q : ae → List ah → Prop),W (aK "kids" nd) M Q ↔ Q (.lst ks) M:=fun M Q=>by subst hnd; exact eg
 refine g8 ?_
 unfold zv
 refine bM (aT (aA (ag (ao (v:=.mref (M.length + 1)) rfl (av (nV (by rw [List.length_append,List.length_singleton]; exact Ho hl) (aR (wL (b7 (ifp (by rw [decide_eq_true_eq,List.length_append,List.length_singleton]; exact Ip) ?_))))))))))
 unfold Ba
 refine aB (aP (cr (ao (v:=.mref (M.length + 1)) rfl ?_)))
 refine ⟨_,_,rfl,ij,?_⟩
 refine av (C9 (Jd hl) (aj (aB (bu (cr (ao (v:=.mref M.length) rfl ?_))))))
 refine ⟨_,_,rfl,eE,?_⟩
 refine wr rfl (kQ (bi (HR hl)) (aj (wx (vs:=ks) (by rw [dM,bU (v:=nd) rfl,gk]; exact ⟨rfl,rfl⟩) ?_)))
 refine pa a nd _ ks.reverse ws y (fun x hx=>hn x (List.mem_reverse.mp hx)) (by rw [List.length_reverse]; exact Iw hl) fun z=>?_
 exact k _ _
theorem pb {n : Nat} (a : ae) {fs : List ae} {z y : Option ae} {Q : Fl × Loc → List ah → Prop}
  (k : Q (.next,[some a,some (.mref M.length),some (.mref (M.length + 1)),z,y]) (M ++ .lst fs :: .lst [] :: X)) :
  W (dy zv Ba (n + 1) [some a,some (.mref M.length),some (.mref (M.length + 1)),z,y]) (M ++ .lst fs :: .lst [] :: X) Q:=by
 refine g8 ?_
 unfold zv
 refine bM (aT (aA (ag (ao (v:=.mref (M.length + 1)) rfl (av (nV (by simp) (aR (wL (b7 (ifn (by simp) ?_))))))))))
 exact k
theorem Af {x y : ah} : M ++ [x] ++ [y] = M ++ x :: y :: []:=by simp
theorem ug {e : Nat} (he : 1 ≤ e) {Q : ae → List ah → Prop} (k : Q (.mref M.length) (M ++ .lst [] :: .lst [] :: [])) : W (sem e .f_nodes_of [.none]) M Q:=by
 obtain ⟨d,rfl⟩ : ∃ d,e = d + 1:=⟨e - 1,(oK he)⟩
 rw [nJ]
 refine bK (loc0:=[some .none,none,none,none,none]) (by simp) rfl ?_
 unfold fm
 refine aB (aP (cU (av ?_)))
 refine ⟨rfl,?_⟩
 refine aj (aB (aP (cU (av ?_))))
 refine ⟨rfl,?_⟩
 rw [AX,Af]
 refine aj (aB (cH (bM (aT (ao (v:=.none) rfl (aR (gj (a:=.bool false) rfl (b7 (ifn (by decide) (cA (aj (aB ?_))))))))))))
 refine pb .none ?_
 refine aj (a8 (ao (v:=.mref M.length) rfl (aF ?_)))
 exact k
theorem u0 {e : Nat} (he : 1 ≤ e) {Q : ae → List ah → Prop} (k : Q (.mref M.length) (M ++ .lst [fB,oQ,vaV 1 3,p6 0] :: .lst [] :: [])) : W (sem e .f_nodes_of [fB]) M Q:=by
 obtain ⟨d,rfl⟩ : ∃ d,e = d + 1:=⟨e - 1,(oK he)⟩
 rw [nJ]
 refine bK (loc0:=[some fB,none,none,none,none]) (by simp) rfl ?_
 unfold fm
 refine aB (aP (cU (av ?_)))
 refine ⟨rfl,?_⟩
 refine aj (aB (aP (cU (av ?_))))
 refine ⟨rfl,?_⟩
 rw [AX,Af]
 refine aj (aB (cH (bM (aT (ao (v:=fB) rfl (aR (gj (a:=.bool true) rfl (b7 (ifp rfl (bu (cr (ao (v:=.mref (M.length + 1)) rfl ?_))))))))))))
 refine ⟨_,_,rfl,ij,?_⟩
 refine wr rfl (pC rfl (aj (aB ?_)))
 refine i5 fB (fs:=[]) (ws:=[]) (ks:=[oQ]) (by simp [eu,oQ,ndV]) (by simp) fun z y=>?_
 refine i5 fB (fs:=[fB]) (ws:=[]) (ks:=[vaV 1 3,p6 0]) (by simp [eu,vaV,p6,ndV]) (by simp) fun z y=>?_
 refine i5 fB (fs:=[fB,oQ]) (ws:=[p6 0]) (ks:=[]) (by simp) (by simp) fun z y=>?_
 refine i5 fB (fs:=[fB,oQ,vaV 1 3]) (ws:=[]) (ks:=[]) (by simp) (by simp) fun z y=>?_
 refine pb fB ?_
 refine aj (a8 (ao (v:=.mref M.length) rfl (aF ?_)))
 exact k
end
end Mine
end
section
open PySem PySem.W PySem.Spec PySem.Calls PySem.SeqAt PyProof.Rows
namespace Mine
noncomputable def EZ (o : Nat) : ah:=.inst 60 [("obj",.mref o),("params",.lst []),("locals",.lst []),("procs",.lst []),("body",fB),("result",.none),("level",.int 2)]
noncomputable def rd (inn : Bool) : List ae:=if inn then [fB,oQ,vaV 1 3,p6 0] else []
noncomputable def awI (inn : Bool) : List (Int × ae):=if inn then [(3,.bool true)] else []
noncomputable def tI (inn : Bool) : Fin 16:=if inn then 7 else 15
noncomputable def slD (T : Fin 16) : List (Int × ae):=(([0,1,2,3] : List (Fin 4)).filter (bV T)).map fun s=>((s.val : Int),c8 s)
structure di (M : List ah) (inn : Bool) (body result : ae) : Prop where
 tree : ∃ procs,M[48]? = some (gd procs body result) ∧ ((inn = false ∧ procs = .lst []) ∨ (inn = true ∧ ∃ k o,procs = .lst [.mref k] ∧ M[k]? = some (EZ o)))
theorem di.pre {M X : List ah} {inn : Bool} {bd rs : ae} (t : di M inn bd rs) : di (M ++ X) inn bd rs:=by
 obtain ⟨procs,h1,h2⟩:=t.tree
 refine ⟨procs,d8 h1,h2.imp id fun ⟨e,k,o,e1,e2⟩=>⟨e,k,o,e1,d8 e2⟩⟩
section
variable {M X : List ah} {d : Nat} {inn : Bool} {bd rs : ae}
theorem di.level (t : di M inn bd rs) {Q : ae → List ah → Prop} : W (aK "level" (.mref 48)) M Q ↔ Q (.int 1) M:=by
 obtain ⟨procs,h1,h2⟩:=t.tree
 exact jH h1 rfl rfl
theorem di.body (t : di M inn bd rs) {Q : ae → List ah → Prop} : W (aK "body" (.mref 48)) M Q ↔ Q bd M:=by
 obtain ⟨procs,h1,h2⟩:=t.tree
 exact jH h1 rfl rfl
theorem di.result (t : di M inn bd rs) {Q : ae → List ah → Prop} : W (aK "result" (.mref 48)) M Q ↔ Q rs M:=by
 obtain ⟨procs,h1,h2⟩:=t.tree
 exact jH h1 rfl rfl
theorem di.locals (t : di M inn bd rs) {Q : ae → List ah → Prop} : W (aK "locals" (.mref 48)) M Q ↔ Q (.lst vR) M:=by
 obtain ⟨procs,h1,h2⟩:=t.tree
 exact jH h1 rfl rfl
theorem Dd {vs us : List ae} {Q : ae → List ah → Prop} (hs : vs.length + us.length ≤ 1000) : W (eP [.mref M.length,.lst us]) (M ++ .lst vs :: X) Q ↔ Q .none (M ++ .lst (vs ++ us) :: X):=by
 refine bI ?_
 unfold eP
 dsimp only
 rw [eE]
 dsimp only
 rw [bi (EP hs),if_pos rfl,ji]
theorem xk {vs us : List ae} {Q : ae → List ah → Prop} (hs : vs.length + us.length ≤ 1000) (xx : Q .none (M ++ .lst (vs ++ us) :: X)) : W (eP [.mref M.length,.lst us]) (M ++ .lst vs :: X) Q:=(Dd (vs:=vs) (us:=us) (Q:=Q) (hs:=hs)).mpr xx
theorem CU {x : ah} {vs us : List ae} {Q : ae → List ah → Prop} (hs : vs.length + us.length ≤ 1000) : W (eP [.mref (M.length + 1),.lst us]) (M ++ x :: .lst vs :: X) Q ↔ Q .none (M ++ x :: .lst (vs ++ us) :: X):=by
 refine bI ?_
 unfold eP
 dsimp only
 rw [ij]
 dsimp only
 rw [bi (EP hs),if_pos rfl,t8]
theorem CW {x : ah} {vs us : List ae} {Q : ae → List ah → Prop} (hs : vs.length + us.length ≤ 1000) (xx : Q .none (M ++ x :: .lst (vs ++ us) :: X)) : W (eP [.mref (M.length + 1),.lst us]) (M ++ x :: .lst vs :: X) Q:=(CU (x:=x) (vs:=vs) (us:=us) (Q:=Q) (hs:=hs)).mpr xx
theorem xF {x : ah} {v : ae} {Q : ae → List ah → Prop} : W (kP [.mref (M.length + 1)]) (M ++ x :: .lst [v] :: X) Q ↔ Q v (M ++ x :: .lst [] :: X):=zM (vs:=[]) (by simp)
theorem zb {x : ah} {v : ae} {Q : ae → List ah → Prop} (xx : Q v (M ++ x :: .lst [] :: X)) : W (kP [.mref (M.length + 1)]) (M ++ x :: .lst [v] :: X) Q:=(xF (x:=x) (v:=v) (Q:=Q)).mpr xx
theorem zR {vs : List ae} (h : vs.length ≤ 1000) {Q : ae → List ah → Prop} : W (m5 [.lst vs]) M Q ↔ Q (.mref M.length) (M ++ [.lst vs]):=by
 refine bI ?_
 unfold m5 cz
 dsimp only
 rw [bi (Ao h),if_pos rfl]; rfl
theorem sZ {vs : List ae} (h : vs.length ≤ 1000) {Q : ae → List ah → Prop} (xx : Q (.mref M.length) (M ++ [.lst vs])) : W (m5 [.lst vs]) M Q:=(zR (vs:=vs) (h:=h) (Q:=Q)).mpr xx
theorem rU {e : Nat} (he : 2 ≤ e) (t : di M inn bd rs) {Q : ae → List ah → Prop} (k : ∀ X,Q (.mref M.length) (M ++ .lst (rd inn) :: X)) : W (sem e .f_inner_nodes [.mref 48]) M Q:=by
 obtain ⟨d,rfl⟩ : ∃ d,e = d + 1:=⟨e - 1,(Am he)⟩
 obtain ⟨procs,h1,h2⟩:=t.tree
 rw [oB]
 refine bK (loc0:=[some (.mref 48),none,none,none]) (by simp) rfl ?_
 unfold dY
 refine aB (aP (cU (av ?_)))
 refine ⟨rfl,?_⟩
 refine aj (aB (aP (aA (ag (ba (ao (v:=.mref 48) rfl (iB (d8 h1) rfl (v:=procs) rfl (av ?_))))))))
 rcases h2 with ⟨rfl,rfl⟩ | ⟨rfl,k',o,rfl,hk⟩
 ·refine sZ (by simp) ?_
  rw [AX,Af]
  refine aj (aB (g8 (bM (aT (aA (ag (ao (v:=.mref (M.length + 1)) rfl (av (nV (by simp) (aR (wL (b7 (ifn (by simp) (aj (a8 (ao (v:=.mref M.length) rfl (aF ?_)))))))))))))))))
  exact k _
 ·refine sZ (by simp) ?_
  rw [AX,Af]
  refine aj (aB (g8 (bM (aT (aA (ag (ao (v:=.mref (M.length + 1)) rfl (av (nV (by simp) (aR (wL (b7 (ifp (by simp) (aB (aP (cr (ao (v:=.mref (M.length + 1)) rfl ?_)))))))))))))))))
  refine ⟨_,_,rfl,ij,?_⟩
  refine av (zb (aj (aB (bu (cr (ao (v:=.mref M.length) rfl ?_))))))
  refine ⟨_,_,rfl,eE,?_⟩
  refine ag (lQ (aA (ag (ba (ao (v:=.mref k') rfl (iB (d8 hk) rfl (v:=fB) rfl (av ?_)))))))
  refine u0 (yK he) ⟨_,_,_,rfl,eE,rfl,?_⟩
  rw [ji]
  refine av ?_
  rw [List.append_assoc,List.cons_append,List.cons_append,List.nil_append]
  refine xk (by simp) (aj (aB (bu (cr (ao (v:=.mref M.length) rfl ?_)))))
  refine ⟨_,_,rfl,eE,?_⟩
  refine ag (lQ (aA (ag (ba (ao (v:=.mref k') rfl (iB (d8 hk) rfl (v:=.none) rfl (av ?_)))))))
  refine ug (yK he) ⟨_,_,_,rfl,eE,rfl,?_⟩
  rw [ji]
  refine av ?_
  rw [List.append_assoc,List.cons_append,List.cons_append]
  refine xk (by simp) (aj (bu (cr (ao (v:=.mref (M.length + 1)) rfl ?_))))
  refine ⟨_,_,rfl,ij,?_⟩
  refine ag (ba (ao (v:=.mref k') rfl (iB (d8 hk) rfl (v:=.lst []) rfl (av (CW (by simp) ?_)))))
  dsimp only
  refine g8 (bM (aT (aA (ag (ao (v:=.mref (M.length + 1)) rfl (av (nV (by simp) (aR (wL (b7 (ifn (by simp) (aj (a8 (ao (v:=.mref M.length) rfl (aF ?_)))))))))))))))
  exact k _
theorem CK {kvs : List (Int × ae)} {x : Int} {v : ae} {Q : Unit → List ah → Prop} (h : kvs.length ≤ 1000) : W (fI (.mref M.length) (.int x) v) (M ++ .idict kvs :: X) Q ↔ Q () (M ++ .idict (jE kvs x v) :: X):=by
 refine bI ?_
 unfold fI
 dsimp only
 rw [eE]
 dsimp only
 rw [bi (Ao h),if_pos rfl,ji]
theorem yH {kvs : List (Int × ae)} {x : Int} {v : ae} {Q : Unit → List ah → Prop} (h : kvs.length ≤ 1000) (xx : Q () (M ++ .idict (jE kvs x v) :: X)) : W (fI (.mref M.length) (.int x) v) (M ++ .idict kvs :: X) Q:=(CK (kvs:=kvs) (x:=x) (v:=v) (Q:=Q) (h:=h)).mpr xx
theorem yn {e : Nat} (he : 1 ≤ e) {Q : ae → List ah → Prop} : W (sem e .f_is_scalar [dE]) M Q ↔ Q (.bool true) M:=by
 obtain ⟨d,rfl⟩ : ∃ d,e = d + 1:=⟨e - 1,(oK he)⟩
 exact bI (by kernel_rfl)
theorem xM {e : Nat} (he : 1 ≤ e) {Q : ae → List ah → Prop} (xx : Q (.bool true) M) : W (sem e .f_is_scalar [dE]) M Q:=(yn (e:=e) (he:=he) (Q:=Q)).mpr xx
theorem xH {s : Fin 4} {Q : ae → List ah → Prop} : W (aK "type" (c8 s)) M Q ↔ Q dE M:=bI (by kernel_rfl)
theorem E2 {s : Fin 4} {Q : ae → List ah → Prop} (xx : Q dE M) : W (aK "type" (c8 s)) M Q:=(xH (s:=s) (Q:=Q)).mpr xx
noncomputable def By (c : Fn → List ae → Mo ae) : Loc → Mo (Fl × Loc):=sIf (ki (a6 (aq (c .f_is_scalar) (ab (aS (aK "type") (af 4)) am))) (a6 (aE dw (aS (aK "slot") (af 4)) (af 1)))) (gC fI (af 3) (aS (aK "slot") (af 4)) (af 4)) bD
theorem kh {P : List ah} {aw : List (Int × ae)} {kvs : List (Int × ae)} {a : ae} {ai : Nat} {y : Option ae} {s : Fin 4} (hd : 1 ≤ d) (haw : P[ai]? = some (.idict aw)) (hk : kvs.length ≤ 1000) {Q : Fl × Loc → List ah → Prop}
  (k : Q (.next,[some a,some (.mref ai),y,some (.mref P.length),some (c8 s)]) (P ++ [.idict (if (aw.lookup (s.val : Int)).isSome then kvs else jE kvs (s.val : Int) (c8 s))])) :
  W (By (sem d) [some a,some (.mref ai),y,some (.mref P.length),some (c8 s)]) (P ++ [.idict kvs]) Q:=by
 unfold By
 have e1 : dw (.int (s.val : Int)) (.mref ai) (P ++ [.idict kvs]) = some (.bool (!(aw.lookup (s.val : Int)).isSome),P ++ [.idict kvs]):=by
  unfold dw iT
  dsimp only
  rw [d8 haw]; rfl
 refine cH (io (bM (aA (wr rfl (xM hd (b7 (ifp rfl (bM (aT (wr rfl (ao (v:=.mref ai) rfl (gj e1 (b7 ?_)))))))))))))
 cases hc : (aw.lookup (s.val : Int)).isSome with
 | true=>
  rw [hc,if_pos rfl] at k
  rw [Bool.not_true]
  refine ifn (by decide) (cA ?_)
  exact k
 | false=>
  rw [hc,if_neg (by decide)] at k
  rw [Bool.not_false]
  refine ifp rfl (mF (ao (v:=c8 s) rfl (ao (v:=.mref P.length) rfl (wr rfl (yH hk ?_)))))
  exact k
theorem wy {s : Fin 4} {Q : ae → List ah → Prop} : W (aK "level" (c8 s)) M Q ↔ Q (.int 1) M:=n9
theorem D5 {s : Fin 4} {Q : ae → List ah → Prop} (xx : Q (.int 1) M) : W (aK "level" (c8 s)) M Q:=(wy (s:=s) (Q:=Q)).mpr xx
theorem xN {e : Nat} (he : 3 ≤ e) (t : di M inn bd rs) {Q : ae → List ah → Prop} (k : ∀ X sl,M.length ≤ sl → (M ++ X)[sl]? = some (.idict (slD (tI inn))) → Q (.mref sl) (M ++ X)) : W (sem e .f_followed [.mref 48]) M Q:=by
 obtain ⟨d,rfl⟩ : ∃ d,e = d + 1:=⟨e - 1,(GU he)⟩
 rw [vb]
 refine bK (loc0:=[some (.mref 48),none,none,none,none]) (by simp) rfl ?_
 unfold gg
 refine aB (aP (gj (a:=.mref M.length) (M':=M ++ [.idict []]) rfl (aj (aB (ci (lQ (aA (wr rfl ?_))))))))
 refine rU (Jm he) (t.pre (X:=[.idict []])) fun X=>⟨_,_,_,rfl,eE,rfl,_,rfl,?_⟩
 rw [ji,List.append_assoc,List.cons_append,List.nil_append]
 have aw : W (dU 2 (sIf (ki (a6 (aE oEq (aS (aK "op") (af 2)) (ar (.str "var")))) (a6 (aE oEq (aS (aK "level") (aS (aK "value") (af 2))) (aS (aK "level") (af 0))))) (gC fI (af 1) (aS (aK "slot") (aS (aK "value") (af 2))) (ar (.bool true))) bD) (rd inn) ([some (.mref 48),none,none,none,none].set 1 (some (.mref M.length)))) (M ++ .idict [] :: .gone :: X) (fun r M1=>∃ z,r = (.next,[some (.mref 48),some (.mref M.length),z,none,none]) ∧ M1 = M ++ .idict (awI inn) :: .gone :: X):=by
  cases inn with
  | false=>
   unfold rd awI
   simp only [Bool.false_eq_true,if_false]
   refine bN ?_
   exact ⟨_,rfl,rfl⟩
  | true=>
   unfold rd awI
   simp only [if_true]
   refine aY (cH (io (bM (aT (ba (ao (v:=fB) rfl ?_))))))
   rw [show fB = .inst 32 (ndF "block" (.int 0) .none (.lst [oQ]) .none) from rfl]
   refine nz (aR (ig (b7 (ifn (by decide) (ifn (by decide) (cA ?_))))))
   dsimp only
   refine aY (cH (io (bM (aT (ba (ao (v:=oQ) rfl ?_))))))
   rw [show oQ = .inst 32 (ndF "assign" (.int 0) .none (.lst [vaV 1 3,p6 0]) .none) from rfl]
   refine nz (aR (ig (b7 (ifn (by decide) (ifn (by decide) (cA ?_))))))
   dsimp only
   refine aY (cH (io (bM (aT (ba (ao (v:=vaV 1 3) rfl ?_))))))
   rw [show vaV 1 3 = .inst 32 (ndF "var" (.int 1) dE (.lst []) (c8 3)) from rfl]
   refine nz (aR (ig (b7 (ifp (by decide) (bM (aT (wr rfl (ba (ao (v:=.mref 48) rfl ?_)))))))))
   rw [t.pre.level]
   refine eH (b7 (ifp (by decide) (mF (aR (ao (v:=.mref M.length) rfl (wr rfl (yH (by simp) ?_)))))))
   dsimp only
   refine aY (cH (io (bM (aT (ba (ao (v:=p6 0) rfl ?_))))))
   rw [show p6 0 = .inst 32 (ndF "const" (.int 0) dE (.lst []) (.int 1)) from rfl]
   refine nz (aR (ig (b7 (ifn (by decide) (ifn (by decide) (cA ?_))))))
   dsimp only
   refine bN ?_
   exact ⟨_,rfl,rfl⟩
 refine b9 aw ?_
 rintro _ _ ⟨z,rfl,rfl⟩
 refine aj (aB (aP (gj (a:=.mref (M ++ .idict (awI inn) :: .gone :: X).length) (M':=(M ++ .idict (awI inn) :: .gone :: X) ++ [.idict []]) rfl (aj (aB (ci (ba (ao (v:=.mref 48) rfl ?_))))))))
 rw [(t.pre.pre (X:=[.idict []])).locals]
 refine ⟨_,rfl,?_⟩
 generalize hP : M ++ .idict (awI inn) :: .gone :: X = P
 have haw : P[M.length]? = some (.idict (awI inn)):=by rw [← hP]; exact eE
 have h1 : 1 ≤ d:=Hz he
 unfold vR
 refine aY ?_
 refine kh (d:=d) h1 haw (by simp) ?_
 dsimp only
 refine aY ?_
 refine kh (d:=d) h1 haw (by cases inn <;> simp [awI,jE]) ?_
 dsimp only
 refine aY ?_
 refine kh (d:=d) h1 haw (by cases inn <;> simp [awI,jE]) ?_
 dsimp only
 refine aY ?_
 refine kh (d:=d) h1 haw (by cases inn <;> simp [awI,jE]) ?_
 dsimp only
 refine bN (aj (a8 (ao (v:=.mref P.length) rfl (aF ?_))))
 rw [← hP,List.append_assoc]
 refine k _ _ ?_ ?_
 ·rw [List.length_append]; exact o58
 ·rw [← List.append_assoc,bH]
  cases inn <;> kernel_rfl
end
end Mine
end
section
open PySem PySem.W PySem.Spec PySem.Calls PySem.SeqAt PyProof.Rows
namespace Mine
noncomputable def j2 (p : Int) (s : Fin 4) : ae:=.tup [.int p,.str (nmS s.val)]
theorem z0 : ∀ (T : Fin 16) (s : Fin 4),((slD T).lookup (s.val : Int)).isSome = bV T s:=by decide
theorem Fg (inn : Bool) (s : Fin 4) (h : bV (tI inn) s = true) : (slD (tI inn)).lookup (s.val : Int) = some (c8 s):=by
 cases inn with
 | true=>
  match s,h with
  | 0,_=>kernel_rfl
  | 1,_=>kernel_rfl
  | 2,_=>kernel_rfl
  | 3,h=>exact absurd h (by decide)
 | false=>
  match s,h with
  | 0,_=>kernel_rfl
  | 1,_=>kernel_rfl
  | 2,_=>kernel_rfl
  | 3,_=>kernel_rfl
theorem kT (f : Fin 4 → ae) (σ : Int → Fin 4) {p : Int} : ∀ (hd : Rd),(∀ q ∈ hd,σ q.1 = q.2) → p ∈ hd.map (·.1) → (hd.map fun q=>(q.1,f q.2)).lookup p = some (f (σ p))
 | [],_,h=>by cases h
 | q :: hd,hσ,h=>by
  rw [List.map_cons,List.lookup_cons]
  by_cases e : p = q.1
  ·subst e
   rw [beq_self_eq_true]
   dsimp only
   rw [hσ q List.mem_cons_self]
  ·rw [beq_eq_false_iff_ne.mpr e]
   refine kT f σ hd (fun q hq=>hσ q (List.mem_cons_of_mem _ hq)) ?_
   rw [List.map_cons,List.mem_cons] at h
   exact h.elim (fun h=>absurd h e) id
section
variable {M X : List ah} {d : Nat} {inn : Bool} {bd rs : ae}
theorem De {C : Addr} {F : List ae → Mo ae} {as : List ae} {Q : ae → List ah → Prop} (h : W (F (.mref M.length :: as)) (M ++ [.inst C []]) fun v M'=>v = .none ∧ Q (.mref M.length) M') : W (gQ C F as) M Q:=by
 obtain ⟨v,M',e,rfl,q⟩:=h
 refine ⟨.mref M.length,M',?_,q⟩
 unfold gQ
 rw [e]
theorem A0 {C : Addr} {fs : List (Str × ae)} {x : Str} {v : ae} {Q : Unit → List ah → Prop} (hC : cL.contains C = true) (hl : decide (fs.length ≤ 900) = true) : W (bR x (.mref M.length) v) (M ++ .inst C fs :: X) Q ↔ Q () (M ++ .inst C (jG x v fs) :: X):=by
 refine bI ?_
 unfold bR
 dsimp only
 rw [eE]
 dsimp only
 rw [hC,Bool.true_and,if_pos hl,ji]
theorem q9 {C : Addr} {fs : List (Str × ae)} {x : Str} {v : ae} {Q : Unit → List ah → Prop} (hC : cL.contains C = true) (hl : decide (fs.length ≤ 900) = true) (xx : Q () (M ++ .inst C (jG x v fs) :: X)) : W (bR x (.mref M.length) v) (M ++ .inst C fs :: X) Q:=(A0 (C:=C) (fs:=fs) (x:=x) (v:=v) (Q:=Q) (hC:=hC) (hl:=hl)).mpr xx
theorem xy {e : Nat} (he : 4 ≤ e) (t : di M inn bd rs) {Q : ae → List ah → Prop} (k : ∀ X sl,FB (M ++ X) M.length sl (tI inn) → (M ++ X)[sl]? = some (.idict (slD (tI inn))) → Q (.mref M.length) (E (M ++ X) [] [])) : W (sem e .Follower [.mref 48]) M Q:=by
 obtain ⟨d,rfl⟩ : ∃ d,e = d + 1:=⟨e - 1,(HW he)⟩
 rw [ub]
 refine De ?_
 refine bK (loc0:=[some (.mref M.length),some (.mref 48)]) (by simp) rfl ?_
 unfold dt
 refine aB (jV (ba (ao (v:=.mref 48) rfl ?_)))
 rw [t.pre.level]
 refine ao (v:=.mref M.length) rfl (q9 rfl (by kernel_rfl) (aj (aB (jV (aA (wr rfl ?_))))))
 refine xN (I2 he) t.pre fun Y sl hsl hY=>?_
 rw [List.length_append,List.length_singleton] at hsl
 rw [List.append_assoc,List.singleton_append] at hY ⊢
 have swap : ∀ fs : List (Str × ae),(M ++ .inst 116 fs :: Y)[sl]? = some (.idict (slD (tI inn))):=by
  intro fs
  rw [List.getElem?_append_right (Nat.le_of_succ_le hsl)] at hY ⊢
  obtain ⟨m,hm⟩ : ∃ m,sl - M.length = m + 1:=⟨sl - M.length - 1,(Gy hsl)⟩
  rw [hm,List.getElem?_cons_succ] at hY ⊢
  exact hY
 refine ao (v:=.mref M.length) rfl (q9 rfl (by kernel_rfl) (aj (jV ?_)))
 refine uz (a:=.mref (M ++ .inst 116 (jG "slots" (.mref sl) (jG "level" (.int 1) [])) :: Y).length) (M':=(M ++ .inst 116 (jG "slots" (.mref sl) (jG "level" (.int 1) [])) :: Y) ++ [.idict []]) rfl ?_
 refine ao (v:=.mref M.length) rfl ?_
 rw [List.append_assoc,List.cons_append]
 refine q9 rfl (by kernel_rfl) (eC ?_)
 refine ⟨rfl,?_⟩
 generalize hn : (M ++ .inst 116 (jG "slots" (.mref sl) (jG "level" (.int 1) [])) :: Y).length = n
 have hn' : (M ++ yf M.length sl n :: Y).length = n:=by
  rw [← hn,List.length_append,List.length_append,List.length_cons,List.length_cons]
 have f : FB (M ++ yf M.length sl n :: Y) M.length sl (tI inn):=by
  refine ⟨?_,slD (tI inn),swap _,z0 _⟩
  rw [hn']
  exact eE
 have:=k (yf M.length sl n :: Y) sl f (swap _)
 unfold E at this
 rw [List.append_assoc] at this
 exact this
theorem m0 : ∀ T : Fin 16,mV 0 T = .int 0:=by
 intro T
 have : ∀ T : Fin 16,((d6 0 T).val : Int) = 0:=by decide
 unfold mV
 rw [this T]
theorem Bw {s : Fin 4} {Q : ae → List ah → Prop} : W (aK "name" (c8 s)) M Q ↔ Q (.str (nmS s.val)) M:=bI (by kernel_rfl)
theorem wg {s : Fin 4} {Q : ae → List ah → Prop} (xx : Q (.str (nmS s.val)) M) : W (aK "name" (c8 s)) M Q:=(Bw (s:=s) (Q:=Q)).mpr xx
theorem AJ {i : Nat} {kvs : List (Int × ae)} {p : Int} {v : ae} {Q : ae → List ah → Prop} (h : M[i]? = some (.idict kvs)) (hl : kvs.lookup p = some v) : W (aV (.mref i) (.int p)) M Q ↔ Q v M:=by
 refine bI ?_
 unfold aV
 dsimp only
 rw [h]
 dsimp only
 rw [hl]
theorem mB {i : Nat} {kvs : List (Int × ae)} {p : Int} {v : ae} {Q : ae → List ah → Prop} (h : M[i]? = some (.idict kvs)) (hl : kvs.lookup p = some v) (xx : Q v M) : W (aV (.mref i) (.int p)) M Q:=(AJ (i:=i) (kvs:=kvs) (p:=p) (v:=v) (Q:=Q) (h:=h) (hl:=hl)).mpr xx
noncomputable def pS : Loc → Mo ae:=ju (ab (af 0) (ab (aS (aK "name") (aE aV (aS (aK "slots") (af 1)) (aE aV (aS (aK "found") (af 1)) (af 0)))) am))
theorem nW {B J : List ah} {hd : Rd} {st sl : Nat} {σ : Int → Fin 4} (f : FB B st sl (tI inn)) (hs : B[sl]? = some (.idict (slD (tI inn)))) (hσ : ∀ q ∈ hd,σ q.1 = q.2 ∧ bV (tI inn) q.2 = true) {Q : List ae → List ah → Prop} : ∀ (ps : List Int) (acc : List ae),(∀ p ∈ ps,p ∈ hd.map (·.1)) →
  Q (acc ++ ps.map fun p=>j2 p (σ p)) (E B hd J) → W (eD uJ pS [some (.mref st)] (ps.map .int) acc) (E B hd J) Q
 | [],acc,hp,k=>by
  rw [List.map_nil]
  refine lh ?_
  rw [List.map_nil,List.append_nil] at k
  exact k
 | p :: ps,acc,hp,k=>by
  have h1 : (gD hd).lookup p = some (.int ((σ p).val : Int)):=kT (fun s=>.int (s.val : Int)) σ hd (fun q hq=>(hσ q hq).1) (hp p List.mem_cons_self)
  have h2 : bV (tI inn) (σ p) = true:=by
   obtain ⟨q,hq,rfl⟩:=List.mem_map.mp (hp p List.mem_cons_self)
   rw [(hσ q hq).1]
   exact (hσ q hq).2
  unfold pS
  rw [List.map_cons]
  refine g5 (qS (ifp rfl (tM (ag (ao (v:=.int p) rfl (ag (ba (aT (ba (ao (v:=.mref st) rfl (iB f.getSt rfl (v:=.mref sl) rfl (aT (ba (ao (v:=.mref st) rfl (iB f.getSt rfl (v:=.mref B.length) rfl (ao (v:=.int p) rfl (mB xL h1 (mB (show (E B hd J)[sl]? = some (.idict (slD (tI inn))) from d8 hs) (Fg inn _ h2) (wg (av ?_))))))))))))))))))))
  refine ⟨rfl,?_⟩
  refine nW f hs hσ ps (acc ++ [j2 p (σ p)]) (fun q hq=>hp q (List.mem_cons_of_mem _ hq)) ?_
  rw [List.append_assoc]
  exact k
theorem Bc (hd : Rd) : (gD hd).map (·.1) = hd.map (·.1):=by unfold gD; rw [List.map_map]; rfl
theorem Au (hd : Rd) : (fD hd).map (·.1) = hd.map (·.1):=by unfold fD; rw [List.map_map]; rfl
theorem Fc {e : Nat} (he : 30 ≤ e) (t : di M inn bd rs) {F : Den} {r rr R : Rd} (ib : IsB bd F r 3) (hrs : (eu rs = true ∧ rr = []) ∨ (eu rs = false ∧ IsV rs rr 3)) (u : Uni R) (hr : ∀ q ∈ r,q ∈ R) (hrr : ∀ q ∈ rr,q ∈ R) {σ : Int → Fin 4} (hσ : ∀ q ∈ R,σ q.1 = q.2) {Q : ae → List ah → Prop}
  (k : ∀ hd X,Hd R hd → (∀ q,q ∈ hd ↔ (q ∈ (F 0).2 ∨ q ∈ dT (F 0).1 rr) ∧ bV (tI inn) q.2 = true) → Q (.mref (M ++ X).length) (M ++ X ++ [.lst ((gs (hd.map (·.1))).map fun p=>j2 p (σ p))])) :
  W (sem e .f_unset_uses [.mref 48]) M Q:=by
 obtain ⟨d,rfl⟩ : ∃ d,e = d + 1:=⟨e - 1,(Hc he)⟩
 rw [qH]
 refine bK (loc0:=[some (.mref 48),none,none]) (by simp) rfl ?_
 unfold eJ
 refine aB (aP (aA (wr rfl ?_)))
 refine xy (JD he) t fun X sl f hsl=>?_
 have tE : ∀ hd J,di (E (M ++ X) hd J) inn bd rs:=fun hd J=>by unfold E; exact t.pre.pre
 refine aj (aB (aP (aA (ag (ao (v:=.mref M.length) rfl (ag (ba (ao (v:=.mref 48) rfl ?_))))))))
 rw [(tE _ _).body]
 refine wr rfl ?_
 rw [← m0 (tI inn)]
 refine E6 3 _ _ _ ib (JK he) f u hr ⟨fun q hq=>(by cases hq),List.nodup_nil⟩ fun hd1 J1 h1 m1=>?_
 have fin : ∀ hd2 J2,Hd R hd2 → (∀ q,q ∈ hd2 ↔ (q ∈ (F 0).2 ∨ q ∈ dT (F 0).1 rr) ∧ bV (tI inn) q.2 = true) → 
   W (bL (iO [(1, "st")] (aD (aq dQ (ab (aS (aK "found") (af 1)) am))) uJ pS) [some (.mref 48),some (.mref M.length),some (mV (F 0).1 (tI inn))]) (E (M ++ X) hd2 J2) (iU Q):=by
  intro hd2 J2 h2 m2
  have l2:=h2.len u
  have e1 : dQ [.mref (M ++ X).length] (E (M ++ X) hd2 J2) = some (.mref (E (M ++ X) hd2 J2).length,E (M ++ X) hd2 J2 ++ [.lst ((gs (hd2.map (·.1))).map .int)]):=by
   unfold dQ ni
   dsimp only
   rw [xL]
   dsimp only
   rw [Bc,bi (by rw [List.length_map]; exact l2),if_pos rfl]
   rfl
  refine a8 (qL (lQ (aA (ag (ba (ao (v:=.mref M.length) rfl (iB f.getSt rfl (v:=.mref (M ++ X).length) rfl (av (gj e1 ?_)))))))))
  refine ⟨_,_,_,rfl,bH,rfl,_,rfl,bi (by rw [List.length_map,(eh _).length_eq,List.length_map]; exact l2),?_⟩
  rw [cB,kt,show ([(1,("st" : Str))].map fun q=>(([some (.mref 48),some (.mref M.length),some (mV (F 0).1 (tI inn))] : Loc)[q.1]?).join) = [some (.mref M.length)] from rfl]
  refine nW f hsl (σ:=σ) (fun q hq=>⟨hσ q (h2.1 q hq),((m2 q).mp hq).2⟩) (gs (hd2.map (·.1))) [] (fun p hp=>(eh _).mem_iff.mp hp) ?_
  rw [List.nil_append]
  refine aF ?_
  have:=k hd2 (X ++ .idict (gD hd2) :: (J2 ++ [.gone])) h2 m2
  unfold E
  rw [← List.append_assoc] at this
  exact this
 refine aj (aB (cH (bM (aT (ba (ao (v:=.mref 48) rfl ?_))))))
 rw [(tE _ _).result]
 refine aR (gj (a:=.bool (!eu rs)) rfl (b7 ?_))
 rcases hrs with ⟨hn,rfl⟩ | ⟨hn,iv⟩
 ·rw [hn,Bool.not_true]
  refine ifn (by decide) (cA (aj ?_))
  refine fin hd1 _ h1 fun q=>?_
  rw [m1 q]
  constructor
  ·rintro (a | a)
   ·cases a
   ·exact ⟨.inl a.1,a.2⟩
  ·rintro ⟨a | a,b⟩
   ·exact .inr ⟨a,b⟩
   ·cases a
 ·rw [hn,Bool.not_false]
  refine ifp rfl (bu (aA (ag (ao (v:=.mref M.length) rfl (ag (ba (ao (v:=.mref 48) rfl ?_)))))))
  rw [(tE _ _).result]
  refine wr rfl ?_
  refine cF iv (Ic he) f u hrr h1 fun hd2 h2 m2=>?_
  refine aj ?_
  refine fin hd2 _ h2 fun q=>?_
  rw [m2 q,m1 q]
  constructor
  ·rintro ((a | a) | a)
   ·cases a
   ·exact ⟨.inl a.1,a.2⟩
   ·exact ⟨.inr a.1,a.2⟩
  ·rintro ⟨a | a,b⟩
   ·exact .inl (.inr ⟨a,b⟩)
   ·exact .inr ⟨a,b⟩
end
end Mine
end
section
open PySem PySem.W PySem.Spec PySem.Calls PySem.SeqAt PyProof.Rows
namespace Mine
theorem vC {R hd : Rd} (u : Uni R) (h : Hd R hd) : (hd.map (·.1)).Nodup:=by
 have h1:=h.1
 have h2:=h.2
 clear h
 induction hd with
 | nil=>exact List.nodup_nil
 | cons q hd ih=>
  rw [List.nodup_cons] at h2
  rw [List.map_cons,List.nodup_cons]
  refine ⟨fun hm=>?_,ih (fun x hx=>h1 x (List.mem_cons_of_mem _ hx)) h2.2⟩
  obtain ⟨x,hx,e⟩:=List.mem_map.mp hm
  have:=u.inj (h1 x (List.mem_cons_of_mem _ hx)) (h1 q List.mem_cons_self) e
  rw [← this] at h2
  exact h2.1 hx
theorem A3 {R hd hd' : Rd} {T : Fin 16} {σ : Int → Fin 4} (u : Uni R) (hσ : ∀ q ∈ R,σ q.1 = q.2) (h : Hd R hd) (h' : Hd R hd') (hm : ∀ q,q ∈ hd' ↔ q ∈ hd ∧ bV T q.2 = true) :
  gs (hd'.map (·.1)) = (gs (hd.map (·.1))).filter fun p=>bV T (σ p):=by
 refine sM ?_ ((pB _).filter _)
 rw [List.perm_ext_iff_of_nodup (vC u h') ((((eh _).nodup_iff).mpr (vC u h)).filter _)]
 intro p
 rw [List.mem_filter,(eh _).mem_iff]
 constructor
 ·intro hp
  obtain ⟨q,hq,rfl⟩:=List.mem_map.mp hp
  have:=(hm q).mp hq
  exact ⟨List.mem_map.mpr ⟨q,this.1,rfl⟩,by rw [hσ q (h.1 q this.1)]; exact this.2⟩
 ·rintro ⟨hp,e⟩
  obtain ⟨q,hq,rfl⟩:=List.mem_map.mp hp
  rw [hσ q (h.1 q hq)] at e
  exact List.mem_map.mpr ⟨q,(hm q).mpr ⟨hq,e⟩,rfl⟩
noncomputable def f6 (R : Rd) (p : Int) : Fin 4:=match R.find? fun q=>decide (q.1 = p) with
 | some q=>q.2
 | none=>0
theorem w0 {R : Rd} (u : Uni R) : ∀ q ∈ R,f6 R q.1 = q.2:=by
 intro q hq
 unfold f6
 cases hf : R.find? fun x=>decide (x.1 = q.1) with
 | none=>
  have:=List.find?_eq_none.mp hf q hq
  simp at this
 | some x=>
  have h1:=List.find?_some hf
  have h2:=List.mem_of_find?_eq_some hf
  rw [u.inj h2 hq (of_decide_eq_true h1)]
noncomputable def me (σ : Int → Fin 4) (p : Int) : PyData:=.tuple [.int p,.str (nmS (σ p).val)]
theorem jv (σ : Int → Fin 4) : ∀ ps : List Int,eB (ps.map fun p=>j2 p (σ p)) = some (ps.map (me σ))
 | []=>rfl
 | p :: ps=>by
  rw [List.map_cons,List.map_cons]
  unfold eB
  rw [jv σ ps]
  rfl
theorem rQ (σ : Int → Fin 4) : ∀ ps : List Int,PyData.eqvAll (ps.map (me σ)) (ps.map (me σ)) = true
 | []=>rfl
 | p :: ps=>by
  rw [List.map_cons,PyData.eqvAll,rQ σ ps,Bool.and_true]
  unfold me
  rw [PyData.eqv,PyData.eqvAll,PyData.eqvAll,PyData.eqvAll,PyData.eqv,PyData.eqv]
  simp
theorem sc (σ : Int → Fin 4) : ∀ ps : List Int,PyData.canLayAll0 (ps.map (me σ)) = true
 | []=>rfl
 | p :: ps=>by
  rw [List.map_cons]
  unfold PyData.canLayAll0
  rw [sc σ ps,Bool.and_true]
  unfold me
  generalize σ p = s
  match s with
  | 0=>kernel_rfl
  | 1=>kernel_rfl
  | 2=>kernel_rfl
  | 3=>kernel_rfl
theorem m4 (σ : Int → Fin 4) : ∀ ps : List Int,PyData.depthAll (ps.map (me σ)) ≤ 1
 | []=>by rw [List.map_nil]; exact Nat.zero_le _
 | p :: ps=>by
  rw [List.map_cons]
  unfold PyData.depthAll
  have:=m4 σ ps
  have h1 : (me σ p).depth ≤ 1:=by
   unfold me PyData.depth PyData.depthAll PyData.depthAll PyData.depthAll PyData.depth
   decide
  exact Nat.max_le.mpr ⟨h1,this⟩
theorem td (σ : Int → Fin 4) (ps : List Int) : shaped (.list (ps.map (me σ))) = true:=by
 unfold shaped PyData.canLay0 PyData.depth
 rw [sc]
 have:=m4 σ ps
 simp only [Bool.true_and,decide_eq_true_eq]
 exact Nat.le_trans (Nat.succ_le_succ this) (by decide)
section
variable {M X : List ah} {d : Nat} {inn : Bool}
theorem H0 : ∀ (inn : Bool) (s : Fin 4),(!inn || !decide ((s.val : Int) = 3)) = bV (tI inn) s:=by decide
theorem wd {B J : List ah} {hd : Rd} {σ : Int → Fin 4} {l0 l1 l2 l3 l4 l5 l6 l7 l8 l11 l14 l15 : Option ae} (hl : hd.length ≤ 1000000) (hσ : ∀ q ∈ hd,σ q.1 = q.2) {Q : Fl × Loc → List ah → Prop} : ∀ (ps : List Int) (acc : List Int) (z : Option ae),acc.length + ps.length ≤ 1000000 → (∀ p ∈ ps,p ∈ hd.map (·.1)) →
  (∀ z,Q (.next,[l0,l1,l2,l3,l4,l5,l6,l7,l8,some (.bool inn),some (.mref B.length),l11,some (.mref (D B hd J).length),z,l14,l15]) (D B hd J ++ .lst ((acc ++ ps.filter fun p=>bV (tI inn) (σ p)).map fun p=>j2 p (σ p)) :: X)) →
  W (dU 13 (sIf (tOr (tO (a6 (af 9))) (a6 (aE oNe (aS (aK "slot") (aE aV (af 10) (af 13))) (ar (.int 3))))) (bx (bF be (af 12) (ab (ju (ab (af 13) (ab (aS (aK "name") (aE aV (af 10) (af 13))) am))) am))) bD) (ps.map .int)
   [l0,l1,l2,l3,l4,l5,l6,l7,l8,some (.bool inn),some (.mref B.length),l11,some (.mref (D B hd J).length),z,l14,l15]) (D B hd J ++ .lst (acc.map fun p=>j2 p (σ p)) :: X) Q
 | [],acc,z,hn,hp,k=>by
  rw [List.map_nil]
  refine bN ?_
  have:=k z
  rw [List.filter_nil,List.append_nil] at this
  exact this
 | p :: ps,acc,z,hn,hp,k=>by
  rw [List.length_cons] at hn
  have h1 : (fD hd).lookup p = some (c8 (σ p)):=kT c8 σ hd hσ (hp p List.mem_cons_self)
  have h2 : (D B hd J ++ .lst (acc.map fun p=>j2 p (σ p)) :: X)[B.length]? = some (.idict (fD hd)):=d8 yY
  have cont : W (dU 13 (sIf (tOr (tO (a6 (af 9))) (a6 (aE oNe (aS (aK "slot") (aE aV (af 10) (af 13))) (ar (.int 3))))) (bx (bF be (af 12) (ab (ju (ab (af 13) (ab (aS (aK "name") (aE aV (af 10) (af 13))) am))) am))) bD) (ps.map .int)
    [l0,l1,l2,l3,l4,l5,l6,l7,l8,some (.bool inn),some (.mref B.length),l11,some (.mref (D B hd J).length),some (.int p),l14,l15]) (D B hd J ++ .lst ((acc ++ [p].filter fun p=>bV (tI inn) (σ p)).map fun p=>j2 p (σ p)) :: X) Q:=by
   refine wd hl hσ ps _ _ ?_ (fun x hx=>hp x (List.mem_cons_of_mem _ hx)) fun z=>?_
   ·have:=List.length_filter_le (fun p=>bV (tI inn) (σ p)) [p]
    rw [List.length_singleton] at this
    rw [List.length_append]; exact Nat.le_trans (Nat.le_trans (Nat.add_le_add_right (Nat.add_le_add_left this _) _) (Nat.le_of_eq (Nat.succ_add _ _))) hn
   ·have:=k z
    rw [show p :: ps = [p] ++ ps from rfl,List.filter_append,← List.append_assoc] at this
    exact this
  have test : W (tOr (tO (a6 (af 9))) (a6 (aE oNe (aS (aK "slot") (aE aV (af 10) (af 13))) (ar (.int 3)))) [l0,l1,l2,l3,l4,l5,l6,l7,l8,some (.bool inn),some (.mref B.length),l11,some (.mref (D B hd J).length),some (.int p),l14,l15]) (D B hd J ++ .lst (acc.map fun p=>j2 p (σ p)) :: X) (fun b M1=>b = bV (tI inn) (σ p) ∧ M1 = D B hd J ++ .lst (acc.map fun p=>j2 p (σ p)) :: X):=by
   rw [← H0]
   refine BP (DW (wr rfl ?_))
   cases inn with
   | false=>exact ⟨rfl,rfl⟩
   | true=>
    rw [Bool.not_true]
    refine ifn (by decide) (bM (aT (ba (aT (ao (v:=.mref B.length) rfl (ao (v:=.int p) rfl (mB h2 h1 (A7 (aR (Bm (b7 ?_)))))))))))
    exact ⟨rfl,rfl⟩
  obtain ⟨b,M1,e1,hb,rfl⟩:=test
  rw [List.map_cons]
  refine aY (cH ?_)
  refine uz e1 ?_
  rw [hb]
  cases hc : bV (tI inn) (σ p) with
  | false=>
   refine ifn (by decide) (cA ?_)
   have c':=cont
   rw [List.filter_cons_of_neg (p:=fun p=>bV (tI inn) (σ p)) (a:=p) (by rw [hc]; decide),List.filter_nil,List.append_nil] at c'
   exact c'
  | true=>
   refine ifp rfl (bu (cr (ao (v:=.mref (D B hd J).length) rfl ?_)))
   refine ⟨_,_,rfl,eE,?_⟩
   refine ag (tM (ag (ao (v:=.int p) rfl (ag (ba (aT (ao (v:=.mref B.length) rfl (ao (v:=.int p) rfl (mB h2 h1 (wg (av ?_)))))))))))
   refine ⟨rfl,?_⟩
   refine av (kQ (bi (by rw [List.length_map]; exact G8 hn)) ?_)
   have c':=cont
   rw [List.filter_cons_of_pos (p:=fun p=>bV (tI inn) (σ p)) (a:=p) hc,List.filter_nil,List.map_append] at c'
   exact c'
theorem tW (a b c : Loc → Mo (Fl × Loc)) : au (au a b) c = au a (au b c):=by
 funext loc M
 unfold au bnd
 dsimp only
 cases a loc M with
 | none=>rfl
 | some r=>
  obtain ⟨⟨f,l⟩,M1⟩:=r
  cases f <;> rfl
noncomputable def J2 (A : List ae) (pool : List Int) (S : ae) : List ah:=match jO (sem 199) [some S,some (.mref 2),some (.mref 3),some (.mref 34),some (.int 3),some dG,some (.mref 43),some (.mref 46),some (.mref 48),some (.bool true),none,none,none,none,some (.mref 38),none] (H A pool 0 14 (gd (.lst []) .none .none) [.lst []]) with
 | some (_,M)=>M.drop 53
 | none=>[]
theorem CQ (A : List ae) (pool : List Int) (S : ae) : jO (sem 199) [some S,some (.mref 2),some (.mref 3),some (.mref 34),some (.int 3),some dG,some (.mref 43),some (.mref 46),some (.mref 48),some (.bool true),none,none,none,none,some (.mref 38),none] (H A pool 0 14 (gd (.lst []) .none .none) [.lst []]) =
  some ((.next,[some S,some (.mref 2),some (.mref 3),some (.mref 34),some (.int 3),some dG,some (.mref 43),some (.mref 46),some (.mref 48),some (.bool true),none,none,none,none,some (.mref 38),some (.mref 55)]),H A pool 1 14 (gd (.lst [.mref 55]) .none .none) (J2 A pool S)):=by kernel_rfl
theorem xh (A : List ae) (pool pool' : List Int) (n k : Int) (S : ae) (t : ah) (J : List ah) : (H A pool' n k t (J2 A pool S ++ J))[55]? = some (EZ 54):=by kernel_rfl
end
end Mine
end
section
open PySem PySem.W PySem.Spec PySem.Calls PySem.SeqAt PyProof.Rows
namespace Mine
section
variable {A : List ae} {pool : List Int} {n k : Int} {J : List ah} {inn : Bool}
noncomputable def nH (inn : Bool) : ae:=if inn then .lst [.mref 55] else .lst []
theorem yb {procs v : ae} {Q : Unit → List ah → Prop} : W (bR "body" (.mref 48) v) (H A pool n k (gd procs .none .none) J) Q ↔ Q () (H A pool n k (gd procs v .none) J):=bI (by kernel_rfl)
theorem u9 {procs b v : ae} {Q : Unit → List ah → Prop} : W (bR "result" (.mref 48) v) (H A pool n k (gd procs b .none) J) Q ↔ Q () (H A pool n k (gd procs b v) J):=bI (by kernel_rfl)
theorem dB3 : (dB 3 : Int) = 2758:=by decide
theorem I0 : ae.lst [ae.lst []] = .lst (([0] : List (Fin 16)).map stV):=by
 have : cm 0 = []:=by decide
 unfold List.map stV
 rw [this]; rfl
theorem r6 {S : ae} {l15 : Option ae} {bd rs : ae} {F : Den} {r rr : Rd} {n0 : Int} (t : di (H A pool n k (gd (nH inn) bd rs) J) inn bd rs) (ib : IsB bd F r 3) (hrs : (eu rs = true ∧ rr = []) ∨ (eu rs = false ∧ IsV rs rr 3)) (pl : Pl n0 n (r ++ rr) 100000) :
  W (au (jW (sem 199)) (au (ku (sem 199)) (au (jQ (sem 199)) (au (iN (sem 199)) (au (iL (sem 199)) (iE (sem 199)))))) 
   [some S,some (.mref 2),some (.mref 3),some (.mref 34),some (.int 3),some dG,some (.mref 43),some (.mref 46),some (.mref 48),some (.bool inn),none,none,none,none,some (.mref 38),l15]) (H A pool n k (gd (nH inn) bd rs) J) (iU fun v _=>v = .bool true):=by
 have u : Uni (r ++ rr):=⟨pl.2.2.1,Int.ofNat_le.mp (Int.le_trans pl.len (Int.le_trans (Int.sub_left_le_of_le_add pl.2.2.2) (by decide)))⟩
 have hr : ∀ q ∈ r,q ∈ r ++ rr:=fun q hq=>List.mem_append_left _ hq
 have hrr : ∀ q ∈ rr,q ∈ r ++ rr:=fun q hq=>List.mem_append_right _ hq
 have hσ:=w0 u
 generalize hB : H A pool n k (gd (nH inn) bd rs) J = B at t ⊢
 have tD : ∀ hd J,di (D B hd J) inn bd rs:=fun hd J=>by unfold D; exact t.pre
 unfold jW
 refine aB (aP (gj (a:=.mref B.length) (M':=D B [] []) (by unfold D; rfl) (aj ?_)))
 unfold ku
 refine aB (aP (aA (ag (ba (ao (v:=.mref 48) rfl ?_)))))
 rw [(tD _ _).body]
 refine ag (lu (ag (jK (av ?_))))
 refine ⟨rfl,?_⟩
 rw [de,de]
 refine wr rfl ?_
 rw [List.map_nil,I0]
 refine BW 3 _ _ _ ib (by decide) u hr ⟨fun q hq=>(by cases hq),List.nodup_nil⟩ (by decide) (by decide) fun S' hd1 J1 ne1 nd1 e1 h1 m1=>?_
 rw [show br [0] = 0 by decide] at e1 m1
 have fin : ∀ hd2 J2,Hd (r ++ rr) hd2 → (∀ q,q ∈ hd2 ↔ q ∈ (F 0).2 ∨ q ∈ dT (F 0).1 rr) → 
   W (au (iN (sem 199)) (au (iL (sem 199)) (iE (sem 199)))
    [some S,some (.mref 2),some (.mref 3),some (.mref 34),some (.int 3),some dG,some (.mref 43),some (.mref 46),some (.mref 48),some (.bool inn),some (.mref B.length),some (.lst (S'.map stV)),none,none,some (.mref 38),l15]) (D B hd2 J2) (iU fun v _=>v = .bool true):=by
  intro hd2 J2 h2 m2
  have l2:=h2.len u
  have hσ2 : ∀ q ∈ hd2,f6 (r ++ rr) q.1 = q.2:=fun q hq=>hσ q (h2.1 q hq)
  unfold iN
  refine aB (aP (cU (av ?_)))
  refine ⟨rfl,?_⟩
  have e2 : dQ [.mref B.length] (D B hd2 J2 ++ [ah.lst []]) = some (.mref (D B hd2 J2 ++ [ah.lst []]).length,D B hd2 J2 ++ [ah.lst []] ++ [ah.lst ((gs (hd2.map (·.1))).map .int)]):=by
   unfold dQ ni
   dsimp only
   rw [d8 (yY (J:=J2))]
   dsimp only
   rw [Au,bi (by rw [List.length_map]; exact l2),if_pos rfl]
   rfl
  unfold iL
  refine aj (aB (ci (lQ (aA (wr rfl (gj e2 ?_))))))
  refine ⟨_,_,_,rfl,bH,rfl,_,rfl,?_⟩
  rw [cB,List.append_assoc,List.singleton_append]
  refine wd (σ:=f6 (r ++ rr)) l2 hσ2 (gs (hd2.map (·.1))) [] none (by rw [(eh _).length_eq,List.length_map]; simp; exact l2) (fun p hp=>(eh _).mem_iff.mp hp) fun z=>?_
  unfold iE
  rw [List.nil_append]
  refine aj (a8 (aT (aA (wr rfl ?_))))
  refine Fc (by decide) (tD _ _).pre ib hrs u hr hrr hσ fun hd3 X3 h3 m3=>?_
  refine ao (v:=.mref (D B hd2 J2).length) rfl ?_
  have ke:=A3 (T:=tI inn) u hσ h2 h3 fun q=>by rw [m3 q,m2 q]
  rw [ke]
  generalize ((gs (hd2.map (·.1))).filter fun p=>bV (tI inn) (f6 (r ++ rr) p)) = ps
  generalize hM : D B hd2 J2 ++ ah.lst (ps.map fun p=>j2 p (f6 (r ++ rr) p)) :: [ah.gone] ++ X3 = M
  have d1 : cI (.mref M.length) (M ++ [.lst (ps.map fun p=>j2 p (f6 (r ++ rr) p))]) = some (.list (ps.map (me (f6 (r ++ rr))))):=by
   unfold cI
   dsimp only
   rw [bH]
   dsimp only
   rw [jv]; rfl
  have d2 : cI (.mref (D B hd2 J2).length) (M ++ [.lst (ps.map fun p=>j2 p (f6 (r ++ rr) p))]) = some (.list (ps.map (me (f6 (r ++ rr))))):=by
   unfold cI
   dsimp only
   rw [← hM,List.append_assoc,List.append_assoc,List.cons_append,eE]
   dsimp only
   rw [jv]; rfl
  refine uz (a:=.bool true) (M':=M ++ [ah.lst (ps.map fun p=>j2 p (f6 (r ++ rr) p))]) ?_ (by exact rfl)
  unfold oEq
  dsimp only
  rw [d1,d2]
  dsimp only
  rw [td,PyData.eqv,rQ]; rfl
 unfold jQ
 refine aj (aB (cH (bM (aT (ba (ao (v:=.mref 48) rfl ?_))))))
 rw [(tD _ _).result]
 refine aR (gj (a:=.bool (!eu rs)) rfl (b7 ?_))
 rcases hrs with ⟨hn,rfl⟩ | ⟨hn,iv⟩
 ·rw [hn,Bool.not_true]
  refine ifn (by decide) (cA (aj ?_))
  refine fin hd1 _ h1 fun q=>?_
  rw [m1 q]
  constructor
  ·rintro (a | a)
   ·cases a
   ·exact .inl a
  ·rintro (a | a)
   ·exact .inr a
   ·cases a
 ·rw [hn,Bool.not_false]
  refine ifp rfl (bu (aA (ag (ba (ao (v:=.mref 48) rfl ?_)))))
  rw [(tD _ _).result]
  refine wr rfl ?_
  refine dX iv (by decide) u hrr h1 fun hd2 h2 m2=>?_
  refine aj ?_
  refine fin hd2 _ h2 fun q=>?_
  rw [m2 q,m1 q,e1]
  constructor
  ·rintro ((a | a) | a)
   ·cases a
   ·exact .inl a
   ·exact .inr a
  ·rintro (a | a)
   ·exact .inl (.inr a)
   ·exact .inr a
theorem vG {S : ae} {l15 : Option ae} {J0 : List ah} (hp : pool.length ≤ 1000) (ht : ∀ (p : List Int) (n k : Int) (b r : ae) (J : List ah),di (H A p n k (gd (nH inn) b r) (J0 ++ J)) inn b r) :
  W (au (nN (sem 199)) (au (nO (sem 199)) (au (jW (sem 199)) (au (ku (sem 199)) (au (jQ (sem 199)) (au (iN (sem 199)) (au (iL (sem 199)) (iE (sem 199)))))))) 
   [some S,some (.mref 2),some (.mref 3),some (.mref 34),some (.int 3),some dG,some (.mref 43),some (.mref 46),some (.mref 48),some (.bool inn),none,none,none,none,some (.mref 38),l15]) (H A pool n k (gd (nH inn) .none .none) J0) (iU fun v _=>v = .bool true):=by
 unfold nN
 refine aB (jV (aA (wr rfl ?_)))
 rw [show (0 : Int) = 3 - ((3 : Nat) : Int) by decide]
 refine sN 3 _ _ _ _ _ _ _ _ (by decide) (by decide) (Ao hp) fun b F r p1 n1 k1 J1 ib lb e1=>?_
 rw [dB3] at lb
 refine ao (v:=.mref 48) rfl ?_
 rw [yb]
 refine aj ?_
 unfold nO
 have dl:=iq p1
 refine aB (cH (bM (aT (aA (wr rfl (dC (by decide) (Hi hp e1) (by decide) (aR (eH (b7 ?_)))))))))
 by_cases h1 : drV p1 2 = 1
 ·refine ifp (decide_eq_true h1) (jV (aA (wr rfl ?_)))
  refine eW (by decide) (Jf hp e1 dl) fun v rr p2 n2 J2 iv lv e2=>?_
  refine ao (v:=.mref 48) rfl ?_
  rw [u9]
  refine aj ?_
  have nn : eu v = false:=by cases iv <;> rfl
  rw [List.append_assoc,List.append_assoc]
  exact r6 (ht _ _ _ _ _ _) ib (.inr ⟨nn,iv.up (by decide)⟩) ((lb.append lv).up (by decide))
 ·refine ifn (by rw [decide_eq_true_eq]; exact h1) (cA (aj ?_))
  rw [List.append_assoc]
  exact r6 (rr:=[]) (ht _ _ _ _ _ _) ib (.inl ⟨rfl,rfl⟩) (by rw [List.append_nil]; exact lb.up (by decide))
end
noncomputable def Bx : Loc → Mo (Fl × Loc):=(au (mX (sem 199)) (au (mI (sem 199)) (au (mQ (sem 199)) (au (mE (sem 199)) (au (mO (sem 199)) (au (mU (sem 199)) (au (mN (sem 199)) (au (mK (sem 199)) (au (mL (sem 199)) (au (kH (sem 199)) (au (j0 (sem 199)) (au (j4 (sem 199)) (kC (sem 199))))))))))))))
theorem plain (ns : List Int) (hn : ns.length ≤ 63) : ∃ M',sem 200 .f_law [.lst (ns.map .int)] [] = some (.bool true,M'):=by
 have h : W (sem 200 .f_law [.lst (ns.map .int)]) [] fun v _=>v = .bool true:=by
  rw [show (200 : Nat) = 199 + 1 from rfl,Fk]
  refine bK (loc0:=some (.lst (ns.map .int)) :: List.replicate 15 none) (by simp) rfl ?_
  unfold tP
  generalize hS : ae.lst (ns.map .int) = S
  have s0 : ∀ rest : Loc → Mo (Fl × Loc),(∀ (A : List ae) (pool : List Int),pool.length ≤ 240 → W (rest [some S,some (.mref 2),none,none,none,none,none,none,none,none,none,none,none,none,none,none]) [.lst A,.gone,.lst (pool.map .int)] (iU fun v _=>v = .bool true)) → W (au (pZ (sem 199)) rest (some S :: List.replicate 15 none)) [] (iU fun v _=>v = .bool true):=by
   intro rest hr
   unfold pZ
   refine aB (aP (aA (wr rfl ?_)))
   rw [← hS]
   refine zK (by decide) (Jy hn) fun A pool hp=>?_
   refine aj ?_
   rw [hS]
   exact hr A pool hp
  refine s0 _ fun A pool hp=>?_
  have asc : ∀ rest : Loc → Mo (Fl × Loc),W (rest [some S,some (.mref 2),some (.mref 3),some (.mref 34),some (.int 3),some dG,some (.mref 43),some (.mref 46),some (.mref 48),none,none,none,none,none,some (.mref 38),none]) (H A pool 0 14 (gd (.lst []) .none .none) []) (iU fun v _=>v = .bool true) →
    W (au (mX (sem 199)) (au (mI (sem 199)) (au (mQ (sem 199)) (au (mE (sem 199)) (au (mO (sem 199)) (au (mU (sem 199)) (au (mN (sem 199)) (au (mK (sem 199)) (au (mL (sem 199)) (au (kH (sem 199)) (au (j0 (sem 199)) (au (j4 (sem 199)) (au (kC (sem 199)) rest))))))))))))
     [some S,some (.mref 2),none,none,none,none,none,none,none,none,none,none,none,none,none,none]) [.lst A,.gone,.lst (pool.map .int)] (iU fun v _=>v = .bool true):=by
   intro rest hr
   have : W (au Bx rest [some S,some (.mref 2),none,none,none,none,none,none,none,none,none,none,none,none,none,none]) [.lst A,.gone,.lst (pool.map .int)] (iU fun v _=>v = .bool true):=by
    refine aB ?_
    exact uz (Cj A pool S) hr
   unfold Bx at this
   simp only [tW] at this
   exact this
  refine asc _ ?_
  have dl:=iq pool
  unfold re
  refine aB (aP (aT (aA (wr rfl (dC (by decide) (Ei hp) (by decide) (aR (eH (aj (aB ?_)))))))))
  by_cases h2 : drV pool 3 = 2
  ·rw [decide_eq_true h2]
   refine uz (CQ A pool.dropLast S) ?_
   refine aj ?_
   refine vG (inn:=true) (F1 hp dl) fun p n k b r J=>⟨_,rfl,.inr ⟨rfl,55,54,rfl,xh _ _ _ _ _ _ _ _⟩⟩
  ·rw [decide_eq_false h2]
   unfold jO
   refine cH (wr rfl (ifn (by decide) (cA (aj ?_))))
   exact vG (inn:=false) (F1 hp dl) fun p n k b r J=>⟨_,rfl,.inl ⟨rfl,rfl⟩⟩
 obtain ⟨a,M',e,rfl⟩:=h
 exact ⟨M',e⟩
end Mine
end
theorem PySem.Challenge.cw_pb0345_01_holds : PySem.Challenge.rw_pb0345_01.Holds :=
  Mine.claim_of Mine.left1 Mine.plain
