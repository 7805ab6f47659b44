import PyProof.Rows.All
import Wide.All
import OpenK.AllK
import Wide.FinOn
import KE.KBoundM
import KE.KDictSum
import KE.KSortKey
import KE.KSuper
import PySem.Challenge.RW_rr0092_01
open PySem PySem.W PyProof.Rows PySem.Calls
set_option Elab.async false
set_option maxRecDepth 100000
set_option linter.unusedVariables false
set_option compiler.extract_closed false
set_option genSizeOf false
set_option genInjectivity true
namespace Mine
set_option maxHeartbeats 8000000
--T HeadN
noncomputable abbrev PG : Program := Challenge.rw_rr0092_01.row.prog
noncomputable def stsOf : Stmt → List Stmt
  | .ClassDef _ _ _ b .. => b
  | _ => []
noncomputable def dGo (b : List Stmt) : List Nat → Option Stmt
  | [] => none
  | i :: r => match r with
    | [] => b[i]?
    | _ :: _ => match b[i]? with
      | some s => dGo (stsOf s) r
      | none => none
/-- the def that stands at a path in the text -/
noncomputable def dAt (p : List Nat) : Option Stmt := dGo PG.main.body p
/-- the data of the function that a def of the text makes -/
noncomputable abbrev fnS {nm : Str} {params : Arguments} {body : List Stmt} {dec : List Expr} {ret : Option Expr} {tp : List TypeParam} {scope : Scope} {ts : Option Scope} {bd : Str} {pos : Pos} {p : List Nat} (name qual : Str)
    (h : dAt p = some (.FunctionDef nm params body dec ret tp scope ts bd pos)) (gl : Addr) (cl : List (Str × Addr)) (dV kV doc pm : Value) (an : Option Addr) (cdv ct : Value) (bi : Addr) : FuncData :=
  { name, qualname := qual, params, body := .stmts body, scope, globals := gl, closure := cl, defaults := dV, kwdefaults := kV, doc, pyModule := pm, annotations := an, code := cdv, closureTuple := ct, builtins := bi }
/-- the objects that stand behind the top -/
noncomputable def kk39 (P : Params) : Frag :=
  [((nat_lit 2), ⟨Value.none, none, (Data.dict #[⟨(PyData.keyHash P "type.__subclasses__.Exception.0"), (Value.str "type.__subclasses__.Exception.0" 230), (Value.int 47 0)⟩, ⟨(PyData.keyHash P "type.__subclasses__.Exception.n"), (Value.str "type.__subclasses__.Exception.n" 231), (Value.int 1 0)⟩] 2), #[]⟩),
  ((nat_lit 3), ⟨(Value.type "dict"), none, (Data.dict #[⟨(PyData.keyHash P "__name__"), (Value.str "__name__" 165), (Value.str "law_rr0092_01" 509)⟩, ⟨(PyData.keyHash P "__doc__"), (Value.str "__doc__" 166), Value.none⟩, ⟨(PyData.keyHash P "__package__"), (Value.str "__package__" 167), Value.none⟩, ⟨(PyData.keyHash P "__loader__"), (Value.str "__loader__" 168), (Value.builtin "__main__.__loader__#opaque")⟩, ⟨(PyData.keyHash P "__spec__"), (Value.str "__spec__" 169), Value.none⟩, ⟨(PyData.keyHash P "__annotations__"), (Value.str "__annotations__" 170), (Value.ref 6)⟩, ⟨(PyData.keyHash P "__builtins__"), (Value.str "__builtins__" 171), (Value.ref 4)⟩, ⟨(PyData.keyHash P "__file__"), (Value.str "__file__" 173), (Value.str "/claim/cut.py" 172)⟩, ⟨(PyData.keyHash P "__cached__"), (Value.str "__cached__" 174), Value.none⟩, ⟨(PyData.keyHash P "_wall"), (Value.str "_wall" 193), (Value.ref 21)⟩, ⟨(PyData.keyHash P "FinderError"), (Value.str "FinderError" 233), (Value.ref 47)⟩, ⟨(PyData.keyHash P "LimitFault"), (Value.str "LimitFault" 249), (Value.ref 60)⟩, ⟨(PyData.keyHash P "FIRST_SPAN"), (Value.str "FIRST_SPAN" 253), (Value.int 16 252)⟩, ⟨(PyData.keyHash P "MOST_HEAT"), (Value.str "MOST_HEAT" 255), (Value.int 1000000000 254)⟩, ⟨(PyData.keyHash P "ordered"), (Value.str "ordered" 264), (Value.ref 69)⟩, ⟨(PyData.keyHash P "Values"), (Value.str "Values" 326), (Value.ref 107)⟩, ⟨(PyData.keyHash P "Search"), (Value.str "Search" 497), (Value.ref 227)⟩, ⟨(PyData.keyHash P "is_clause"), (Value.str "is_clause" 508), (Value.ref 236)⟩, ⟨(PyData.keyHash P "_law_pip"), (Value.str "_law_pip" 518), (Value.ref 243)⟩, ⟨(PyData.keyHash P "_law_row"), (Value.str "_law_row" 528), (Value.ref 250)⟩, ⟨(PyData.keyHash P "_law_due"), (Value.str "_law_due" 534), (Value.ref 255)⟩, ⟨(PyData.keyHash P "_law_great"), (Value.str "_law_great" 541), (Value.ref 262)⟩, ⟨(PyData.keyHash P "_law_holds"), (Value.str "_law_holds" 547), (Value.ref 267)⟩, ⟨(PyData.keyHash P "_law_is_told"), (Value.str "_law_is_told" 553), (Value.ref 272)⟩, ⟨(PyData.keyHash P "law"), (Value.str "law" 559), (Value.ref 277)⟩] 25), #[]⟩),
  ((nat_lit 15), ⟨(Value.type "tuple"), none, (Data.seq #[] 0), #[]⟩),
  ((nat_lit 17), ⟨(Value.type "tuple"), none, (Data.seq #[(Value.str "k" 190)] 0), #[]⟩),
  ((nat_lit 18), ⟨(Value.type "tuple"), none, (Data.seq #[] 0), #[]⟩),
  ((nat_lit 20), ⟨(Value.type "code"), none, (Data.fields #[(Value.str "_wall" 187), (Value.str "_wall" 188), (Value.str "/claim/cut.py" 189), (Value.int 1 0), (Value.int 1 0), (Value.int 0 0), (Value.int 0 0), (Value.int 3 0), (Value.ref 15), (Value.bool Bool.true), (Value.int 181 0), (Value.ref 16), Value.none, (Value.ref 17), (Value.ref 18), (Value.ref 19), (Value.int 191 0), (Value.int 1 0), (Value.str "/claim/cut.py" 192)]), #[]⟩),
  ((nat_lit 21), ⟨(Value.type "function"), none, (Data.func (fnS (name := "_wall") (qual := "_wall") (rfl : dAt [0] = some (.FunctionDef _ _ _ _ _ _ _ _ _ _)) 3 [] Value.none Value.none Value.none (Value.str "__main__" 164) none (Value.ref 20) Value.none 0)), #[]⟩),
  ((nat_lit 22), ⟨(Value.type "tuple"), none, (Data.seq #[(Value.type "Exception")] 0), #[]⟩),
  ((nat_lit 25), ⟨(Value.type "cell"), none, (Data.cell (some (Value.ref 47))), #[]⟩),
  ((nat_lit 30), ⟨(Value.type "tuple"), none, (Data.seq #[(Value.ref 25)] 0), #[]⟩),
  ((nat_lit 31), ⟨(Value.type "tuple"), none, (Data.seq #[(Value.str "__class__" 211)] 0), #[]⟩),
  ((nat_lit 33), ⟨(Value.type "tuple"), none, (Data.seq #[(Value.str "self" 212), (Value.str "what" 213)] 0), #[]⟩),
  ((nat_lit 34), ⟨(Value.type "tuple"), none, (Data.seq #[] 0), #[]⟩),
  ((nat_lit 36), ⟨(Value.type "code"), none, (Data.fields #[(Value.str "__init__" 208), (Value.str "FinderError.__init__" 209), (Value.str "/claim/cut.py" 210), (Value.int 7 0), (Value.int 2 0), (Value.int 0 0), (Value.int 0 0), (Value.int 3 0), (Value.ref 31), (Value.bool Bool.true), (Value.int 181 0), (Value.ref 32), Value.none, (Value.ref 33), (Value.ref 34), (Value.ref 35), (Value.int 214 0), (Value.int 7 0), (Value.str "/claim/cut.py" 215)]), #[]⟩),
  ((nat_lit 37), ⟨(Value.type "function"), none, (Data.func (fnS (name := "__init__") (qual := "FinderError.__init__") (rfl : dAt [2, 0] = some (.FunctionDef _ _ _ _ _ _ _ _ _ _)) 3 [("__class__", 25)] Value.none Value.none Value.none (Value.str "relfinder.errors" 194) none (Value.ref 36) (Value.ref 30) 0)), #[]⟩),
  ((nat_lit 38), ⟨(Value.type "tuple"), none, (Data.seq #[] 0), #[]⟩),
  ((nat_lit 40), ⟨(Value.type "tuple"), none, (Data.seq #[(Value.str "self" 220)] 0), #[]⟩),
  ((nat_lit 41), ⟨(Value.type "tuple"), none, (Data.seq #[] 0), #[]⟩),
  ((nat_lit 43), ⟨(Value.type "code"), none, (Data.fields #[(Value.str "told" 217), (Value.str "FinderError.told" 218), (Value.str "/claim/cut.py" 219), (Value.int 11 0), (Value.int 1 0), (Value.int 0 0), (Value.int 0 0), (Value.int 3 0), (Value.ref 38), (Value.bool Bool.true), (Value.int 181 0), (Value.ref 39), Value.none, (Value.ref 40), (Value.ref 41), (Value.ref 42), (Value.int 221 0), (Value.int 11 0), (Value.str "/claim/cut.py" 222)]), #[]⟩),
  ((nat_lit 44), ⟨(Value.type "function"), none, (Data.func (fnS (name := "told") (qual := "FinderError.told") (rfl : dAt [2, 1] = some (.FunctionDef _ _ _ _ _ _ _ _ _ _)) 3 [] Value.none Value.none Value.none (Value.str "relfinder.errors" 194) none (Value.ref 43) Value.none 0)), #[]⟩),
  ((nat_lit 45), ⟨(Value.type "tuple"), none, (Data.seq #[(Value.str "what" 224)] 0), #[]⟩),
  ((nat_lit 46), ⟨(Value.type "dict"), none, (Data.dict #[⟨(PyData.keyHash P "__module__"), (Value.str "__module__" 203), (Value.str "relfinder.errors" 194)⟩, ⟨(PyData.keyHash P "__firstlineno__"), (Value.str "__firstlineno__" 207), (Value.int 5 206)⟩, ⟨(PyData.keyHash P "__init__"), (Value.str "__init__" 216), (Value.ref 37)⟩, ⟨(PyData.keyHash P "told"), (Value.str "told" 223), (Value.ref 44)⟩, ⟨(PyData.keyHash P "__static_attributes__"), (Value.str "__static_attributes__" 225), (Value.ref 45)⟩, ⟨(PyData.keyHash P "__weakref__"), (Value.str "__weakref__" 228), (Value.ref 48)⟩, ⟨(PyData.keyHash P "__doc__"), (Value.str "__doc__" 229), Value.none⟩] 4), #[]⟩),
  ((nat_lit 47), ⟨(Value.type "type"), none, (Data.cls ⟨"FinderError", [(Value.type "Exception")], [(Value.ref 47), (Value.type "Exception"), (Value.type "BaseException"), (Value.type "object")], 46, "FinderError", Bool.true, [], [(Value.ref 60)], Bool.false, none, Bool.false⟩), #[(some (Value.ref 22)), none, (some (Value.str "FinderError" 196)), (some (Value.str "FinderError" 204)), (some (Value.builtin "Exception.__new__")), (some (Value.bool Bool.true))]⟩),
  ((nat_lit 48), ⟨(Value.type "getset_descriptor"), none, (Data.fields #[(Value.str "__weakref__" 227), (Value.ref 47), (Value.builtin "ExceptionGroup.__weakref__"), Value.none]), #[]⟩),
  ((nat_lit 51), ⟨(Value.type "tuple"), none, (Data.seq #[(Value.ref 47)] 0), #[]⟩),
  ((nat_lit 58), ⟨(Value.type "tuple"), none, (Data.seq #[] 0), #[]⟩),
  ((nat_lit 59), ⟨(Value.type "dict"), none, (Data.dict #[⟨(PyData.keyHash P "__module__"), (Value.str "__module__" 241), (Value.str "relfinder.errors" 194)⟩, ⟨(PyData.keyHash P "__firstlineno__"), (Value.str "__firstlineno__" 245), (Value.int 13 244)⟩, ⟨(PyData.keyHash P "__static_attributes__"), (Value.str "__static_attributes__" 246), (Value.ref 58)⟩, ⟨(PyData.keyHash P "__doc__"), (Value.str "__doc__" 247), Value.none⟩] 2), #[]⟩),
  ((nat_lit 60), ⟨(Value.type "type"), none, (Data.cls ⟨"LimitFault", [(Value.ref 47)], [(Value.ref 60), (Value.ref 47), (Value.type "Exception"), (Value.type "BaseException"), (Value.type "object")], 59, "LimitFault", Bool.true, [], [], Bool.false, none, Bool.false⟩), #[(some (Value.ref 51)), none, (some (Value.str "LimitFault" 234)), (some (Value.str "LimitFault" 242)), (some (Value.builtin "Exception.__new__")), (some (Value.bool Bool.true))]⟩),
  ((nat_lit 63), ⟨(Value.type "tuple"), none, (Data.seq #[] 0), #[]⟩),
  ((nat_lit 65), ⟨(Value.type "tuple"), none, (Data.seq #[(Value.str "literals" 259), (Value.str "found" 260), (Value.str "one" 261)] 0), #[]⟩),
  ((nat_lit 66), ⟨(Value.type "tuple"), none, (Data.seq #[] 0), #[]⟩),
  ((nat_lit 68), ⟨(Value.type "code"), none, (Data.fields #[(Value.str "ordered" 256), (Value.str "ordered" 257), (Value.str "/claim/cut.py" 258), (Value.int 18 0), (Value.int 1 0), (Value.int 0 0), (Value.int 0 0), (Value.int 3 0), (Value.ref 63), (Value.bool Bool.true), (Value.int 181 0), (Value.ref 64), Value.none, (Value.ref 65), (Value.ref 66), (Value.ref 67), (Value.int 262 0), (Value.int 18 0), (Value.str "/claim/cut.py" 263)]), #[]⟩),
  ((nat_lit 69), ⟨(Value.type "function"), none, (Data.func (fnS (name := "ordered") (qual := "ordered") (rfl : dAt [7] = some (.FunctionDef _ _ _ _ _ _ _ _ _ _)) 3 [] Value.none Value.none Value.none (Value.str "relfinder.solver" 250) none (Value.ref 68) Value.none 0)), #[]⟩),
  ((nat_lit 77), ⟨(Value.type "tuple"), none, (Data.seq #[] 0), #[]⟩),
  ((nat_lit 79), ⟨(Value.type "tuple"), none, (Data.seq #[(Value.str "self" 280)] 0), #[]⟩),
  ((nat_lit 80), ⟨(Value.type "tuple"), none, (Data.seq #[] 0), #[]⟩),
  ((nat_lit 82), ⟨(Value.type "code"), none, (Data.fields #[(Value.str "__init__" 277), (Value.str "Values.__init__" 278), (Value.str "/claim/cut.py" 279), (Value.int 27 0), (Value.int 1 0), (Value.int 0 0), (Value.int 0 0), (Value.int 3 0), (Value.ref 77), (Value.bool Bool.true), (Value.int 181 0), (Value.ref 78), Value.none, (Value.ref 79), (Value.ref 80), (Value.ref 81), (Value.int 281 0), (Value.int 27 0), (Value.str "/claim/cut.py" 282)]), #[]⟩),
  ((nat_lit 83), ⟨(Value.type "function"), none, (Data.func (fnS (name := "__init__") (qual := "Values.__init__") (rfl : dAt [8, 0] = some (.FunctionDef _ _ _ _ _ _ _ _ _ _)) 3 [] Value.none Value.none Value.none (Value.str "relfinder.solver" 250) none (Value.ref 82) Value.none 0)), #[]⟩),
  ((nat_lit 84), ⟨(Value.type "tuple"), none, (Data.seq #[] 0), #[]⟩),
  ((nat_lit 86), ⟨(Value.type "tuple"), none, (Data.seq #[(Value.str "self" 287), (Value.str "literal" 288), (Value.str "truth" 289)] 0), #[]⟩),
  ((nat_lit 87), ⟨(Value.type "tuple"), none, (Data.seq #[] 0), #[]⟩),
  ((nat_lit 89), ⟨(Value.type "code"), none, (Data.fields #[(Value.str "says" 284), (Value.str "Values.says" 285), (Value.str "/claim/cut.py" 286), (Value.int 36 0), (Value.int 2 0), (Value.int 0 0), (Value.int 0 0), (Value.int 3 0), (Value.ref 84), (Value.bool Bool.true), (Value.int 181 0), (Value.ref 85), Value.none, (Value.ref 86), (Value.ref 87), (Value.ref 88), (Value.int 290 0), (Value.int 36 0), (Value.str "/claim/cut.py" 291)]), #[]⟩),
  ((nat_lit 90), ⟨(Value.type "function"), none, (Data.func (fnS (name := "says") (qual := "Values.says") (rfl : dAt [8, 1] = some (.FunctionDef _ _ _ _ _ _ _ _ _ _)) 3 [] Value.none Value.none Value.none (Value.str "relfinder.solver" 250) none (Value.ref 89) Value.none 0)), #[]⟩),
  ((nat_lit 91), ⟨(Value.type "tuple"), none, (Data.seq #[] 0), #[]⟩),
  ((nat_lit 93), ⟨(Value.type "tuple"), none, (Data.seq #[(Value.str "self" 296), (Value.str "literal" 297), (Value.str "cause" 298), (Value.str "v" 299)] 0), #[]⟩),
  ((nat_lit 94), ⟨(Value.type "tuple"), none, (Data.seq #[] 0), #[]⟩),
  ((nat_lit 96), ⟨(Value.type "code"), none, (Data.fields #[(Value.str "let" 293), (Value.str "Values.let" 294), (Value.str "/claim/cut.py" 295), (Value.int 40 0), (Value.int 3 0), (Value.int 0 0), (Value.int 0 0), (Value.int 3 0), (Value.ref 91), (Value.bool Bool.true), (Value.int 181 0), (Value.ref 92), Value.none, (Value.ref 93), (Value.ref 94), (Value.ref 95), (Value.int 300 0), (Value.int 40 0), (Value.str "/claim/cut.py" 301)]), #[]⟩),
  ((nat_lit 97), ⟨(Value.type "function"), none, (Data.func (fnS (name := "let") (qual := "Values.let") (rfl : dAt [8, 2] = some (.FunctionDef _ _ _ _ _ _ _ _ _ _)) 3 [] Value.none Value.none Value.none (Value.str "relfinder.solver" 250) none (Value.ref 96) Value.none 0)), #[]⟩),
  ((nat_lit 98), ⟨(Value.type "tuple"), none, (Data.seq #[] 0), #[]⟩),
  ((nat_lit 100), ⟨(Value.type "tuple"), none, (Data.seq #[(Value.str "self" 306), (Value.str "height" 307), (Value.str "v" 308)] 0), #[]⟩),
  ((nat_lit 101), ⟨(Value.type "tuple"), none, (Data.seq #[] 0), #[]⟩),
  ((nat_lit 103), ⟨(Value.type "code"), none, (Data.fields #[(Value.str "back_to" 303), (Value.str "Values.back_to" 304), (Value.str "/claim/cut.py" 305), (Value.int 47 0), (Value.int 2 0), (Value.int 0 0), (Value.int 0 0), (Value.int 3 0), (Value.ref 98), (Value.bool Bool.true), (Value.int 181 0), (Value.ref 99), Value.none, (Value.ref 100), (Value.ref 101), (Value.ref 102), (Value.int 309 0), (Value.int 47 0), (Value.str "/claim/cut.py" 310)]), #[]⟩),
  ((nat_lit 104), ⟨(Value.type "function"), none, (Data.func (fnS (name := "back_to") (qual := "Values.back_to") (rfl : dAt [8, 3] = some (.FunctionDef _ _ _ _ _ _ _ _ _ _)) 3 [] Value.none Value.none Value.none (Value.str "relfinder.solver" 250) none (Value.ref 103) Value.none 0)), #[]⟩),
  ((nat_lit 105), ⟨(Value.type "tuple"), none, (Data.seq #[(Value.str "begins" 312), (Value.str "causes" 313), (Value.str "heights" 314), (Value.str "known" 315), (Value.str "liked" 316), (Value.str "row" 317), (Value.str "seen" 318)] 0), #[]⟩),
  ((nat_lit 106), ⟨(Value.type "dict"), none, (Data.dict #[⟨(PyData.keyHash P "__module__"), (Value.str "__module__" 272), (Value.str "relfinder.solver" 250)⟩, ⟨(PyData.keyHash P "__firstlineno__"), (Value.str "__firstlineno__" 276), (Value.int 25 275)⟩, ⟨(PyData.keyHash P "__init__"), (Value.str "__init__" 283), (Value.ref 83)⟩, ⟨(PyData.keyHash P "says"), (Value.str "says" 292), (Value.ref 90)⟩, ⟨(PyData.keyHash P "let"), (Value.str "let" 302), (Value.ref 97)⟩, ⟨(PyData.keyHash P "back_to"), (Value.str "back_to" 311), (Value.ref 104)⟩, ⟨(PyData.keyHash P "__static_attributes__"), (Value.str "__static_attributes__" 319), (Value.ref 105)⟩, ⟨(PyData.keyHash P "__dict__"), (Value.str "__dict__" 321), (Value.ref 108)⟩, ⟨(PyData.keyHash P "__weakref__"), (Value.str "__weakref__" 323), (Value.ref 109)⟩, ⟨(PyData.keyHash P "__doc__"), (Value.str "__doc__" 324), Value.none⟩] 4), #[]⟩),
  ((nat_lit 107), ⟨(Value.type "type"), none, (Data.cls ⟨"Values", [(Value.type "object")], [(Value.ref 107), (Value.type "object")], 106, "Values", Bool.true, [], [(Value.ref 227)], Bool.false, none, Bool.false⟩), #[none, none, (some (Value.str "Values" 265)), (some (Value.str "Values" 273)), (some (Value.builtin "object.__new__")), (some (Value.bool Bool.true))]⟩),
  ((nat_lit 108), ⟨(Value.type "getset_descriptor"), none, (Data.fields #[(Value.str "__dict__" 320), (Value.ref 107), (Value.builtin "function.__dict__"), (Value.builtin "function.__dict__#set")]), #[]⟩),
  ((nat_lit 109), ⟨(Value.type "getset_descriptor"), none, (Data.fields #[(Value.str "__weakref__" 322), (Value.ref 107), (Value.builtin "ExceptionGroup.__weakref__"), Value.none]), #[]⟩),
  ((nat_lit 112), ⟨(Value.type "tuple"), none, (Data.seq #[(Value.ref 107)] 0), #[]⟩),
  ((nat_lit 115), ⟨(Value.type "cell"), none, (Data.cell (some (Value.ref 227))), #[]⟩),
  ((nat_lit 120), ⟨(Value.type "tuple"), none, (Data.seq #[(Value.ref 115)] 0), #[]⟩),
  ((nat_lit 121), ⟨(Value.type "tuple"), none, (Data.seq #[(Value.str "__class__" 342)] 0), #[]⟩),
  ((nat_lit 124), ⟨(Value.type "code"), none, (Data.fields #[(Value.str "__init__" 339), (Value.str "Search.__init__" 340), (Value.str "/claim/cut.py" 341), (Value.int 56 0), (Value.int 3 0), (Value.int 0 0), (Value.int 0 0), (Value.int 3 0), (Value.ref 121), (Value.bool Bool.true), (Value.int 181 0), (Value.ref 122), Value.none, Value.none, Value.none, (Value.ref 123), (Value.int 343 0), (Value.int 56 0), (Value.str "/claim/cut.py" 344)]), #[]⟩),
  ((nat_lit 125), ⟨(Value.type "function"), none, (Data.func (fnS (name := "__init__") (qual := "Search.__init__") (rfl : dAt [9, 0] = some (.FunctionDef _ _ _ _ _ _ _ _ _ _)) 3 [("__class__", 115)] Value.none Value.none Value.none (Value.str "relfinder.solver" 250) none (Value.ref 124) (Value.ref 120) 0)), #[]⟩),
  ((nat_lit 126), ⟨(Value.type "tuple"), none, (Data.seq #[] 0), #[]⟩),
  ((nat_lit 129), ⟨(Value.type "code"), none, (Data.fields #[(Value.str "add_clause" 346), (Value.str "Search.add_clause" 347), (Value.str "/claim/cut.py" 348), (Value.int 70 0), (Value.int 2 0), (Value.int 0 0), (Value.int 0 0), (Value.int 3 0), (Value.ref 126), (Value.bool Bool.true), (Value.int 181 0), (Value.ref 127), Value.none, Value.none, Value.none, (Value.ref 128), (Value.int 349 0), (Value.int 70 0), (Value.str "/claim/cut.py" 350)]), #[]⟩),
  ((nat_lit 130), ⟨(Value.type "function"), none, (Data.func (fnS (name := "add_clause") (qual := "Search.add_clause") (rfl : dAt [9, 1] = some (.FunctionDef _ _ _ _ _ _ _ _ _ _)) 3 [] Value.none Value.none Value.none (Value.str "relfinder.solver" 250) none (Value.ref 129) Value.none 0)), #[]⟩),
  ((nat_lit 131), ⟨(Value.type "tuple"), none, (Data.seq #[] 0), #[]⟩),
  ((nat_lit 133), ⟨(Value.type "tuple"), none, (Data.seq #[(Value.str "self" 355)] 0), #[]⟩),
  ((nat_lit 134), ⟨(Value.type "tuple"), none, (Data.seq #[] 0), #[]⟩),
  ((nat_lit 136), ⟨(Value.type "code"), none, (Data.fields #[(Value.str "refute" 352), (Value.str "Search.refute" 353), (Value.str "/claim/cut.py" 354), (Value.int 86 0), (Value.int 1 0), (Value.int 0 0), (Value.int 0 0), (Value.int 3 0), (Value.ref 131), (Value.bool Bool.true), (Value.int 181 0), (Value.ref 132), Value.none, (Value.ref 133), (Value.ref 134), (Value.ref 135), (Value.int 356 0), (Value.int 86 0), (Value.str "/claim/cut.py" 357)]), #[]⟩),
  ((nat_lit 137), ⟨(Value.type "function"), none, (Data.func (fnS (name := "refute") (qual := "Search.refute") (rfl : dAt [9, 2] = some (.FunctionDef _ _ _ _ _ _ _ _ _ _)) 3 [] Value.none Value.none Value.none (Value.str "relfinder.solver" 250) none (Value.ref 136) Value.none 0)), #[]⟩),
  ((nat_lit 138), ⟨(Value.type "tuple"), none, (Data.seq #[] 0), #[]⟩),
  ((nat_lit 140), ⟨(Value.type "tuple"), none, (Data.seq #[(Value.str "self" 362), (Value.str "literals" 363), (Value.str "one" 364)] 0), #[]⟩),
  ((nat_lit 141), ⟨(Value.type "tuple"), none, (Data.seq #[] 0), #[]⟩),
  ((nat_lit 143), ⟨(Value.type "code"), none, (Data.fields #[(Value.str "keep" 359), (Value.str "Search.keep" 360), (Value.str "/claim/cut.py" 361), (Value.int 90 0), (Value.int 2 0), (Value.int 0 0), (Value.int 0 0), (Value.int 3 0), (Value.ref 138), (Value.bool Bool.true), (Value.int 181 0), (Value.ref 139), Value.none, (Value.ref 140), (Value.ref 141), (Value.ref 142), (Value.int 365 0), (Value.int 90 0), (Value.str "/claim/cut.py" 366)]), #[]⟩),
  ((nat_lit 144), ⟨(Value.type "function"), none, (Data.func (fnS (name := "keep") (qual := "Search.keep") (rfl : dAt [9, 3] = some (.FunctionDef _ _ _ _ _ _ _ _ _ _)) 3 [] Value.none Value.none Value.none (Value.str "relfinder.solver" 250) none (Value.ref 143) Value.none 0)), #[]⟩),
  ((nat_lit 145), ⟨(Value.type "tuple"), none, (Data.seq #[] 0), #[]⟩),
  ((nat_lit 147), ⟨(Value.type "tuple"), none, (Data.seq #[(Value.str "self" 371), (Value.str "lost" 372), (Value.str "numbers" 373), (Value.str "stay" 374), (Value.str "k" 375), (Value.str "first" 376)] 0), #[]⟩),
  ((nat_lit 148), ⟨(Value.type "tuple"), none, (Data.seq #[] 0), #[]⟩),
  ((nat_lit 150), ⟨(Value.type "code"), none, (Data.fields #[(Value.str "spread" 368), (Value.str "Search.spread" 369), (Value.str "/claim/cut.py" 370), (Value.int 96 0), (Value.int 1 0), (Value.int 0 0), (Value.int 0 0), (Value.int 3 0), (Value.ref 145), (Value.bool Bool.true), (Value.int 181 0), (Value.ref 146), Value.none, (Value.ref 147), (Value.ref 148), (Value.ref 149), (Value.int 377 0), (Value.int 96 0), (Value.str "/claim/cut.py" 378)]), #[]⟩),
  ((nat_lit 151), ⟨(Value.type "function"), none, (Data.func (fnS (name := "spread") (qual := "Search.spread") (rfl : dAt [9, 4] = some (.FunctionDef _ _ _ _ _ _ _ _ _ _)) 3 [] Value.none Value.none Value.none (Value.str "relfinder.solver" 250) none (Value.ref 150) Value.none 0)), #[]⟩),
  ((nat_lit 152), ⟨(Value.type "tuple"), none, (Data.seq #[] 0), #[]⟩),
  ((nat_lit 154), ⟨(Value.type "tuple"), none, (Data.seq #[(Value.str "self" 383), (Value.str "number" 384), (Value.str "lost" 385), (Value.str "some" 386), (Value.str "k" 387)] 0), #[]⟩),
  ((nat_lit 155), ⟨(Value.type "tuple"), none, (Data.seq #[] 0), #[]⟩),
  ((nat_lit 157), ⟨(Value.type "code"), none, (Data.fields #[(Value.str "has_moved" 380), (Value.str "Search.has_moved" 381), (Value.str "/claim/cut.py" 382), (Value.int 113 0), (Value.int 3 0), (Value.int 0 0), (Value.int 0 0), (Value.int 3 0), (Value.ref 152), (Value.bool Bool.true), (Value.int 181 0), (Value.ref 153), Value.none, (Value.ref 154), (Value.ref 155), (Value.ref 156), (Value.int 388 0), (Value.int 113 0), (Value.str "/claim/cut.py" 389)]), #[]⟩),
  ((nat_lit 158), ⟨(Value.type "function"), none, (Data.func (fnS (name := "has_moved") (qual := "Search.has_moved") (rfl : dAt [9, 5] = some (.FunctionDef _ _ _ _ _ _ _ _ _ _)) 3 [] Value.none Value.none Value.none (Value.str "relfinder.solver" 250) none (Value.ref 157) Value.none 0)), #[]⟩),
  ((nat_lit 159), ⟨(Value.type "tuple"), none, (Data.seq #[] 0), #[]⟩),
  ((nat_lit 162), ⟨(Value.type "code"), none, (Data.fields #[(Value.str "warm" 391), (Value.str "Search.warm" 392), (Value.str "/claim/cut.py" 393), (Value.int 126 0), (Value.int 2 0), (Value.int 0 0), (Value.int 0 0), (Value.int 3 0), (Value.ref 159), (Value.bool Bool.true), (Value.int 181 0), (Value.ref 160), Value.none, Value.none, Value.none, (Value.ref 161), (Value.int 394 0), (Value.int 126 0), (Value.str "/claim/cut.py" 395)]), #[]⟩),
  ((nat_lit 163), ⟨(Value.type "function"), none, (Data.func (fnS (name := "warm") (qual := "Search.warm") (rfl : dAt [9, 6] = some (.FunctionDef _ _ _ _ _ _ _ _ _ _)) 3 [] Value.none Value.none Value.none (Value.str "relfinder.solver" 250) none (Value.ref 162) Value.none 0)), #[]⟩),
  ((nat_lit 164), ⟨(Value.type "tuple"), none, (Data.seq #[] 0), #[]⟩),
  ((nat_lit 166), ⟨(Value.type "tuple"), none, (Data.seq #[(Value.str "self" 400), (Value.str "number" 401), (Value.str "marked" 402), (Value.str "behind" 403), (Value.str "open_ones" 404), (Value.str "spot" 405), (Value.str "pivot" 406), (Value.str "one" 407), (Value.str "v" 408)] 0), #[]⟩),
  ((nat_lit 167), ⟨(Value.type "tuple"), none, (Data.seq #[] 0), #[]⟩),
  ((nat_lit 169), ⟨(Value.type "code"), none, (Data.fields #[(Value.str "lesson" 397), (Value.str "Search.lesson" 398), (Value.str "/claim/cut.py" 399), (Value.int 132 0), (Value.int 2 0), (Value.int 0 0), (Value.int 0 0), (Value.int 3 0), (Value.ref 164), (Value.bool Bool.true), (Value.int 181 0), (Value.ref 165), Value.none, (Value.ref 166), (Value.ref 167), (Value.ref 168), (Value.int 409 0), (Value.int 132 0), (Value.str "/claim/cut.py" 410)]), #[]⟩),
  ((nat_lit 170), ⟨(Value.type "function"), none, (Data.func (fnS (name := "lesson") (qual := "Search.lesson") (rfl : dAt [9, 7] = some (.FunctionDef _ _ _ _ _ _ _ _ _ _)) 3 [] Value.none Value.none Value.none (Value.str "relfinder.solver" 250) none (Value.ref 169) Value.none 0)), #[]⟩),
  ((nat_lit 171), ⟨(Value.type "tuple"), none, (Data.seq #[] 0), #[]⟩),
  ((nat_lit 173), ⟨(Value.type "tuple"), none, (Data.seq #[(Value.str "self" 415), (Value.str "literal" 416)] 0), #[]⟩),
  ((nat_lit 174), ⟨(Value.type "tuple"), none, (Data.seq #[] 0), #[]⟩),
  ((nat_lit 176), ⟨(Value.type "code"), none, (Data.fields #[(Value.str "height_of" 412), (Value.str "Search.height_of" 413), (Value.str "/claim/cut.py" 414), (Value.int 152 0), (Value.int 2 0), (Value.int 0 0), (Value.int 0 0), (Value.int 3 0), (Value.ref 171), (Value.bool Bool.true), (Value.int 181 0), (Value.ref 172), Value.none, (Value.ref 173), (Value.ref 174), (Value.ref 175), (Value.int 417 0), (Value.int 152 0), (Value.str "/claim/cut.py" 418)]), #[]⟩),
  ((nat_lit 177), ⟨(Value.type "function"), none, (Data.func (fnS (name := "height_of") (qual := "Search.height_of") (rfl : dAt [9, 8] = some (.FunctionDef _ _ _ _ _ _ _ _ _ _)) 3 [] Value.none Value.none Value.none (Value.str "relfinder.solver" 250) none (Value.ref 176) Value.none 0)), #[]⟩),
  ((nat_lit 178), ⟨(Value.type "tuple"), none, (Data.seq #[] 0), #[]⟩),
  ((nat_lit 180), ⟨(Value.type "tuple"), none, (Data.seq #[(Value.str "self" 423), (Value.str "number" 424), (Value.str "taught" 425)] 0), #[]⟩),
  ((nat_lit 181), ⟨(Value.type "tuple"), none, (Data.seq #[] 0), #[]⟩),
  ((nat_lit 183), ⟨(Value.type "code"), none, (Data.fields #[(Value.str "learn" 420), (Value.str "Search.learn" 421), (Value.str "/claim/cut.py" 422), (Value.int 155 0), (Value.int 2 0), (Value.int 0 0), (Value.int 0 0), (Value.int 3 0), (Value.ref 178), (Value.bool Bool.true), (Value.int 181 0), (Value.ref 179), Value.none, (Value.ref 180), (Value.ref 181), (Value.ref 182), (Value.int 426 0), (Value.int 155 0), (Value.str "/claim/cut.py" 427)]), #[]⟩),
  ((nat_lit 184), ⟨(Value.type "function"), none, (Data.func (fnS (name := "learn") (qual := "Search.learn") (rfl : dAt [9, 9] = some (.FunctionDef _ _ _ _ _ _ _ _ _ _)) 3 [] Value.none Value.none Value.none (Value.str "relfinder.solver" 250) none (Value.ref 183) Value.none 0)), #[]⟩),
  ((nat_lit 185), ⟨(Value.type "tuple"), none, (Data.seq #[] 0), #[]⟩),
  ((nat_lit 188), ⟨(Value.type "code"), none, (Data.fields #[(Value.str "blame" 429), (Value.str "Search.blame" 430), (Value.str "/claim/cut.py" 431), (Value.int 167 0), (Value.int 2 0), (Value.int 0 0), (Value.int 0 0), (Value.int 3 0), (Value.ref 185), (Value.bool Bool.true), (Value.int 181 0), (Value.ref 186), Value.none, Value.none, Value.none, (Value.ref 187), (Value.int 432 0), (Value.int 167 0), (Value.str "/claim/cut.py" 433)]), #[]⟩),
  ((nat_lit 189), ⟨(Value.type "function"), none, (Data.func (fnS (name := "blame") (qual := "Search.blame") (rfl : dAt [9, 10] = some (.FunctionDef _ _ _ _ _ _ _ _ _ _)) 3 [] Value.none Value.none Value.none (Value.str "relfinder.solver" 250) none (Value.ref 188) Value.none 0)), #[]⟩),
  ((nat_lit 190), ⟨(Value.type "tuple"), none, (Data.seq #[] 0), #[]⟩),
  ((nat_lit 192), ⟨(Value.type "tuple"), none, (Data.seq #[(Value.str "self" 438), (Value.str "best" 439), (Value.str "v" 440)] 0), #[]⟩),
  ((nat_lit 193), ⟨(Value.type "tuple"), none, (Data.seq #[] 0), #[]⟩),
  ((nat_lit 195), ⟨(Value.type "code"), none, (Data.fields #[(Value.str "hottest" 435), (Value.str "Search.hottest" 436), (Value.str "/claim/cut.py" 437), (Value.int 181 0), (Value.int 1 0), (Value.int 0 0), (Value.int 0 0), (Value.int 3 0), (Value.ref 190), (Value.bool Bool.true), (Value.int 181 0), (Value.ref 191), Value.none, (Value.ref 192), (Value.ref 193), (Value.ref 194), (Value.int 441 0), (Value.int 181 0), (Value.str "/claim/cut.py" 442)]), #[]⟩),
  ((nat_lit 196), ⟨(Value.type "function"), none, (Data.func (fnS (name := "hottest") (qual := "Search.hottest") (rfl : dAt [9, 11] = some (.FunctionDef _ _ _ _ _ _ _ _ _ _)) 3 [] Value.none Value.none Value.none (Value.str "relfinder.solver" 250) none (Value.ref 195) Value.none 0)), #[]⟩),
  ((nat_lit 197), ⟨(Value.type "tuple"), none, (Data.seq #[] 0), #[]⟩),
  ((nat_lit 199), ⟨(Value.type "tuple"), none, (Data.seq #[(Value.str "self" 447), (Value.str "assumptions" 448), (Value.str "literal" 449), (Value.str "v" 450)] 0), #[]⟩),
  ((nat_lit 200), ⟨(Value.type "tuple"), none, (Data.seq #[] 0), #[]⟩),
  ((nat_lit 202), ⟨(Value.type "code"), none, (Data.fields #[(Value.str "decide" 444), (Value.str "Search.decide" 445), (Value.str "/claim/cut.py" 446), (Value.int 189 0), (Value.int 2 0), (Value.int 0 0), (Value.int 0 0), (Value.int 3 0), (Value.ref 197), (Value.bool Bool.true), (Value.int 181 0), (Value.ref 198), Value.none, (Value.ref 199), (Value.ref 200), (Value.ref 201), (Value.int 451 0), (Value.int 189 0), (Value.str "/claim/cut.py" 452)]), #[]⟩),
  ((nat_lit 203), ⟨(Value.type "function"), none, (Data.func (fnS (name := "decide") (qual := "Search.decide") (rfl : dAt [9, 12] = some (.FunctionDef _ _ _ _ _ _ _ _ _ _)) 3 [] Value.none Value.none Value.none (Value.str "relfinder.solver" 250) none (Value.ref 202) Value.none 0)), #[]⟩),
  ((nat_lit 204), ⟨(Value.type "tuple"), none, (Data.seq #[] 0), #[]⟩),
  ((nat_lit 206), ⟨(Value.type "tuple"), none, (Data.seq #[(Value.str "self" 457), (Value.str "assumptions" 458), (Value.str "one" 459), (Value.str "begun" 460), (Value.str "rested" 461), (Value.str "span" 462), (Value.str "told" 463), (Value.str "number" 464)] 0), #[]⟩),
  ((nat_lit 207), ⟨(Value.type "tuple"), none, (Data.seq #[] 0), #[]⟩),
  ((nat_lit 209), ⟨(Value.type "code"), none, (Data.fields #[(Value.str "solve" 454), (Value.str "Search.solve" 455), (Value.str "/claim/cut.py" 456), (Value.int 205 0), (Value.int 2 0), (Value.int 0 0), (Value.int 0 0), (Value.int 3 0), (Value.ref 204), (Value.bool Bool.true), (Value.int 181 0), (Value.ref 205), Value.none, (Value.ref 206), (Value.ref 207), (Value.ref 208), (Value.int 465 0), (Value.int 205 0), (Value.str "/claim/cut.py" 466)]), #[]⟩),
  ((nat_lit 210), ⟨(Value.type "function"), none, (Data.func (fnS (name := "solve") (qual := "Search.solve") (rfl : dAt [9, 13] = some (.FunctionDef _ _ _ _ _ _ _ _ _ _)) 3 [] Value.none Value.none Value.none (Value.str "relfinder.solver" 250) none (Value.ref 209) Value.none 0)), #[]⟩),
  ((nat_lit 211), ⟨(Value.type "tuple"), none, (Data.seq #[] 0), #[]⟩),
  ((nat_lit 213), ⟨(Value.type "tuple"), none, (Data.seq #[(Value.str "self" 471), (Value.str "v" 472)] 0), #[]⟩),
  ((nat_lit 214), ⟨(Value.type "tuple"), none, (Data.seq #[] 0), #[]⟩),
  ((nat_lit 216), ⟨(Value.type "code"), none, (Data.fields #[(Value.str "value" 468), (Value.str "Search.value" 469), (Value.str "/claim/cut.py" 470), (Value.int 224 0), (Value.int 2 0), (Value.int 0 0), (Value.int 0 0), (Value.int 3 0), (Value.ref 211), (Value.bool Bool.true), (Value.int 181 0), (Value.ref 212), Value.none, (Value.ref 213), (Value.ref 214), (Value.ref 215), (Value.int 473 0), (Value.int 224 0), (Value.str "/claim/cut.py" 474)]), #[]⟩),
  ((nat_lit 217), ⟨(Value.type "function"), none, (Data.func (fnS (name := "value") (qual := "Search.value") (rfl : dAt [9, 14] = some (.FunctionDef _ _ _ _ _ _ _ _ _ _)) 3 [] Value.none Value.none Value.none (Value.str "relfinder.solver" 250) none (Value.ref 216) Value.none 0)), #[]⟩),
  ((nat_lit 218), ⟨(Value.type "tuple"), none, (Data.seq #[] 0), #[]⟩),
  ((nat_lit 220), ⟨(Value.type "tuple"), none, (Data.seq #[(Value.str "self" 479)] 0), #[]⟩),
  ((nat_lit 221), ⟨(Value.type "tuple"), none, (Data.seq #[] 0), #[]⟩),
  ((nat_lit 223), ⟨(Value.type "code"), none, (Data.fields #[(Value.str "failed" 476), (Value.str "Search.failed" 477), (Value.str "/claim/cut.py" 478), (Value.int 227 0), (Value.int 1 0), (Value.int 0 0), (Value.int 0 0), (Value.int 3 0), (Value.ref 218), (Value.bool Bool.true), (Value.int 181 0), (Value.ref 219), Value.none, (Value.ref 220), (Value.ref 221), (Value.ref 222), (Value.int 480 0), (Value.int 227 0), (Value.str "/claim/cut.py" 481)]), #[]⟩),
  ((nat_lit 224), ⟨(Value.type "function"), none, (Data.func (fnS (name := "failed") (qual := "Search.failed") (rfl : dAt [9, 15] = some (.FunctionDef _ _ _ _ _ _ _ _ _ _)) 3 [] Value.none Value.none Value.none (Value.str "relfinder.solver" 250) none (Value.ref 223) Value.none 0)), #[]⟩),
  ((nat_lit 225), ⟨(Value.type "tuple"), none, (Data.seq #[(Value.str "blamed" 483), (Value.str "clashes" 484), (Value.str "conflict_limit" 485), (Value.str "gain" 486), (Value.str "heats" 487), (Value.str "is_refuted" 488), (Value.str "log" 489), (Value.str "rows" 490), (Value.str "seen" 491), (Value.str "watching" 492)] 0), #[]⟩),
  ((nat_lit 226), ⟨(Value.type "dict"), none, (Data.dict #[⟨(PyData.keyHash P "__module__"), (Value.str "__module__" 334), (Value.str "relfinder.solver" 250)⟩, ⟨(PyData.keyHash P "__firstlineno__"), (Value.str "__firstlineno__" 338), (Value.int 54 337)⟩, ⟨(PyData.keyHash P "__init__"), (Value.str "__init__" 345), (Value.ref 125)⟩, ⟨(PyData.keyHash P "add_clause"), (Value.str "add_clause" 351), (Value.ref 130)⟩, ⟨(PyData.keyHash P "refute"), (Value.str "refute" 358), (Value.ref 137)⟩, ⟨(PyData.keyHash P "keep"), (Value.str "keep" 367), (Value.ref 144)⟩, ⟨(PyData.keyHash P "spread"), (Value.str "spread" 379), (Value.ref 151)⟩, ⟨(PyData.keyHash P "has_moved"), (Value.str "has_moved" 390), (Value.ref 158)⟩, ⟨(PyData.keyHash P "warm"), (Value.str "warm" 396), (Value.ref 163)⟩, ⟨(PyData.keyHash P "lesson"), (Value.str "lesson" 411), (Value.ref 170)⟩, ⟨(PyData.keyHash P "height_of"), (Value.str "height_of" 419), (Value.ref 177)⟩, ⟨(PyData.keyHash P "learn"), (Value.str "learn" 428), (Value.ref 184)⟩, ⟨(PyData.keyHash P "blame"), (Value.str "blame" 434), (Value.ref 189)⟩, ⟨(PyData.keyHash P "hottest"), (Value.str "hottest" 443), (Value.ref 196)⟩, ⟨(PyData.keyHash P "decide"), (Value.str "decide" 453), (Value.ref 203)⟩, ⟨(PyData.keyHash P "solve"), (Value.str "solve" 467), (Value.ref 210)⟩, ⟨(PyData.keyHash P "value"), (Value.str "value" 475), (Value.ref 217)⟩, ⟨(PyData.keyHash P "failed"), (Value.str "failed" 482), (Value.ref 224)⟩, ⟨(PyData.keyHash P "__static_attributes__"), (Value.str "__static_attributes__" 493), (Value.ref 225)⟩, ⟨(PyData.keyHash P "__doc__"), (Value.str "__doc__" 495), Value.none⟩] 3), #[]⟩),
  ((nat_lit 227), ⟨(Value.type "type"), none, (Data.cls ⟨"Search", [(Value.ref 107)], [(Value.ref 227), (Value.ref 107), (Value.type "object")], 226, "Search", Bool.true, [], [], Bool.false, none, Bool.false⟩), #[(some (Value.ref 112)), none, (some (Value.str "Search" 327)), (some (Value.str "Search" 335)), (some (Value.builtin "object.__new__")), (some (Value.bool Bool.true))]⟩),
  ((nat_lit 230), ⟨(Value.type "tuple"), none, (Data.seq #[] 0), #[]⟩),
  ((nat_lit 232), ⟨(Value.type "tuple"), none, (Data.seq #[(Value.str "clause" 503), (Value.str "ahead" 504), (Value.str "literal" 505)] 0), #[]⟩),
  ((nat_lit 233), ⟨(Value.type "tuple"), none, (Data.seq #[] 0), #[]⟩),
  ((nat_lit 235), ⟨(Value.type "code"), none, (Data.fields #[(Value.str "is_clause" 500), (Value.str "is_clause" 501), (Value.str "/claim/cut.py" 502), (Value.int 230 0), (Value.int 1 0), (Value.int 0 0), (Value.int 0 0), (Value.int 3 0), (Value.ref 230), (Value.bool Bool.true), (Value.int 181 0), (Value.ref 231), Value.none, (Value.ref 232), (Value.ref 233), (Value.ref 234), (Value.int 506 0), (Value.int 230 0), (Value.str "/claim/cut.py" 507)]), #[]⟩),
  ((nat_lit 236), ⟨(Value.type "function"), none, (Data.func (fnS (name := "is_clause") (qual := "is_clause") (rfl : dAt [11] = some (.FunctionDef _ _ _ _ _ _ _ _ _ _)) 3 [] Value.none Value.none Value.none (Value.str "relfinder.rup" 498) none (Value.ref 235) Value.none 0)), #[]⟩),
  ((nat_lit 237), ⟨(Value.type "tuple"), none, (Data.seq #[] 0), #[]⟩),
  ((nat_lit 239), ⟨(Value.type "tuple"), none, (Data.seq #[(Value.str "dice" 514), (Value.str "many" 515)] 0), #[]⟩),
  ((nat_lit 240), ⟨(Value.type "tuple"), none, (Data.seq #[] 0), #[]⟩),
  ((nat_lit 242), ⟨(Value.type "code"), none, (Data.fields #[(Value.str "_law_pip" 511), (Value.str "_law_pip" 512), (Value.str "/claim/cut.py" 513), (Value.int 238 0), (Value.int 2 0), (Value.int 0 0), (Value.int 0 0), (Value.int 3 0), (Value.ref 237), (Value.bool Bool.true), (Value.int 181 0), (Value.ref 238), Value.none, (Value.ref 239), (Value.ref 240), (Value.ref 241), (Value.int 516 0), (Value.int 238 0), (Value.str "/claim/cut.py" 517)]), #[]⟩),
  ((nat_lit 243), ⟨(Value.type "function"), none, (Data.func (fnS (name := "_law_pip") (qual := "_law_pip") (rfl : dAt [13] = some (.FunctionDef _ _ _ _ _ _ _ _ _ _)) 3 [] Value.none Value.none Value.none (Value.str "law_rr0092_01" 509) none (Value.ref 242) Value.none 0)), #[]⟩),
  ((nat_lit 244), ⟨(Value.type "tuple"), none, (Data.seq #[] 0), #[]⟩),
  ((nat_lit 246), ⟨(Value.type "tuple"), none, (Data.seq #[(Value.str "dice" 522), (Value.str "found" 523), (Value.str "turn" 524), (Value.str "v" 525)] 0), #[]⟩),
  ((nat_lit 247), ⟨(Value.type "tuple"), none, (Data.seq #[] 0), #[]⟩),
  ((nat_lit 249), ⟨(Value.type "code"), none, (Data.fields #[(Value.str "_law_row" 519), (Value.str "_law_row" 520), (Value.str "/claim/cut.py" 521), (Value.int 243 0), (Value.int 1 0), (Value.int 0 0), (Value.int 0 0), (Value.int 3 0), (Value.ref 244), (Value.bool Bool.true), (Value.int 181 0), (Value.ref 245), Value.none, (Value.ref 246), (Value.ref 247), (Value.ref 248), (Value.int 526 0), (Value.int 243 0), (Value.str "/claim/cut.py" 527)]), #[]⟩),
  ((nat_lit 250), ⟨(Value.type "function"), none, (Data.func (fnS (name := "_law_row") (qual := "_law_row") (rfl : dAt [14] = some (.FunctionDef _ _ _ _ _ _ _ _ _ _)) 3 [] Value.none Value.none Value.none (Value.str "law_rr0092_01" 509) none (Value.ref 249) Value.none 0)), #[]⟩),
  ((nat_lit 251), ⟨(Value.type "tuple"), none, (Data.seq #[] 0), #[]⟩),
  ((nat_lit 254), ⟨(Value.type "code"), none, (Data.fields #[(Value.str "_law_due" 529), (Value.str "_law_due" 530), (Value.str "/claim/cut.py" 531), (Value.int 249 0), (Value.int 1 0), (Value.int 0 0), (Value.int 0 0), (Value.int 3 0), (Value.ref 251), (Value.bool Bool.true), (Value.int 181 0), (Value.ref 252), Value.none, Value.none, Value.none, (Value.ref 253), (Value.int 532 0), (Value.int 249 0), (Value.str "/claim/cut.py" 533)]), #[]⟩),
  ((nat_lit 255), ⟨(Value.type "function"), none, (Data.func (fnS (name := "_law_due") (qual := "_law_due") (rfl : dAt [15] = some (.FunctionDef _ _ _ _ _ _ _ _ _ _)) 3 [] Value.none Value.none Value.none (Value.str "law_rr0092_01" 509) none (Value.ref 254) Value.none 0)), #[]⟩),
  ((nat_lit 256), ⟨(Value.type "tuple"), none, (Data.seq #[] 0), #[]⟩),
  ((nat_lit 258), ⟨(Value.type "tuple"), none, (Data.seq #[(Value.str "one" 538)] 0), #[]⟩),
  ((nat_lit 259), ⟨(Value.type "tuple"), none, (Data.seq #[] 0), #[]⟩),
  ((nat_lit 261), ⟨(Value.type "code"), none, (Data.fields #[(Value.str "_law_great" 535), (Value.str "_law_great" 536), (Value.str "/claim/cut.py" 537), (Value.int 257 0), (Value.int 1 0), (Value.int 0 0), (Value.int 0 0), (Value.int 3 0), (Value.ref 256), (Value.bool Bool.true), (Value.int 181 0), (Value.ref 257), Value.none, (Value.ref 258), (Value.ref 259), (Value.ref 260), (Value.int 539 0), (Value.int 257 0), (Value.str "/claim/cut.py" 540)]), #[]⟩),
  ((nat_lit 262), ⟨(Value.type "function"), none, (Data.func (fnS (name := "_law_great") (qual := "_law_great") (rfl : dAt [16] = some (.FunctionDef _ _ _ _ _ _ _ _ _ _)) 3 [] Value.none Value.none Value.none (Value.str "law_rr0092_01" 509) none (Value.ref 261) Value.none 0)), #[]⟩),
  ((nat_lit 263), ⟨(Value.type "tuple"), none, (Data.seq #[] 0), #[]⟩),
  ((nat_lit 266), ⟨(Value.type "code"), none, (Data.fields #[(Value.str "_law_holds" 542), (Value.str "_law_holds" 543), (Value.str "/claim/cut.py" 544), (Value.int 259 0), (Value.int 2 0), (Value.int 0 0), (Value.int 0 0), (Value.int 3 0), (Value.ref 263), (Value.bool Bool.true), (Value.int 181 0), (Value.ref 264), Value.none, Value.none, Value.none, (Value.ref 265), (Value.int 545 0), (Value.int 259 0), (Value.str "/claim/cut.py" 546)]), #[]⟩),
  ((nat_lit 267), ⟨(Value.type "function"), none, (Data.func (fnS (name := "_law_holds") (qual := "_law_holds") (rfl : dAt [17] = some (.FunctionDef _ _ _ _ _ _ _ _ _ _)) 3 [] Value.none Value.none Value.none (Value.str "law_rr0092_01" 509) none (Value.ref 266) Value.none 0)), #[]⟩),
  ((nat_lit 268), ⟨(Value.type "tuple"), none, (Data.seq #[] 0), #[]⟩),
  ((nat_lit 271), ⟨(Value.type "code"), none, (Data.fields #[(Value.str "_law_is_told" 548), (Value.str "_law_is_told" 549), (Value.str "/claim/cut.py" 550), (Value.int 261 0), (Value.int 1 0), (Value.int 0 0), (Value.int 0 0), (Value.int 3 0), (Value.ref 268), (Value.bool Bool.true), (Value.int 181 0), (Value.ref 269), Value.none, Value.none, Value.none, (Value.ref 270), (Value.int 551 0), (Value.int 261 0), (Value.str "/claim/cut.py" 552)]), #[]⟩),
  ((nat_lit 272), ⟨(Value.type "function"), none, (Data.func (fnS (name := "_law_is_told") (qual := "_law_is_told") (rfl : dAt [18] = some (.FunctionDef _ _ _ _ _ _ _ _ _ _)) 3 [] Value.none Value.none Value.none (Value.str "law_rr0092_01" 509) none (Value.ref 271) Value.none 0)), #[]⟩),
  ((nat_lit 273), ⟨(Value.type "tuple"), none, (Data.seq #[] 0), #[]⟩),
  ((nat_lit 276), ⟨(Value.type "code"), none, (Data.fields #[(Value.str "law" 554), (Value.str "law" 555), (Value.str "/claim/cut.py" 556), (Value.int 276 0), (Value.int 1 0), (Value.int 0 0), (Value.int 0 0), (Value.int 3 0), (Value.ref 273), (Value.bool Bool.true), (Value.int 181 0), (Value.ref 274), Value.none, Value.none, Value.none, (Value.ref 275), (Value.int 557 0), (Value.int 276 0), (Value.str "/claim/cut.py" 558)]), #[]⟩),
  ((nat_lit 277), ⟨(Value.type "function"), none, (Data.func (fnS (name := "law") (qual := "law") (rfl : dAt [19] = some (.FunctionDef _ _ _ _ _ _ _ _ _ _)) 3 [] Value.none Value.none Value.none (Value.str "law_rr0092_01" 509) none (Value.ref 276) Value.none 0)), #[]⟩)]
noncomputable def asK : List Addr := [2, 3, 15, 17, 18, 20, 21, 22, 25, 30, 31, 33, 34, 36, 37, 38, 40, 41, 43, 44, 45, 46, 47, 48, 51, 58, 59, 60, 63, 65, 66, 68, 69, 77, 79, 80, 82, 83, 84, 86, 87, 89, 90, 91, 93, 94, 96, 97, 98, 100, 101, 103, 104, 105, 106, 107, 108, 109, 112, 115, 120, 121, 124, 125, 126, 129, 130, 131, 133, 134, 136, 137, 138, 140, 141, 143, 144, 145, 147, 148, 150, 151, 152, 154, 155, 157, 158, 159, 162, 163, 164, 166, 167, 169, 170, 171, 173, 174, 176, 177, 178, 180, 181, 183, 184, 185, 188, 189, 190, 192, 193, 195, 196, 197, 199, 200, 202, 203, 204, 206, 207, 209, 210, 211, 213, 214, 216, 217, 218, 220, 221, 223, 224, 225, 226, 227, 230, 232, 233, 235, 236, 237, 239, 240, 242, 243, 244, 246, 247, 249, 250, 251, 254, 255, 256, 258, 259, 261, 262, 263, 266, 267, 268, 271, 272, 273, 276, 277]
noncomputable abbrev KK (w : World) : Frag := kk39 w.params
noncomputable def Qv : Program := PySem.W.view PG [0, 2, 3, 5, 6, 7, 8, 9, 11, 13, 14, 15, 16, 17, 18, 19]
theorem asK_eq (P : Params) : asK = (kk39 P).map (·.1) := by kernel_rfl
noncomputable abbrev HkN : Hook := kHook kk39 asK asK_eq
theorem leftN : LeftO PG Qv [] (fun s => xlAt Qv [] s && recOk Challenge.rw_rr0092_01.row.records s) HkN.obs HkN.val 3950 := by
  intro w; kernel_rfl
--T Fw1


/-! side conditions by closed terms (they are stored once) -/
theorem rfl_fn : ScopeKind.function = ScopeKind.function := rfl
theorem rfl_lc : some NameKind.local = some NameKind.local := rfl
theorem rfl_gi : some NameKind.globalImplicit = some NameKind.globalImplicit := rfl
theorem rfl_cl : some NameKind.cell = some NameKind.cell := rfl
theorem rfl_fr : some NameKind.free = some NameKind.free := rfl
theorem rfl_mg : mainGlobals = mainGlobals := rfl
theorem rfl_bn : builtinsNs = builtinsNs := rfl
theorem rfl_sw : (pure false : Sem Bool) = pure false := rfl

/-- a value without its token -/
inductive AV
  | none | bool (b : Bool) | int (i : Int) | str (s : Str) | ref (a : Addr) | conc (v : Value)

noncomputable def er : Value → AV
  | .none => .none
  | .bool b => .bool b
  | .int i _ => .int i
  | .str s _ => .str s
  | .ref a => .ref a
  | v => .conc v

theorem er_none {v : Value} (h : er v = .none) : v = .none := by cases v <;> simp_all [er]
theorem er_bool {v : Value} {b : Bool} (h : er v = .bool b) : v = .bool b := by cases v <;> simp_all [er]
theorem er_int {v : Value} {i : Int} (h : er v = .int i) : ∃ t, v = .int i t := by cases v <;> simp_all [er]
theorem er_str {v : Value} {i : Str} (h : er v = .str i) : ∃ t, v = .str i t := by cases v <;> simp_all [er]
theorem er_ref {v : Value} {i : Addr} (h : er v = .ref i) : v = .ref i := by cases v <;> simp_all [er]
theorem er_conc {v c : Value} (h : er v = .conc c) : v = c := by cases v <;> simp_all [er]

inductive Tag
  | law | tmp | cell | inst | attrs | known | heights | causes | row | begins | liked | rows | watching | heats | log
  | clause (i : Nat) | watch (l : Int)
  deriving DecidableEq

inductive AO
  | list (vs : List AV) | tup (vs : List AV) | idict (kvs : List (Int × AV)) | sdict (kvs : List (Str × AV))
  | inst (dx : Addr) | attrs (fs : List (Str × AV)) | cell (v : Option AV) | rng (a b : Int) | fdict (ep : Nat) (kvs : List (Int × AV)) | exact (ob : Obj)

noncomputable abbrev AH := Addr → Option (Tag × AO)
noncomputable abbrev Loc := Str → Option AV

noncomputable def AO.rep (w : World) : AO → Obj → Prop
  | .list vs, ob => ∃ (its : List Value) (n : Nat), ob = listOf its.toArray n ∧ its.map er = vs
  | .tup vs, ob => ∃ (its : List Value) (n : Nat), ob = { cls := .type "tuple", data := .seq its.toArray n } ∧ its.map er = vs
  | .idict kvs, ob => ∃ kvs' : List (Int × Value), ob.IsDictOf (intKind PG w) kvs' ∧ kvs'.map (fun p => (p.1, er p.2)) = kvs
  | .sdict kvs, ob => ∃ kvs' : List (Str × Value), ob.IsDictOf (strKind PG w) kvs' ∧ kvs'.map (fun p => (p.1, er p.2)) = kvs
  | .inst dx, ob => ob = instObj 227 dx
  | .attrs fs, ob => ∃ (es : List DictEntry) (n : Nat), ob = dictOf es n ∧ es.map (fun e => (er e.key, er e.val)) = fs.map (fun p => (AV.str p.1, p.2))
  | .cell v, ob => ∃ v', ob.data = .cell v' ∧ v'.map er = v
  | .rng a b, ob => ∃ t u v, ob = { cls := .type "range", dict := none, data := .fields #[.int a t, .int b u, .int 1 v], slots := #[] }
  | .fdict ep kvs, ob => ∃ (kvs' : List (Int × Value)), (∃ es : Array DictEntry, ob.ExactDict ∧ ob.data = .dict es ep ∧ KeysOf (intKind PG w) es ∧ Pairs (intKind PG w) es.toList kvs' ∧ (kvs'.map (·.1)).Nodup) ∧ kvs'.map (fun p => (p.1, er p.2)) = kvs
  | .exact ob', ob => ob = ob' ∧ ∀ vs, ob'.data = .fields vs → ob'.cls = .type "range"

noncomputable def HR (w : World) (g : Heap) (L : Addr) (h : Heap) (H : AH) : Prop :=
  ∀ a t o, H a = some (t, o) → ∃ ob, h.get? a = some ob ∧ o.rep w ob ∧ a ≠ L ∧ g.get? a = none ∧ sysModules < a

noncomputable def LocRep (m : Loc) (mm : Str → Option Value) : Prop := ∀ x a, m x = some a → (mm x).map er = some a

noncomputable def SameRest (s₀ s : Shared) : Prop := ∃ h tk, s = { s₀ with heap := h, toks := tk }

structure Ctx where
  w : World
  A : Around
  A₀ : Around
  base : Heap
  outer : List Env
  g : Heap
  L : Addr
  fenv : Env
  s₀ : Shared
  mg : Str → Option Value
  mb : Str → Option Value
  p : Program
  loose : List Str
  mean : ExcName → Option Value
  room : Nat
  B : Below A₀ base outer g
  X : (KK w).In g
  T : Top p loose mean mg mb g
  hA : A.frames = some (fenv :: outer)
  hf : fenv.frame = some L
  hke : fenv.scope.kind = .function
  hd : A.depth + room < recursionLimit
  hu : A.units + 10 * room + 100 < cLine
  hh : A.handled = none

structure St (C : Ctx) (m : Loc) (H : AH) (s : Shared) : Prop where
  fr : ∃ mm, Fr C.g C.L s.heap mm ∧ LocRep m mm
  hr : HR C.w C.g C.L s.heap H
  sr : SameRest C.s₀ s

theorem St.tok {C m H s} (h : St C m H s) (n : Nat) : St C m H { s with toks := n } :=
  ⟨h.fr, h.hr, by obtain ⟨h', tk, rfl⟩ := h.sr; exact ⟨h', n, rfl⟩⟩

/-- what is not in the abstract heap stays -/
noncomputable def Kp (C : Ctx) (H H' : AH) (h h' : Heap) : Prop :=
  ∀ b o, h.get? b = some o → H b = none → b ≠ C.L → h'.get? b = some o ∧ H' b = none

theorem Kp.refl {C H h} : Kp C H H h h := fun _ _ e n _ => ⟨e, n⟩
theorem Kp.trans {C H H' H'' h h' h''} (a : Kp C H H' h h') (b : Kp C H' H'' h' h'') : Kp C H H'' h h'' :=
  fun x o e n l => let ⟨p, q⟩ := a x o e n l; b x o p q l

noncomputable def VM (C : Ctx) (env : Env) (vm m : Loc) (H : AH) (h : Heap) : Prop :=
  (env.locals = C.L ∧ vm = m) ∨ (env.locals ≠ C.L ∧ H env.locals = none ∧ ∃ mm, h.Ns env.locals mm ∧ LocRep vm mm)

theorem VM.step {C env vm m H H' h h'} (v : VM C env vm m H h) (k : Kp C H H' h h') : VM C env vm m H' h' := by
  rcases v with v | ⟨a, b, mm, n, r⟩
  · exact .inl v
  · obtain ⟨o, es, ep, ho, rest⟩ := n
    obtain ⟨p, q⟩ := k _ _ ho b a
    exact .inr ⟨a, q, mm, ⟨o, es, ep, p, rest⟩, r⟩

/-- an expression's tree -/
noncomputable def EV (C : Ctx) (env : Env) (vm m : Loc) (H : AH) (t : Sem Value) (Φ : AV → AH → Prop) : Prop :=
  ∀ (s : Shared) (Q : Value → Shared → Prop) (E : Value → Shared → Prop), St C m H s → VM C env vm m H s.heap →
    (∀ v H' s', Φ (er v) H' → St C m H' s' → Kp C H H' s.heap s'.heap → Q v s') → wpAny (model PG C.w) C.A t Q E s

/-- a test's tree -/
noncomputable def TV (C : Ctx) (env : Env) (vm m : Loc) (H : AH) (t : Sem Bool) (Φ : Bool → AH → Prop) : Prop :=
  ∀ (s : Shared) (Q : Bool → Shared → Prop) (E : Value → Shared → Prop), St C m H s → VM C env vm m H s.heap →
    (∀ v H' s', Φ v H' → St C m H' s' → Kp C H H' s.heap s'.heap → Q v s') → wpAny (model PG C.w) C.A t Q E s

/-- a list of values -/
noncomputable def LV (C : Ctx) (env : Env) (vm m : Loc) (H : AH) (t : Sem (List Value)) (Φ : List AV → AH → Prop) : Prop :=
  ∀ (s : Shared) (Q : List Value → Shared → Prop) (E : Value → Shared → Prop), St C m H s → VM C env vm m H s.heap →
    (∀ v H' s', Φ (v.map er) H' → St C m H' s' → Kp C H H' s.heap s'.heap → Q v s') → wpAny (model PG C.w) C.A t Q E s

/-- a deed without a value (no local changes) -/
noncomputable def UV (C : Ctx) (env : Env) (vm m : Loc) (H : AH) (t : Sem Unit) (Φ : AH → Prop) : Prop :=
  ∀ (s : Shared) (Q : Unit → Shared → Prop) (E : Value → Shared → Prop), St C m H s → VM C env vm m H s.heap →
    (∀ H' s', Φ H' → St C m H' s' → Kp C H H' s.heap s'.heap → Q () s') → wpAny (model PG C.w) C.A t Q E s

inductive AFl | next | brk | cont | ret (v : AV)
noncomputable def erF : Flow → AFl
  | .next => .next | .brk => .brk | .cont => .cont | .ret v => .ret (er v)

/-- statements of a function's own frame -/
noncomputable def EX (C : Ctx) (env : Env) (m : Loc) (H : AH) (t : Sem Flow) (Φ : AFl → Loc → AH → Prop) : Prop :=
  env.locals = C.L → ∀ (s : Shared) (Q : Flow → Shared → Prop) (E : Value → Shared → Prop), St C m H s →
    (∀ f m' H' s', Φ (erF f) m' H' → St C m' H' s' → Kp C H H' s.heap s'.heap → Q f s') → wpAny (model PG C.w) C.A t Q E s

noncomputable def Op2 (C : Ctx) (env : Env) (vm m : Loc) (H : AH) (f : Value → Value → Sem Value) (a b : AV) (Φ : AV → AH → Prop) : Prop :=
  ∀ v1 v2, er v1 = a → er v2 = b → EV C env vm m H (f v1 v2) Φ
noncomputable def Op1 (C : Ctx) (env : Env) (vm m : Loc) (H : AH) (f : Value → Sem Value) (a : AV) (Φ : AV → AH → Prop) : Prop :=
  ∀ v1, er v1 = a → EV C env vm m H (f v1) Φ
noncomputable def TV1 (C : Ctx) (env : Env) (vm m : Loc) (H : AH) (f : Value → Sem Bool) (a : AV) (Φ : Bool → AH → Prop) : Prop :=
  ∀ v1, er v1 = a → TV C env vm m H (f v1) Φ

section
variable {C : Ctx} {env : Env} {vm m : Loc} {H : AH}

theorem EV.mono {t Φ Ψ} (h : EV C env vm m H t Φ) (k : ∀ v H', Φ v H' → Ψ v H') : EV C env vm m H t Ψ :=
  fun s Q E hs hv hq => h s Q E hs hv fun v H' s' p => hq v H' s' (k _ _ p)
theorem TV.mono {t Φ Ψ} (h : TV C env vm m H t Φ) (k : ∀ v H', Φ v H' → Ψ v H') : TV C env vm m H t Ψ :=
  fun s Q E hs hv hq => h s Q E hs hv fun v H' s' p => hq v H' s' (k _ _ p)
theorem EX.mono {t Φ Ψ} (h : EX C env m H t Φ) (k : ∀ f m' H', Φ f m' H' → Ψ f m' H') : EX C env m H t Ψ :=
  fun hl s Q E hs hq => h hl s Q E hs fun v m' H' s' p => hq v m' H' s' (k _ _ _ p)

/-- pure ends -/
theorem EV.val {v : Value} {Φ} (h : Φ (er v) H) {t : Sem Value} (ht : ∀ (s : Shared) (Q : Value → Shared → Prop) (E : Value → Shared → Prop), Q v s → wpAny (model PG C.w) C.A t Q E s) : EV C env vm m H t Φ :=
  fun s Q E hs _ hq => ht s Q E (hq v H s h hs .refl)

-- statements
theorem ex_cons {st rest Φ} (h : EX C env m H (exec st env) (fun f m' H' => match f with | .next => EX C env m' H' (execs rest env) Φ | f => Φ f m' H')) :
    EX C env m H (execs (st :: rest) env) Φ := fun hl s Q E hs hq => by
  refine wpAny_execs_cons (h hl s _ E hs fun f m' H' s' p hs' k => ?_)
  cases f with
  | next => exact p hl s' Q E hs' fun f m'' H'' s'' p' hs'' k' => hq f m'' H'' s'' p' hs'' (k.trans k')
  | brk => exact hq _ _ _ _ p hs' k
  | cont => exact hq _ _ _ _ p hs' k
  | ret v => exact hq _ _ _ _ p hs' k
theorem ex_nil {Φ} (h : Φ .next m H) : EX C env m H (execs [] env) Φ := fun _ s Q E hs hq => wpAny_execs_nil (hq .next m H s h hs .refl)
theorem vm0 (hl : env.locals = C.L) {h : Heap} : VM C env m m H h := .inl ⟨hl, rfl⟩
theorem ex_ret {e pos Φ} (h : EV C env m m H (eval e env) (fun v H' => Φ (.ret v) m H')) : EX C env m H (exec (.Return (some e) pos) env) Φ :=
  fun hl s Q E hs hq => wpAny_Return_some (h s _ E hs (vm0 hl) fun v H' s' p hs' k => hq (.ret v) m H' s' p hs' k)
theorem ex_ret0 {pos Φ} (h : Φ (.ret .none) m H) : EX C env m H (exec (.Return none pos) env) Φ :=
  fun _ s Q E hs hq => wpAny_Return_none (hq (.ret .none) m H s h hs .refl)
theorem ex_if {test body orelse pos Φ} (h : TV C env m m H (isTrue test env (eval test env)) (fun b H' => if b = true then EX C env m H' (execs body env) Φ else EX C env m H' (execs orelse env) Φ)) :
    EX C env m H (exec (.If test body orelse pos) env) Φ := fun hl s Q E hs hq => by
  refine wpAny_If (h s _ E hs (vm0 hl) fun b H' s' p hs' k => ?_)
  cases b with
  | true => simp only [if_true] at p ⊢; exact p hl s' Q E hs' fun f m'' H'' s'' p' hs'' k' => hq f m'' H'' s'' p' hs'' (k.trans k')
  | false => simp only [Bool.false_eq_true, if_false] at p ⊢; exact p hl s' Q E hs' fun f m'' H'' s'' p' hs'' k' => hq f m'' H'' s'' p' hs'' (k.trans k')
theorem ex_pass {pos Φ} (h : Φ .next m H) : EX C env m H (exec (.Pass pos) env) Φ := fun _ s Q E hs hq => wpAny_Pass (hq .next m H s h hs .refl)

-- expressions
theorem ev_none {k pos Φ} (h : Φ .none H) : EV C env vm m H (eval (.Constant .none k pos) env) Φ := EV.val (v := .none) h fun _ _ _ hq => wpAny_Constant_none hq
theorem ev_bool {b k pos Φ} (h : Φ (.bool b) H) : EV C env vm m H (eval (.Constant (.bool b) k pos) env) Φ := EV.val (v := .bool b) h fun _ _ _ hq => Constant_bool hq
theorem ev_int {i k pos Φ} (h : Φ (.int i) H) : EV C env vm m H (eval (.Constant (.int i) k pos) env) Φ := fun s Q E hs _ hq => by
  exact wpAny_Constant_int (hq _ _ _ h (hs.tok _) .refl)
theorem ev_str {i k pos Φ} (h : Φ (.str i) H) : EV C env vm m H (eval (.Constant (.str i) k pos) env) Φ := fun s Q E hs _ hq => by
  exact Constant_str (hq _ _ _ h (hs.tok _) .refl)
theorem ev_bin {l op r pos Φ} (h : EV C env vm m H (eval l env) (fun a H1 => EV C env vm m H1 (eval r env) (fun b H2 => Op2 C env vm m H2 (binaryOp op) a b Φ))) :
    EV C env vm m H (eval (.BinOp l op r pos) env) Φ := fun s Q E hs hv hq =>
  wpAny_BinOp (h s _ E hs hv fun v1 H1 s1 h1 hs1 k1 => h1 s1 _ E hs1 (hv.step k1) fun v2 H2 s2 h2 hs2 k2 =>
    h2 v1 v2 rfl rfl s2 Q E hs2 ((hv.step k1).step k2) fun v3 H3 s3 h3 hs3 k3 => hq v3 H3 s3 h3 hs3 (k1.trans (k2.trans k3)))
theorem ev_un {op x pos Φ} (h : EV C env vm m H (eval x env) (fun a H1 => Op1 C env vm m H1 (unaryOp op) a Φ)) :
    EV C env vm m H (eval (.UnaryOp op x pos) env) Φ := fun s Q E hs hv hq =>
  UnaryOp_ (h s _ E hs hv fun v1 H1 s1 h1 hs1 k1 => h1 v1 rfl s1 Q E hs1 (hv.step k1) fun v3 H3 s3 h3 hs3 k3 => hq v3 H3 s3 h3 hs3 (k1.trans k3))
theorem ev_cmp {l op r pos Φ} (h : EV C env vm m H (eval l env) (fun a H1 => EV C env vm m H1 (eval r env) (fun b H2 => Op2 C env vm m H2 (compareOp op) a b Φ))) (hm : behindInMarks op r = false := by with_unfolding_all rfl) :
    EV C env vm m H (eval (.Compare l [op] [r] pos) env) Φ := fun s Q E hs hv hq =>
  wpAny_Compare1 (h s _ E hs hv fun v1 H1 s1 h1 hs1 k1 => h1 s1 _ E hs1 (hv.step k1) fun v2 H2 s2 h2 hs2 k2 =>
    h2 v1 v2 rfl rfl s2 Q E hs2 ((hv.step k1).step k2) fun v3 H3 s3 h3 hs3 k3 => hq v3 H3 s3 h3 hs3 (k1.trans (k2.trans k3))) hm
theorem tv_cmp {l op r pos whole Φ} (h : EV C env vm m H (eval l env) (fun a H1 => EV C env vm m H1 (eval r env) (fun b H2 => Op2 C env vm m H2 (compareOp op) a b fun c H3 => TV1 C env vm m H3 truthy c Φ)))
    (hm : behindInMarks op r = false := by with_unfolding_all rfl) : TV C env vm m H (isTrue (.Compare l [op] [r] pos) env whole) Φ := fun s Q E hs hv hq =>
  wpAny_isTrue_Compare1 (h s _ E hs hv fun v1 H1 s1 h1 hs1 k1 => h1 s1 _ E hs1 (hv.step k1) fun v2 H2 s2 h2 hs2 k2 =>
    h2 v1 v2 rfl rfl s2 _ E hs2 ((hv.step k1).step k2) fun v3 H3 s3 h3 hs3 k3 => h3 v3 rfl s3 Q E hs3 (((hv.step k1).step k2).step k3) fun v4 H4 s4 h4 hs4 k4 => hq v4 H4 s4 h4 hs4 (k1.trans (k2.trans (k3.trans k4)))) hm
theorem tv_plain {e Φ} (h : EV C env vm m H (eval e env) (fun a H1 => TV1 C env vm m H1 truthy a Φ))
    (hp : isTrue e env (eval e env) = (do let v ← eval e env; standAt e.pos; holding [v] (truthy v)) := by with_unfolding_all rfl) : TV C env vm m H (isTrue e env (eval e env)) Φ := fun s Q E hs hv hq =>
  isTrue_plain (h s _ E hs hv fun v1 H1 s1 h1 hs1 k1 => h1 v1 rfl s1 Q E hs1 (hv.step k1) fun v3 H3 s3 h3 hs3 k3 => hq v3 H3 s3 h3 hs3 (k1.trans k3)) hp
theorem tv_not {x pos whole Φ} (h : TV C env vm m H (isTrue x env (eval x env)) (fun c H' => Φ (!c) H')) : TV C env vm m H (isTrue (.UnaryOp .Not x pos) env whole) Φ :=
  fun s Q E hs hv hq => isTrue_not (h s _ E hs hv fun v1 H1 s1 h1 hs1 k1 => hq _ H1 s1 h1 hs1 k1)
theorem tv_and {x rest pos whole Φ} (h : TV C env vm m H (isTrue x env (eval x env)) (fun c H' => if c = true then TV C env vm m H' (isTrue (.BoolOp .And rest pos) env whole) Φ else Φ false H')) :
    TV C env vm m H (isTrue (.BoolOp .And (x :: rest) pos) env whole) Φ := fun s Q E hs hv hq => by
  refine isTrue_and (h s _ E hs hv fun c H1 s1 h1 hs1 k1 => ?_)
  cases c with
  | true => simp only [if_true] at h1 ⊢; exact h1 s1 Q E hs1 (hv.step k1) fun v3 H3 s3 h3 hs3 k3 => hq v3 H3 s3 h3 hs3 (k1.trans k3)
  | false => simp only [Bool.false_eq_true, if_false] at h1 ⊢; exact hq _ _ _ h1 hs1 k1
theorem tv_and_nil {pos whole Φ} (h : Φ true H) : TV C env vm m H (isTrue (.BoolOp .And [] pos) env whole) Φ := fun s _ _ hs _ hq => isTrue_and_nil (hq _ _ s h hs .refl)
theorem tv_or {x rest pos whole Φ} (h : TV C env vm m H (isTrue x env (eval x env)) (fun c H' => if c = true then Φ true H' else TV C env vm m H' (isTrue (.BoolOp .Or rest pos) env whole) Φ)) :
    TV C env vm m H (isTrue (.BoolOp .Or (x :: rest) pos) env whole) Φ := fun s Q E hs hv hq => by
  refine isTrue_or (h s _ E hs hv fun c H1 s1 h1 hs1 k1 => ?_)
  cases c with
  | false => simp only [Bool.false_eq_true, if_false] at h1 ⊢; exact h1 s1 Q E hs1 (hv.step k1) fun v3 H3 s3 h3 hs3 k3 => hq v3 H3 s3 h3 hs3 (k1.trans k3)
  | true => simp only [if_true] at h1 ⊢; exact hq _ _ _ h1 hs1 k1
theorem tv_or_nil {pos whole Φ} (h : Φ false H) : TV C env vm m H (isTrue (.BoolOp .Or [] pos) env whole) Φ := fun s _ _ hs _ hq => isTrue_or_nil (hq _ _ s h hs .refl)
theorem ev_if {test body orelse pos Φ} (h : TV C env vm m H (isTrue test env (eval test env)) (fun c H' => if c = true then EV C env vm m H' (eval body env) Φ else EV C env vm m H' (eval orelse env) Φ)) :
    EV C env vm m H (eval (.IfExp test body orelse pos) env) Φ := fun s Q E hs hv hq => by
  refine IfExp_ (h s _ E hs hv fun c H1 s1 h1 hs1 k1 => ?_)
  cases c with
  | true => simp only [if_true] at h1 ⊢; exact h1 s1 Q E hs1 (hv.step k1) fun v3 H3 s3 h3 hs3 k3 => hq v3 H3 s3 h3 hs3 (k1.trans k3)
  | false => simp only [Bool.false_eq_true, if_false] at h1 ⊢; exact h1 s1 Q E hs1 (hv.step k1) fun v3 H3 s3 h3 hs3 k3 => hq v3 H3 s3 h3 hs3 (k1.trans k3)
theorem tv_if {test body orelse pos whole Φ} (h : TV C env vm m H (isTrue test env (eval test env)) (fun c H' => if c = true then TV C env vm m H' (isTrue body env (eval body env)) Φ else TV C env vm m H' (isTrue orelse env (eval orelse env)) Φ)) :
    TV C env vm m H (isTrue (.IfExp test body orelse pos) env whole) Φ := fun s Q E hs hv hq => by
  refine isTrue_IfExp (h s _ E hs hv fun c H1 s1 h1 hs1 k1 => ?_)
  cases c with
  | true => simp only [if_true] at h1 ⊢; exact h1 s1 Q E hs1 (hv.step k1) fun v3 H3 s3 h3 hs3 k3 => hq v3 H3 s3 h3 hs3 (k1.trans k3)
  | false => simp only [Bool.false_eq_true, if_false] at h1 ⊢; exact h1 s1 Q E hs1 (hv.step k1) fun v3 H3 s3 h3 hs3 k3 => hq v3 H3 s3 h3 hs3 (k1.trans k3)

-- a tree that hands a value on, the heap as it was
theorem Op2.pure {f a b Φ r} (hr : Φ r H) (h : ∀ v1 v2 s Q E, er v1 = a → er v2 = b → (∀ v n, er v = r → Q v { s with toks := n }) → wpAny (model PG C.w) C.A (f v1 v2) Q E s) : Op2 C env vm m H f a b Φ :=
  fun v1 v2 e1 e2 s Q E hs _ hq => h v1 v2 s Q E e1 e2 fun v n e => hq v H _ (by rw [e]; exact hr) (hs.tok n) .refl
theorem Op1.pure {f a Φ r} (hr : Φ r H) (h : ∀ v1 s Q E, er v1 = a → (∀ v n, er v = r → Q v { s with toks := n }) → wpAny (model PG C.w) C.A (f v1) Q E s) : Op1 C env vm m H f a Φ :=
  fun v1 e1 s Q E hs _ hq => h v1 s Q E e1 fun v n e => hq v H _ (by rw [e]; exact hr) (hs.tok n) .refl

theorem op_add {a b : Int} {Φ} (h : Φ (.int (a + b)) H) : Op2 C env vm m H (binaryOp .Add) (.int a) (.int b) Φ :=
  Op2.pure h fun v1 v2 s Q E e1 e2 hq => by obtain ⟨t, rfl⟩ := er_int e1; obtain ⟨u, rfl⟩ := er_int e2; exact add_int (hq _ _ rfl)
theorem op_sub {a b : Int} {Φ} (h : Φ (.int (a - b)) H) : Op2 C env vm m H (binaryOp .Sub) (.int a) (.int b) Φ :=
  Op2.pure h fun v1 v2 s Q E e1 e2 hq => by obtain ⟨t, rfl⟩ := er_int e1; obtain ⟨u, rfl⟩ := er_int e2; exact sub_int (hq _ _ rfl)
theorem op_mul {a b : Int} {Φ} (h : Φ (.int (a * b)) H) (hb : IntMulOk a b) : Op2 C env vm m H (binaryOp .Mult) (.int a) (.int b) Φ :=
  Op2.pure h fun v1 v2 s Q E e1 e2 hq => by obtain ⟨t, rfl⟩ := er_int e1; obtain ⟨u, rfl⟩ := er_int e2; exact mul_int (hq _ _ rfl) hb
theorem op_mod {a b : Int} {Φ} (hb : b ≠ 0) (h : Φ (.int (a.fmod b)) H) : Op2 C env vm m H (binaryOp .Mod) (.int a) (.int b) Φ :=
  Op2.pure h fun v1 v2 s Q E e1 e2 hq => by obtain ⟨t, rfl⟩ := er_int e1; obtain ⟨u, rfl⟩ := er_int e2; exact mod_int' hb (hq _ _ rfl)
theorem op_pow {a b : Int} {Φ} (h0 : 0 ≤ b) (h1 : b ≤ 1000000) (h2 : a.natAbs < 2 ^ 64) (h : Φ (.int (a ^ b.toNat)) H) : Op2 C env vm m H (binaryOp .Pow) (.int a) (.int b) Φ :=
  Op2.pure h fun v1 v2 s Q E e1 e2 hq => by obtain ⟨t, rfl⟩ := er_int e1; obtain ⟨u, rfl⟩ := er_int e2; exact pow_int_small h0 h1 h2 (hq _ _ rfl)
theorem op_neg {a : Int} {Φ} (h : Φ (.int (-a)) H) : Op1 C env vm m H (unaryOp .USub) (.int a) Φ :=
  Op1.pure h fun v1 s Q E e1 hq => by obtain ⟨t, rfl⟩ := er_int e1; exact neg_int (hq _ _ rfl)
theorem op_lt {a b : Int} {Φ} (h : Φ (.bool (decide (a < b))) H) : Op2 C env vm m H (compareOp .Lt) (.int a) (.int b) Φ :=
  Op2.pure h fun v1 v2 s Q E e1 e2 hq => by obtain ⟨t, rfl⟩ := er_int e1; obtain ⟨u, rfl⟩ := er_int e2; exact lt_int (hq _ _ rfl)
theorem op_le {a b : Int} {Φ} (h : Φ (.bool (decide (a ≤ b))) H) : Op2 C env vm m H (compareOp .LtE) (.int a) (.int b) Φ :=
  Op2.pure h fun v1 v2 s Q E e1 e2 hq => by obtain ⟨t, rfl⟩ := er_int e1; obtain ⟨u, rfl⟩ := er_int e2; exact le_int (hq _ _ rfl)
theorem op_gt {a b : Int} {Φ} (h : Φ (.bool (decide (b < a))) H) : Op2 C env vm m H (compareOp .Gt) (.int a) (.int b) Φ :=
  Op2.pure h fun v1 v2 s Q E e1 e2 hq => by obtain ⟨t, rfl⟩ := er_int e1; obtain ⟨u, rfl⟩ := er_int e2; exact gt_int (hq _ _ rfl)
theorem op_ge {a b : Int} {Φ} (h : Φ (.bool (decide (b ≤ a))) H) : Op2 C env vm m H (compareOp .GtE) (.int a) (.int b) Φ :=
  Op2.pure h fun v1 v2 s Q E e1 e2 hq => by obtain ⟨t, rfl⟩ := er_int e1; obtain ⟨u, rfl⟩ := er_int e2; exact ge_int (hq _ _ rfl)
theorem op_eq {a b : Int} {Φ} (h : Φ (.bool (a == b)) H) : Op2 C env vm m H (compareOp .Eq) (.int a) (.int b) Φ :=
  Op2.pure h fun v1 v2 s Q E e1 e2 hq => by obtain ⟨t, rfl⟩ := er_int e1; obtain ⟨u, rfl⟩ := er_int e2; exact eq_int (hq _ _ rfl)
theorem op_ne {a b : Int} {Φ} (h : Φ (.bool (a != b)) H) : Op2 C env vm m H (compareOp .NotEq) (.int a) (.int b) Φ :=
  Op2.pure h fun v1 v2 s Q E e1 e2 hq => by obtain ⟨t, rfl⟩ := er_int e1; obtain ⟨u, rfl⟩ := er_int e2; exact ne_int (hq _ _ rfl)
theorem op_eqb {a b : Bool} {Φ} (h : Φ (.bool (a == b)) H) : Op2 C env vm m H (compareOp .Eq) (.bool a) (.bool b) Φ :=
  Op2.pure h fun v1 v2 s Q E e1 e2 hq => by obtain rfl := er_bool e1; obtain rfl := er_bool e2; exact eq_bool (hq _ s.toks rfl)
theorem op_eq_nb {b : Bool} {Φ} (h : Φ (.bool false) H) : Op2 C env vm m H (compareOp .Eq) .none (.bool b) Φ :=
  Op2.pure h fun v1 v2 s Q E e1 e2 hq => by obtain rfl := er_none e1; obtain rfl := er_bool e2; exact EqNone.eq_none_bool (hq _ s.toks rfl)
theorem op_eq_bn {b : Bool} {Φ} (h : Φ (.bool false) H) : Op2 C env vm m H (compareOp .Eq) (.bool b) .none Φ :=
  Op2.pure h fun v1 v2 s Q E e1 e2 hq => by obtain rfl := er_bool e1; obtain rfl := er_none e2; exact EqNone.eq_bool_none (hq _ s.toks rfl)

noncomputable def isNone : AV → Bool | .none => true | _ => false
noncomputable def isConc : AV → Bool | .conc _ => true | _ => false
theorem is_none_any {M : Model} {A : Around} {E s Q} (v : Value) (hc : isConc (er v) = false) (h : Q (.bool (isNone (er v))) s) : wpAny M A (compareOp .Is v .none) Q E s := by
  cases v with
  | none => exact is_none_none h
  | builtin _ => cases hc
  | _ => exact wpAny_is_other (by rfl) (by intro x; cases x) h
theorem isnot_none_any {M : Model} {A : Around} {E s Q} (v : Value) (hc : isConc (er v) = false) (h : Q (.bool (!isNone (er v))) s) : wpAny M A (compareOp .IsNot v .none) Q E s := by
  cases v with
  | none => exact isnot_none_none h
  | builtin _ => cases hc
  | _ => exact wpAny_isNot_other (by rfl) (by intro x; cases x) h
theorem op_is_none {a Φ} (h : Φ (.bool (isNone a)) H) (hc : isConc a = false := by rfl) : Op2 C env vm m H (compareOp .Is) a .none Φ :=
  Op2.pure h fun v1 v2 s Q E e1 e2 hq => by obtain rfl := er_none e2; subst e1; exact is_none_any v1 hc (hq _ s.toks rfl)
theorem op_isnot_none {a Φ} (h : Φ (.bool (!isNone a)) H) (hc : isConc a = false := by rfl) : Op2 C env vm m H (compareOp .IsNot) a .none Φ :=
  Op2.pure h fun v1 v2 s Q E e1 e2 hq => by obtain rfl := er_none e2; subst e1; exact isnot_none_any v1 hc (hq _ s.toks rfl)
theorem op_isnot_b {a b : Bool} {Φ} (h : Φ (.bool (a != b)) H) : Op2 C env vm m H (compareOp .IsNot) (.bool a) (.bool b) Φ :=
  Op2.pure h fun v1 v2 s Q E e1 e2 hq => by obtain rfl := er_bool e1; obtain rfl := er_bool e2; exact isnot_bool (hq _ s.toks rfl)

theorem tr_bool {b : Bool} {Φ} (h : Φ b H) : TV1 C env vm m H truthy (.bool b) Φ := fun v1 e1 s Q E hs _ hq => by
  obtain rfl := er_bool e1; exact wpAny_truthy_bool (hq _ _ s h hs .refl)
theorem tr_int {b : Int} {Φ} (h : Φ (b != 0) H) : TV1 C env vm m H truthy (.int b) Φ := fun v1 e1 s Q E hs _ hq => by
  obtain ⟨t, rfl⟩ := er_int e1; exact truthy_int (hq _ _ s h hs .refl)
theorem tr_none {Φ} (h : Φ false H) : TV1 C env vm m H truthy .none Φ := fun v1 e1 s Q E hs _ hq => by
  obtain rfl := er_none e1; exact truthy_none (hq _ _ s h hs .refl)
end
--T Tb
theorem pg_all (w : World) (n : Str) : plainGet (KK w) 227 n = true := by kernel_rfl
theorem fi_known (w : World) : findIn (KK w) (.ref 227) "known" = some none := by kernel_rfl
theorem tk_known (w : World) : takerIn (KK w) 227 "known" = some none := by kernel_rfl
theorem fi_heights (w : World) : findIn (KK w) (.ref 227) "heights" = some none := by kernel_rfl
theorem tk_heights (w : World) : takerIn (KK w) 227 "heights" = some none := by kernel_rfl
theorem fi_causes (w : World) : findIn (KK w) (.ref 227) "causes" = some none := by kernel_rfl
theorem tk_causes (w : World) : takerIn (KK w) 227 "causes" = some none := by kernel_rfl
theorem fi_row (w : World) : findIn (KK w) (.ref 227) "row" = some none := by kernel_rfl
theorem tk_row (w : World) : takerIn (KK w) 227 "row" = some none := by kernel_rfl
theorem fi_begins (w : World) : findIn (KK w) (.ref 227) "begins" = some none := by kernel_rfl
theorem tk_begins (w : World) : takerIn (KK w) 227 "begins" = some none := by kernel_rfl
theorem fi_seen (w : World) : findIn (KK w) (.ref 227) "seen" = some none := by kernel_rfl
theorem tk_seen (w : World) : takerIn (KK w) 227 "seen" = some none := by kernel_rfl
theorem fi_liked (w : World) : findIn (KK w) (.ref 227) "liked" = some none := by kernel_rfl
theorem tk_liked (w : World) : takerIn (KK w) 227 "liked" = some none := by kernel_rfl
theorem fi_rows (w : World) : findIn (KK w) (.ref 227) "rows" = some none := by kernel_rfl
theorem tk_rows (w : World) : takerIn (KK w) 227 "rows" = some none := by kernel_rfl
theorem fi_watching (w : World) : findIn (KK w) (.ref 227) "watching" = some none := by kernel_rfl
theorem tk_watching (w : World) : takerIn (KK w) 227 "watching" = some none := by kernel_rfl
theorem fi_heats (w : World) : findIn (KK w) (.ref 227) "heats" = some none := by kernel_rfl
theorem tk_heats (w : World) : takerIn (KK w) 227 "heats" = some none := by kernel_rfl
theorem fi_gain (w : World) : findIn (KK w) (.ref 227) "gain" = some none := by kernel_rfl
theorem tk_gain (w : World) : takerIn (KK w) 227 "gain" = some none := by kernel_rfl
theorem fi_log (w : World) : findIn (KK w) (.ref 227) "log" = some none := by kernel_rfl
theorem tk_log (w : World) : takerIn (KK w) 227 "log" = some none := by kernel_rfl
theorem fi_is_refuted (w : World) : findIn (KK w) (.ref 227) "is_refuted" = some none := by kernel_rfl
theorem tk_is_refuted (w : World) : takerIn (KK w) 227 "is_refuted" = some none := by kernel_rfl
theorem fi_blamed (w : World) : findIn (KK w) (.ref 227) "blamed" = some none := by kernel_rfl
theorem tk_blamed (w : World) : takerIn (KK w) 227 "blamed" = some none := by kernel_rfl
theorem fi_clashes (w : World) : findIn (KK w) (.ref 227) "clashes" = some none := by kernel_rfl
theorem tk_clashes (w : World) : takerIn (KK w) 227 "clashes" = some none := by kernel_rfl
theorem fi_conflict_limit (w : World) : findIn (KK w) (.ref 227) "conflict_limit" = some none := by kernel_rfl
theorem tk_conflict_limit (w : World) : takerIn (KK w) 227 "conflict_limit" = some none := by kernel_rfl
theorem fm_says (w : World) : findIn (KK w) (.ref 227) "says" = some (some (.ref 90)) := by kernel_rfl
theorem fn_says (w : World) : isFn (KK w) (.ref 90) = true := by kernel_rfl
theorem kp_says (w : World) : keepIn (KK w) (.ref 90) = true := by kernel_rfl
theorem fm_let (w : World) : findIn (KK w) (.ref 227) "let" = some (some (.ref 97)) := by kernel_rfl
theorem fn_let (w : World) : isFn (KK w) (.ref 97) = true := by kernel_rfl
theorem kp_let (w : World) : keepIn (KK w) (.ref 97) = true := by kernel_rfl
theorem fm_back_to (w : World) : findIn (KK w) (.ref 227) "back_to" = some (some (.ref 104)) := by kernel_rfl
theorem fn_back_to (w : World) : isFn (KK w) (.ref 104) = true := by kernel_rfl
theorem kp_back_to (w : World) : keepIn (KK w) (.ref 104) = true := by kernel_rfl
theorem fm_add_clause (w : World) : findIn (KK w) (.ref 227) "add_clause" = some (some (.ref 130)) := by kernel_rfl
theorem fn_add_clause (w : World) : isFn (KK w) (.ref 130) = true := by kernel_rfl
theorem kp_add_clause (w : World) : keepIn (KK w) (.ref 130) = true := by kernel_rfl
theorem fm_refute (w : World) : findIn (KK w) (.ref 227) "refute" = some (some (.ref 137)) := by kernel_rfl
theorem fn_refute (w : World) : isFn (KK w) (.ref 137) = true := by kernel_rfl
theorem kp_refute (w : World) : keepIn (KK w) (.ref 137) = true := by kernel_rfl
theorem fm_keep (w : World) : findIn (KK w) (.ref 227) "keep" = some (some (.ref 144)) := by kernel_rfl
theorem fn_keep (w : World) : isFn (KK w) (.ref 144) = true := by kernel_rfl
theorem kp_keep (w : World) : keepIn (KK w) (.ref 144) = true := by kernel_rfl
theorem fm_spread (w : World) : findIn (KK w) (.ref 227) "spread" = some (some (.ref 151)) := by kernel_rfl
theorem fn_spread (w : World) : isFn (KK w) (.ref 151) = true := by kernel_rfl
theorem kp_spread (w : World) : keepIn (KK w) (.ref 151) = true := by kernel_rfl
theorem fm_has_moved (w : World) : findIn (KK w) (.ref 227) "has_moved" = some (some (.ref 158)) := by kernel_rfl
theorem fn_has_moved (w : World) : isFn (KK w) (.ref 158) = true := by kernel_rfl
theorem kp_has_moved (w : World) : keepIn (KK w) (.ref 158) = true := by kernel_rfl
theorem fm_warm (w : World) : findIn (KK w) (.ref 227) "warm" = some (some (.ref 163)) := by kernel_rfl
theorem fn_warm (w : World) : isFn (KK w) (.ref 163) = true := by kernel_rfl
theorem kp_warm (w : World) : keepIn (KK w) (.ref 163) = true := by kernel_rfl
theorem fm_lesson (w : World) : findIn (KK w) (.ref 227) "lesson" = some (some (.ref 170)) := by kernel_rfl
theorem fn_lesson (w : World) : isFn (KK w) (.ref 170) = true := by kernel_rfl
theorem kp_lesson (w : World) : keepIn (KK w) (.ref 170) = true := by kernel_rfl
theorem fm_height_of (w : World) : findIn (KK w) (.ref 227) "height_of" = some (some (.ref 177)) := by kernel_rfl
theorem fn_height_of (w : World) : isFn (KK w) (.ref 177) = true := by kernel_rfl
theorem kp_height_of (w : World) : keepIn (KK w) (.ref 177) = true := by kernel_rfl
theorem fm_learn (w : World) : findIn (KK w) (.ref 227) "learn" = some (some (.ref 184)) := by kernel_rfl
theorem fn_learn (w : World) : isFn (KK w) (.ref 184) = true := by kernel_rfl
theorem kp_learn (w : World) : keepIn (KK w) (.ref 184) = true := by kernel_rfl
theorem fm_hottest (w : World) : findIn (KK w) (.ref 227) "hottest" = some (some (.ref 196)) := by kernel_rfl
theorem fn_hottest (w : World) : isFn (KK w) (.ref 196) = true := by kernel_rfl
theorem kp_hottest (w : World) : keepIn (KK w) (.ref 196) = true := by kernel_rfl
theorem fm_decide (w : World) : findIn (KK w) (.ref 227) "decide" = some (some (.ref 203)) := by kernel_rfl
theorem fn_decide (w : World) : isFn (KK w) (.ref 203) = true := by kernel_rfl
theorem kp_decide (w : World) : keepIn (KK w) (.ref 203) = true := by kernel_rfl
theorem fm_solve (w : World) : findIn (KK w) (.ref 227) "solve" = some (some (.ref 210)) := by kernel_rfl
theorem fn_solve (w : World) : isFn (KK w) (.ref 210) = true := by kernel_rfl
theorem kp_solve (w : World) : keepIn (KK w) (.ref 210) = true := by kernel_rfl
theorem fm_value (w : World) : findIn (KK w) (.ref 227) "value" = some (some (.ref 217)) := by kernel_rfl
theorem fn_value (w : World) : isFn (KK w) (.ref 217) = true := by kernel_rfl
theorem kp_value (w : World) : keepIn (KK w) (.ref 217) = true := by kernel_rfl
theorem ng_ordered (w : World) : nsIn (KK w) mainGlobals "ordered" = some (some (.ref 69)) := by kernel_rfl
theorem kp_ordered (w : World) : keepIn (KK w) (.ref 69) = true := by kernel_rfl
theorem ng_is_clause (w : World) : nsIn (KK w) mainGlobals "is_clause" = some (some (.ref 236)) := by kernel_rfl
theorem kp_is_clause (w : World) : keepIn (KK w) (.ref 236) = true := by kernel_rfl
theorem ng_law_pip (w : World) : nsIn (KK w) mainGlobals "_law_pip" = some (some (.ref 243)) := by kernel_rfl
theorem kp_law_pip (w : World) : keepIn (KK w) (.ref 243) = true := by kernel_rfl
theorem ng_law_row (w : World) : nsIn (KK w) mainGlobals "_law_row" = some (some (.ref 250)) := by kernel_rfl
theorem kp_law_row (w : World) : keepIn (KK w) (.ref 250) = true := by kernel_rfl
theorem ng_law_due (w : World) : nsIn (KK w) mainGlobals "_law_due" = some (some (.ref 255)) := by kernel_rfl
theorem kp_law_due (w : World) : keepIn (KK w) (.ref 255) = true := by kernel_rfl
theorem ng_law_great (w : World) : nsIn (KK w) mainGlobals "_law_great" = some (some (.ref 262)) := by kernel_rfl
theorem kp_law_great (w : World) : keepIn (KK w) (.ref 262) = true := by kernel_rfl
theorem ng_law_holds (w : World) : nsIn (KK w) mainGlobals "_law_holds" = some (some (.ref 267)) := by kernel_rfl
theorem kp_law_holds (w : World) : keepIn (KK w) (.ref 267) = true := by kernel_rfl
theorem ng_law_is_told (w : World) : nsIn (KK w) mainGlobals "_law_is_told" = some (some (.ref 272)) := by kernel_rfl
theorem kp_law_is_told (w : World) : keepIn (KK w) (.ref 272) = true := by kernel_rfl
theorem nb_abs (w : World) : nsIn (KK w) mainGlobals "abs" = some none := by kernel_rfl
theorem nb_len (w : World) : nsIn (KK w) mainGlobals "len" = some none := by kernel_rfl
theorem nb_range (w : World) : nsIn (KK w) mainGlobals "range" = some none := by kernel_rfl
theorem nb_sorted (w : World) : nsIn (KK w) mainGlobals "sorted" = some none := by kernel_rfl
theorem nb_list (w : World) : nsIn (KK w) mainGlobals "list" = some none := by kernel_rfl
theorem nb_tuple (w : World) : nsIn (KK w) mainGlobals "tuple" = some none := by kernel_rfl
theorem nb_int (w : World) : nsIn (KK w) mainGlobals "int" = some none := by kernel_rfl
theorem nb_isinstance (w : World) : nsIn (KK w) mainGlobals "isinstance" = some none := by kernel_rfl
theorem nb_sum (w : World) : nsIn (KK w) mainGlobals "sum" = some none := by kernel_rfl
theorem nb_bool (w : World) : nsIn (KK w) mainGlobals "bool" = some none := by kernel_rfl
theorem nb_super (w : World) : nsIn (KK w) mainGlobals "super" = some none := by kernel_rfl
theorem ng_span (w : World) : ∃ t, nsIn (KK w) mainGlobals "FIRST_SPAN" = some (some (.int 16 t)) := ⟨_, rfl⟩
theorem ng_heat (w : World) : ∃ t, nsIn (KK w) mainGlobals "MOST_HEAT" = some (some (.int 1000000000 t)) := ⟨_, rfl⟩
theorem ng_Search (w : World) : nsIn (KK w) mainGlobals "Search" = some (some (.ref 227)) := by kernel_rfl
/-- the fields of a search, by name -/
noncomputable def attrNames : List Str := ["known", "heights", "causes", "row", "begins", "seen", "liked", "rows", "watching", "heats", "gain", "log", "is_refuted", "blamed", "clashes", "conflict_limit"]
theorem attr_mem {P : Str → Prop} {a : Str} (h : attrNames.contains a = true) (k : ∀ x ∈ attrNames, P x) : P a := k a (List.contains_iff_mem.mp h)
theorem fi_all (w : World) {a : Str} (h : attrNames.contains a = true) : findIn (KK w) (.ref 227) a = some none := attr_mem (P := fun a => findIn (KK w) (.ref 227) a = some none) h (fun x hx => by
  simp only [attrNames, List.mem_cons, List.not_mem_nil, or_false] at hx
  rcases hx with rfl | rfl | rfl | rfl | rfl | rfl | rfl | rfl | rfl | rfl | rfl | rfl | rfl | rfl | rfl | rfl
  · exact fi_known w
  · exact fi_heights w
  · exact fi_causes w
  · exact fi_row w
  · exact fi_begins w
  · exact fi_seen w
  · exact fi_liked w
  · exact fi_rows w
  · exact fi_watching w
  · exact fi_heats w
  · exact fi_gain w
  · exact fi_log w
  · exact fi_is_refuted w
  · exact fi_blamed w
  · exact fi_clashes w
  · exact fi_conflict_limit w)
theorem tk_all (w : World) {a : Str} (h : attrNames.contains a = true) : takerIn (KK w) 227 a = some none := attr_mem (P := fun a => takerIn (KK w) 227 a = some none) h (fun x hx => by
  simp only [attrNames, List.mem_cons, List.not_mem_nil, or_false] at hx
  rcases hx with rfl | rfl | rfl | rfl | rfl | rfl | rfl | rfl | rfl | rfl | rfl | rfl | rfl | rfl | rfl | rfl
  · exact tk_known w
  · exact tk_heights w
  · exact tk_causes w
  · exact tk_row w
  · exact tk_begins w
  · exact tk_seen w
  · exact tk_liked w
  · exact tk_rows w
  · exact tk_watching w
  · exact tk_heats w
  · exact tk_gain w
  · exact tk_log w
  · exact tk_is_refuted w
  · exact tk_blamed w
  · exact tk_clashes w
  · exact tk_conflict_limit w)
/-! tables of the names that the walk meets -/
inductive FnT : Str → Addr → Prop
  | a0 : FnT "ordered" 69
  | a1 : FnT "_law_pip" 243
  | a2 : FnT "_law_row" 250
  | a3 : FnT "_law_due" 255
  | a4 : FnT "_law_great" 262
  | a5 : FnT "_law_holds" 267
  | a6 : FnT "is_clause" 236
  | a7 : FnT "_law_is_told" 272
  | s : FnT "Search" 227
theorem FnT.ok {x : Str} {fa : Addr} (w : World) (t : FnT x fa) : nsIn (KK w) mainGlobals x = some (some (.ref fa)) ∧ keepIn (KK w) (.ref fa) = true := by
  cases t
  · exact ⟨ng_ordered w, kp_ordered w⟩
  · exact ⟨ng_law_pip w, kp_law_pip w⟩
  · exact ⟨ng_law_row w, kp_law_row w⟩
  · exact ⟨ng_law_due w, kp_law_due w⟩
  · exact ⟨ng_law_great w, kp_law_great w⟩
  · exact ⟨ng_law_holds w, kp_law_holds w⟩
  · exact ⟨ng_is_clause w, kp_is_clause w⟩
  · exact ⟨ng_law_is_told w, kp_law_is_told w⟩
  · exact ⟨ng_Search w, by kernel_rfl⟩
inductive TyT : Str → String → Prop
  | a0 : TyT "list" "list"
  | a1 : TyT "tuple" "tuple"
  | a2 : TyT "range" "range"
  | a3 : TyT "int" "int"
theorem TyT.ok {x : Str} {T : String} (w : World) (t : TyT x T) : nsIn (KK w) mainGlobals x = some none ∧ bootBuiltins x = some (.type T) ∧ x ≠ "__name__" := by
  cases t
  · exact ⟨nb_list w, by decide +kernel, by decide⟩
  · exact ⟨nb_tuple w, by decide +kernel, by decide⟩
  · exact ⟨nb_range w, by decide +kernel, by decide⟩
  · exact ⟨nb_int w, by decide +kernel, by decide⟩
inductive BiT : Str → String → Prop
  | a0 : BiT "sum" "sum"
  | a1 : BiT "isinstance" "isinstance"
  | a2 : BiT "abs" "abs"
  | a3 : BiT "len" "len"
theorem BiT.ok {x : Str} {T : String} (w : World) (t : BiT x T) : nsIn (KK w) mainGlobals x = some none ∧ bootBuiltins x = some (.builtin T) ∧ x ≠ "__name__" := by
  cases t
  · exact ⟨nb_sum w, by decide +kernel, by decide⟩
  · exact ⟨nb_isinstance w, by decide +kernel, by decide⟩
  · exact ⟨nb_abs w, by decide +kernel, by decide⟩
  · exact ⟨nb_len w, by decide +kernel, by decide⟩
inductive MeT : Str → Addr → Prop
  | a0 : MeT "says" 90
  | a1 : MeT "let" 97
  | a2 : MeT "back_to" 104
  | a3 : MeT "add_clause" 130
  | a4 : MeT "refute" 137
  | a5 : MeT "keep" 144
  | a6 : MeT "spread" 151
  | a7 : MeT "has_moved" 158
  | a8 : MeT "warm" 163
  | a9 : MeT "lesson" 170
  | a10 : MeT "height_of" 177
  | a11 : MeT "learn" 184
  | a12 : MeT "hottest" 196
  | a13 : MeT "decide" 203
  | a14 : MeT "solve" 210
  | a15 : MeT "value" 217
theorem MeT.ok {x : Str} {fa : Addr} (w : World) (t : MeT x fa) : findIn (KK w) (.ref 227) x = some (some (.ref fa)) ∧ isFn (KK w) (.ref fa) = true ∧ keepIn (KK w) (.ref fa) = true := by
  cases t
  · exact ⟨fm_says w, fn_says w, kp_says w⟩
  · exact ⟨fm_let w, fn_let w, kp_let w⟩
  · exact ⟨fm_back_to w, fn_back_to w, kp_back_to w⟩
  · exact ⟨fm_add_clause w, fn_add_clause w, kp_add_clause w⟩
  · exact ⟨fm_refute w, fn_refute w, kp_refute w⟩
  · exact ⟨fm_keep w, fn_keep w, kp_keep w⟩
  · exact ⟨fm_spread w, fn_spread w, kp_spread w⟩
  · exact ⟨fm_has_moved w, fn_has_moved w, kp_has_moved w⟩
  · exact ⟨fm_warm w, fn_warm w, kp_warm w⟩
  · exact ⟨fm_lesson w, fn_lesson w, kp_lesson w⟩
  · exact ⟨fm_height_of w, fn_height_of w, kp_height_of w⟩
  · exact ⟨fm_learn w, fn_learn w, kp_learn w⟩
  · exact ⟨fm_hottest w, fn_hottest w, kp_hottest w⟩
  · exact ⟨fm_decide w, fn_decide w, kp_decide w⟩
  · exact ⟨fm_solve w, fn_solve w, kp_solve w⟩
  · exact ⟨fm_value w, fn_value w, kp_value w⟩
inductive BmT : String → Str → String → Prop
  | a0 : BmT "list" "append" "list.append"
  | a1 : BmT "list" "extend" "list.extend"
  | a2 : BmT "dict" "get" "dict.get"
  | a3 : BmT "dict" "setdefault" "dict.setdefault"
  | a4 : BmT "dict" "pop" "dict.pop"
theorem BmT.ok {T : String} {n : Str} {id : String} (t : BmT T n id) : Slot T n id ∧ PlainAttrs T ∧ typeOf (.builtin id) = pure (.type "method_descriptor") ∧ T ≠ "" := by
  cases t
  · exact ⟨PySem.F.slot_list_append, PySem.F.plainAttrs_list, PySem.F.type_list_append, by decide⟩
  · exact ⟨PySem.F.slot_list_extend, PySem.F.plainAttrs_list, PySem.F.type_list_extend, by decide⟩
  · exact ⟨PySem.F.slot_dict_get, PySem.F.plainAttrs_dict, PySem.F.type_dict_get, by decide⟩
  · exact ⟨PySem.F.slot_dict_setdefault, PySem.F.plainAttrs_dict, PySem.F.type_dict_setdefault, by decide⟩
  · exact ⟨PySem.F.slot_dict_pop, PySem.F.plainAttrs_dict, PySem.F.type_dict_pop, by decide⟩
--T Fw2

noncomputable def AH.set (H : AH) (a : Addr) (x : Tag × AO) : AH := fun b => if b = a then some x else H b
theorem AH.set_self {H : AH} {a x} : (H.set a x) a = some x := by simp [AH.set]
theorem AH.set_ne {H : AH} {a b x} (h : b ≠ a) : (H.set a x) b = H b := by simp [AH.set, h]
theorem AH.set_new {H : AH} {a b x y} (hn : H a = none) (h : H b = some y) : (H.set a x) b = some y := by
  rw [AH.set_ne (by rintro rfl; rw [hn] at h; cases h)]; exact h
theorem AH.set_tag {H : AH} {a b x y z} (ha : H a = some z) (h : H b = some y) (t : y.1 ≠ z.1) : (H.set a x) b = some y := by
  rw [AH.set_ne (by rintro rfl; rw [ha] at h; cases h; exact t rfl)]; exact h

section
variable {C : Ctx} {env : Env} {vm m : Loc} {H : AH} {s : Shared}

theorem St.lt {a t o} (hs : St C m H s) (h : H a = some (t, o)) : a < s.heap.objs.size := by
  obtain ⟨ob, e, _⟩ := hs.hr a t o h; exact Heap.lt_size e
theorem St.fresh (hs : St C m H s) : H s.heap.objs.size = none := by
  cases e : H s.heap.objs.size with
  | none => rfl
  | some x => exact absurd (hs.lt (t := x.1) (o := x.2) e) (Nat.lt_irrefl _)
theorem St.gfresh (hs : St C m H s) : C.g.get? s.heap.objs.size = none := by
  obtain ⟨mm, F, _⟩ := hs.fr
  cases e : C.g.get? s.heap.objs.size with
  | none => rfl
  | some x => exact absurd (Heap.lt_size (F.keep _ _ e)) (Nat.lt_irrefl _)
theorem St.Lne (hs : St C m H s) : s.heap.objs.size ≠ C.L := by
  obtain ⟨mm, F, _⟩ := hs.fr
  exact Nat.ne_of_gt F.ns.lt

theorem St.low (hs : St C m H s) : sysModules < s.heap.objs.size := by
  obtain ⟨mm, F, _⟩ := hs.fr
  exact PyProof.Rows.modules_low (C.T.nolimit.keeps F.keep)
/-- one object of the abstract heap changes -/
theorem St.mut {a t o t' o' ob'} {h' : Heap} {tk : Nat} (hs : St C m H s) (hH : H a = some (t, o))
    (fr : ∃ mm, Fr C.g C.L h' mm ∧ LocRep m mm) (keep : ∀ b ob, b ≠ a → b ≠ C.L → s.heap.get? b = some ob → h'.get? b = some ob)
    (new : h'.get? a = some ob') (rep : o'.rep C.w ob') :
    St C m (H.set a (t', o')) { s with heap := h', toks := tk } ∧ Kp C H (H.set a (t', o')) s.heap h' := by
  obtain ⟨ob, e, _, nL, ng⟩ := hs.hr a t o hH
  refine ⟨⟨fr, fun b u p hb => ?_, ?_⟩, fun b ob hb hn hl => ?_⟩
  · by_cases q : b = a
    · subst q
      rw [AH.set_self] at hb; cases hb
      exact ⟨ob', new, rep, nL, ng⟩
    · rw [AH.set_ne q] at hb
      obtain ⟨ob1, e1, r1, n1, g1⟩ := hs.hr b u p hb
      exact ⟨ob1, keep b ob1 q n1 e1, r1, n1, g1⟩
  · obtain ⟨h0, tk0, e0⟩ := hs.sr; exact ⟨h', tk, by rw [e0]⟩
  · have q : b ≠ a := by rintro rfl; rw [hH] at hn; cases hn
    exact ⟨keep b ob q hl hb, by rw [AH.set_ne q]; exact hn⟩

theorem St.sameBut {a t o t' o' ob'} {h' : Heap} {tk : Nat} (hs : St C m H s) (hH : H a = some (t, o)) (sb : Heap.SameBut a s.heap h')
    (new : h'.get? a = some ob') (rep : o'.rep C.w ob') :
    St C m (H.set a (t', o')) { s with heap := h', toks := tk } ∧ Kp C H (H.set a (t', o')) s.heap h' := by
  obtain ⟨ob, e, _, nL, ng⟩ := hs.hr a t o hH
  obtain ⟨mm, F, r⟩ := hs.fr
  refine hs.mut hH ⟨mm, ⟨F.ns.sameBut sb (Ne.symm nL), fun b o' q => (sb.2 b ?_).trans (F.keep b o' q), F.above⟩, r⟩ (fun b ob q _ e1 => (sb.2 b q).trans e1) new rep
  rintro rfl; rw [ng.1] at q; cases q

/-- tags are ghosts -/
theorem St.retag {a t t' o} (hs : St C m H s) (hH : H a = some (t, o)) : St C m (H.set a (t', o)) s ∧ Kp C H (H.set a (t', o)) s.heap s.heap := by
  obtain ⟨ob, e, r, nL, ng⟩ := hs.hr a t o hH
  have := hs.mut (h' := s.heap) (tk := s.toks) (t' := t') hH hs.fr (fun _ _ _ _ e => e) e r
  exact this

/-- a new object: tracked, or not -/
theorem St.alloc {t o ob} (hs : St C m H s) (rep : o.rep C.w ob) (hf : ob.isFreed = false) {tk : Nat} :
    St C m (H.set s.heap.objs.size (t, o)) { s with heap := s.heap.push ob, toks := tk } ∧ Kp C H (H.set s.heap.objs.size (t, o)) s.heap (s.heap.push ob) := by
  obtain ⟨mm, F, r⟩ := hs.fr
  refine ⟨⟨⟨mm, F.push ob, r⟩, fun b u p hb => ?_, ?_⟩, fun b ob' hb hn hl => ⟨Heap.get?_push_of_some _ hb, ?_⟩⟩
  · by_cases q : b = s.heap.objs.size
    · subst q
      rw [AH.set_self] at hb; cases hb
      exact ⟨ob, Heap.get?_push_size _ hf, rep, hs.Lne, hs.gfresh, hs.low⟩
    · rw [AH.set_ne q] at hb
      obtain ⟨ob1, e1, r1, n1, g1⟩ := hs.hr b u p hb
      exact ⟨ob1, Heap.get?_push_of_some _ e1, r1, n1, g1⟩
  · obtain ⟨h0, tk0, e0⟩ := hs.sr; exact ⟨_, tk, by rw [e0]⟩
  · rw [AH.set_ne (Nat.ne_of_lt (Heap.lt_size hb))]; exact hn
theorem St.push {ob} (hs : St C m H s) {tk : Nat} : St C m H { s with heap := s.heap.push ob, toks := tk } ∧ Kp C H H s.heap (s.heap.push ob) := by
  obtain ⟨mm, F, r⟩ := hs.fr
  refine ⟨⟨⟨mm, F.push ob, r⟩, fun b u p hb => ?_, ?_⟩, fun b ob' hb hn hl => ⟨Heap.get?_push_of_some _ hb, hn⟩⟩
  · obtain ⟨ob1, e1, r1, n1, g1⟩ := hs.hr b u p hb
    exact ⟨ob1, Heap.get?_push_of_some _ e1, r1, n1, g1⟩
  · obtain ⟨h0, tk0, e0⟩ := hs.sr; exact ⟨_, tk, by rw [e0]⟩

-- ghosts in the walk
theorem ex_retag {a t t' o tr Φ} (hH : H a = some (t, o)) (h : EX C env m (H.set a (t', o)) tr Φ) : EX C env m H tr Φ := fun hl s Q E hs hq => by
  obtain ⟨h1, k1⟩ := hs.retag (t' := t') hH
  exact h hl s Q E h1 fun f m' H' s' p hs' k => hq f m' H' s' p hs' (k1.trans k)
theorem ev_retag {a t t' o tr Φ} (hH : H a = some (t, o)) (h : EV C env vm m (H.set a (t', o)) tr Φ) : EV C env vm m H tr Φ := fun s Q E hs hv hq => by
  obtain ⟨h1, k1⟩ := hs.retag (t' := t') hH
  exact h s Q E h1 (hv.step k1) fun v H' s' p hs' k => hq v H' s' p hs' (k1.trans k)

-- names
theorem VM.ns (hv : VM C env vm m H s.heap) (hs : St C m H s) : ∃ mm, s.heap.Ns env.locals mm ∧ LocRep vm mm := by
  rcases hv with ⟨a, rfl⟩ | ⟨_, _, mm, n, r⟩
  · obtain ⟨mm, F, r⟩ := hs.fr; rw [a]; exact ⟨mm, F.ns, r⟩
  · exact ⟨mm, n, r⟩
theorem ev_local {x : Str} {pos v Φ} (hx : vm x = some v) (h : Φ v H) (hk : env.scope.kind = .function := by with_unfolding_all exact rfl_fn) (hl : env.kindOf x = some .local := by with_unfolding_all exact rfl_lc)
    (hd : (x == ("__debug__" : Str)) = false := by decide) : EV C env vm m H (eval (.Name x pos) env) Φ := fun s Q E hs hv hq => by
  obtain ⟨mm, n, r⟩ := hv.ns hs
  have := r x v hx
  cases e : mm x with
  | none => rw [e] at this; cases this
  | some cv =>
    rw [e] at this; cases this
    exact wpAny_Name (wpAny_loadName_local hk hl n e (hq cv H s h hs .refl)) hd
theorem St.cell {c t v} (hs : St C m H s) (hc : H c = some (t, .cell (some v))) : ∃ cv, s.heap.IsCell c (some cv) ∧ er cv = v := by
  obtain ⟨ob, e, ⟨v', d, r⟩, _⟩ := hs.hr c t _ hc
  cases v' with
  | none => cases r
  | some cv => exact ⟨cv, ⟨ob, e, d⟩, Option.some.inj r⟩
theorem ev_cell {x : Str} {pos c t v Φ} (hc : H c = some (t, .cell (some v))) (h : Φ v H) (hcl : env.cells.lookup x = some c := by rfl) (hk : env.scope.kind = .function := by with_unfolding_all exact rfl_fn)
    (hl : env.kindOf x = some .cell := by with_unfolding_all exact rfl_cl) (hd : (x == ("__debug__" : Str)) = false := by decide) : EV C env vm m H (eval (.Name x pos) env) Φ := fun s Q E hs hv hq => by
  obtain ⟨cv, ic, rfl⟩ := hs.cell hc
  exact wpAny_Name (wpAny_loadName_cell hk hl hcl ic (hq cv H s h hs .refl)) hd
theorem ev_free {x : Str} {pos c t v Φ} (hc : H c = some (t, .cell (some v))) (h : Φ v H) (hcl : env.cells.lookup x = some c := by rfl) (hk : env.scope.kind = .function := by with_unfolding_all exact rfl_fn)
    (hl : env.kindOf x = some .free := by with_unfolding_all exact rfl_fr) (hd : (x == ("__debug__" : Str)) = false := by decide) (hn : (x == ("__classdict__" : Str)) = false := by decide) :
    EV C env vm m H (eval (.Name x pos) env) Φ := fun s Q E hs hv hq => by
  obtain ⟨cv, ic, rfl⟩ := hs.cell hc
  exact wpAny_Name (wpAny_loadName_free hk hl hcl ic (hq cv H s h hs .refl) hn) hd
theorem ev_glob {x : Str} {pos v Φ} (e : nsIn (KK C.w) mainGlobals x = some (some v)) (h : Φ (er v) H) (hg : env.globals = mainGlobals := by with_unfolding_all exact rfl_mg) (hk : env.scope.kind = .function := by with_unfolding_all exact rfl_fn)
    (hl : env.kindOf x = some .globalImplicit := by with_unfolding_all exact rfl_gi) (hd : (x == ("__debug__" : Str)) = false := by decide) : EV C env vm m H (eval (.Name x pos) env) Φ := fun s Q E hs hv hq => by
  obtain ⟨mm, F, _⟩ := hs.fr
  exact nameG_K F C.X (topRead_of C.T) e (hq v H s h hs .refl) hg hk hl hd
theorem ev_bi {x : Str} {pos v Φ} (e : nsIn (KK C.w) mainGlobals x = some none) (hb : bootBuiltins x = some v) (hn : x ≠ "__name__") (h : Φ (er v) H) (hg : env.globals = mainGlobals := by with_unfolding_all exact rfl_mg) (hgb : env.builtins = builtinsNs := by with_unfolding_all exact rfl_bn)
    (hk : env.scope.kind = .function := by with_unfolding_all exact rfl_fn) (hl : env.kindOf x = some .globalImplicit := by with_unfolding_all exact rfl_gi) (hd : (x == ("__debug__" : Str)) = false := by decide) : EV C env vm m H (eval (.Name x pos) env) Φ := fun s Q E hs hv hq => by
  obtain ⟨mm, F, _⟩ := hs.fr
  have T := topRead_of C.T
  exact Name_function_global hk hl (loadGlobal_builtin (env := env) (by rw [hg]; exact T.g.keeps F.keep) (mg_none_of C.X T.g e) (by rw [hgb]; exact T.b.keeps F.keep) ((T.builtins x hn).trans hb) (hq v H s h hs .refl)) hd

-- stores of names
noncomputable def Loc.set (m : Loc) (x : Str) (v : AV) : Loc := fun y => if y = x then some v else m y
theorem LocRep.set {m : Loc} {mm : Str → Option Value} (r : LocRep m mm) (x : Str) (v : Value) : LocRep (m.set x (er v)) (fun y => if y = x then some v else mm y) := by
  intro y a h
  unfold Loc.set at h
  by_cases e : y = x
  · simp only [e, if_true] at h ⊢; cases h; rfl
  · simp only [e, if_false] at h ⊢; exact r y a h
noncomputable def SV (C : Ctx) (env : Env) (m : Loc) (H : AH) (t : Value → Sem Unit) (a : AV) (Φ : Loc → AH → Prop) : Prop :=
  env.locals = C.L → ∀ v (s : Shared) (Q : Unit → Shared → Prop) (E : Value → Shared → Prop), er v = a → St C m H s → (∀ m' H' s', Φ m' H' → St C m' H' s' → Kp C H H' s.heap s'.heap → Q () s') → wpAny (model PG C.w) C.A (t v) Q E s
theorem sv_local {x : Str} {a Φ} (h : Φ (m.set x a) H) (hl : env.kindOf x = some .local := by with_unfolding_all exact rfl_lc) (hk : env.scope.kind = .function := by with_unfolding_all exact rfl_fn) : SV C env m H (storeName env x) a Φ := fun hL v s Q E e hs hq => by
  subst e
  obtain ⟨mm, F, r⟩ := hs.fr
  refine wpAny_storeName_local hl (by rw [hL]; exact F.ns) (fun h' hn sb => ?_) (by simp [hk])
  rw [hL] at hn sb
  refine hq _ H _ h ⟨⟨_, F.set hn sb, r.set x v⟩, fun b u p hb => ?_, ?_⟩ fun b ob hb hn' hl' => ⟨(sb.2 b hl').trans hb, hn'⟩
  · obtain ⟨ob1, e1, r1, n1, g1⟩ := hs.hr b u p hb
    exact ⟨ob1, (sb.2 b n1).trans e1, r1, n1, g1⟩
  · obtain ⟨h0, tk0, e0⟩ := hs.sr; exact ⟨_, _, by rw [e0]⟩
theorem sv_cell {x : Str} {a c t v₀ Φ} (hc : H c = some (t, .cell v₀)) (h : Φ m (H.set c (t, .cell (some a)))) (hcl : env.cells.lookup x = some c := by rfl) (hl : env.kindOf x = some .cell := by with_unfolding_all exact rfl_cl) (hk : env.scope.kind = .function := by with_unfolding_all exact rfl_fn) :
    SV C env m H (storeName env x) a Φ := fun hL v s Q E e hs hq => by
  subst e
  obtain ⟨ob, e, ⟨v', d, r⟩, _⟩ := hs.hr c t _ hc
  refine wpAny_storeName_cell hk hl hcl ⟨ob, e, d⟩ fun h' hv sb => ?_
  obtain ⟨ob', e', d'⟩ := hv
  obtain ⟨h1, k1⟩ := hs.sameBut (t' := t) (tk := s.toks) hc sb e' (o' := .cell (some (er v))) ⟨some v, d', rfl⟩
  exact hq _ _ _ h h1 k1
theorem ex_assign {x : Str} {pos' value pos Φ} (h : EV C env m m H (eval value env) (fun a H1 => SV C env m H1 (storeName env x) a (fun m' H' => Φ .next m' H')))
    (hw : swapsWith value (some (.Name x pos')) pos.line env = pure false := by with_unfolding_all exact rfl_sw) : EX C env m H (exec (.Assign [.Name x pos'] value pos) env) Φ := fun hl s Q E hs hq =>
  wpAny_Assign_Name (h s _ E hs (vm0 hl) fun v H1 s1 h1 hs1 k1 => h1 hl v s1 _ E rfl hs1 fun m' H' s' h2 hs2 k2 => hq .next m' H' s' h2 hs2 (k1.trans k2)) hw
end
--T Fw3

/-- a call of a value on values -/
noncomputable def CV (C : Ctx) (m : Loc) (H : AH) (f : Value) (args : List AV) (Φ : AV → AH → Prop) : Prop :=
  ∀ vs : List Value, vs.map er = args → ∀ (s : Shared) (Q : Value → Shared → Prop) (E : Value → Shared → Prop), St C m H s →
    (∀ v H' s', Φ (er v) H' → St C m H' s' → Kp C H H' s.heap s'.heap → Q v s') → wpAny (model PG C.w) C.A (call f vs) Q E s

/-- a contract of a def of the text -/
noncomputable def Spec (n : Nat) (fa : Addr) (args : List AV) (H : AH) (Φ : AV → AH → Prop) : Prop :=
  ∀ (C : Ctx) (m : Loc), n ≤ C.room → CV C m H (.ref fa) args Φ

theorem CV.mono {C m H f args Φ Ψ} (h : CV C m H f args Φ) (k : ∀ v H', Φ v H' → Ψ v H') : CV C m H f args Ψ :=
  fun vs e s Q E hs hq => h vs e s Q E hs fun v H' s' p => hq v H' s' (k _ _ p)
theorem Spec.mono {n fa args H Φ Ψ} (h : Spec n fa args H Φ) (k : ∀ v H', Φ v H' → Ψ v H') : Spec n fa args H Ψ :=
  fun C m hn => (h C m hn).mono k
theorem Spec.le {n n' fa args H Φ} (h : Spec n fa args H Φ) (k : n ≤ n') : Spec n' fa args H Φ := fun C m hn => h C m (Nat.le_trans k hn)

section
variable {C : Ctx} {env : Env} {vm m : Loc} {H : AH}
theorem lv_nil {pos Φ} (h : Φ [] H) : LV C env vm m H (spliced (backTo pos (starEach [] env))) Φ := fun s Q E hs _ hq => spliced_none (hq [] H s h hs .refl)
theorem lv_cons {e rest pos Φ} (h : EV C env vm m H (eval e env) (fun a H1 => LV C env vm m H1 (spliced (backTo pos (starEach rest env))) (fun as H2 => Φ (a :: as) H2)))
    (he : starEach (e :: rest) env = (false, eval e env) :: starEach rest env := by with_unfolding_all rfl) : LV C env vm m H (spliced (backTo pos (starEach (e :: rest) env))) Φ := fun s Q E hs hv hq =>
  spliced_more (h s _ E hs hv fun v H1 s1 h1 hs1 k1 => h1 s1 _ E hs1 (hv.step k1) fun vs H2 s2 h2 hs2 k2 => hq (v :: vs) H2 s2 h2 hs2 (k1.trans k2)) he

theorem ev_call_fn {x xp fa e rest pos Φ} (t : FnT x fa)
    (h : LV C env vm m H (spliced (backTo pos (starEach (e :: rest) env))) (fun as H1 => CV C m H1 (.ref fa) as Φ))
    (hg : env.globals = mainGlobals := by with_unfolding_all exact rfl_mg) (hkf : env.scope.kind = .function := by with_unfolding_all exact rfl_fn)
    (hl : env.kindOf x = some .globalImplicit := by with_unfolding_all exact rfl_gi) (hd : (x == ("__debug__" : Str)) = false := by decide)
    (he : starEach (e :: rest) env = (false, eval e env) :: starEach rest env := by with_unfolding_all rfl) (hplain : (backTo pos (starEach rest env)).any (·.1) = false := by with_unfolding_all rfl) :
    EV C env vm m H (eval (.Call (.Name x xp) (e :: rest) [] pos) env) Φ := fun s Q E hs hv hq => by
  obtain ⟨g, hk⟩ := t.ok C.w
  refine Call_ (ev_glob (Φ := fun v H' => v = .ref fa ∧ H' = H) g ⟨rfl, rfl⟩ hg hkf hl hd s _ E hs hv fun v H1 s1 h1 hs1 k1 => ?_)
  obtain ⟨e1, rfl⟩ := h1
  obtain rfl := er_ref e1
  refine callWith_K C.X hk (h s1 _ E hs1 (hv.step k1) fun vs H2 s2 h2 hs2 k2 => ?_) he hplain
  obtain ⟨mm, F, _⟩ := hs2.fr
  exact ⟨C.X.keeps F.keep, h2 vs rfl s2 Q E hs2 fun v H3 s3 h3 hs3 k3 => hq v H3 s3 h3 hs3 (k1.trans (k2.trans k3))⟩
theorem ev_call_bi {x xp id e rest pos Φ} (t : BiT x id)
    (h : LV C env vm m H (spliced (backTo pos (starEach (e :: rest) env))) (fun as H1 => CV C m H1 (.builtin id) as Φ))
    (hg : env.globals = mainGlobals := by with_unfolding_all exact rfl_mg) (hgb : env.builtins = builtinsNs := by with_unfolding_all exact rfl_bn) (hkf : env.scope.kind = .function := by with_unfolding_all exact rfl_fn)
    (hl : env.kindOf x = some .globalImplicit := by with_unfolding_all exact rfl_gi) (hd : (x == ("__debug__" : Str)) = false := by decide)
    (he : starEach (e :: rest) env = (false, eval e env) :: starEach rest env := by with_unfolding_all rfl) (hplain : (backTo pos (starEach rest env)).any (·.1) = false := by with_unfolding_all rfl) :
    EV C env vm m H (eval (.Call (.Name x xp) (e :: rest) [] pos) env) Φ := fun s Q E hs hv hq => by
  obtain ⟨g, hb, hn⟩ := t.ok C.w
  refine Call_ (ev_bi (Φ := fun v H' => v = .conc (.builtin id) ∧ H' = H) g hb hn ⟨rfl, rfl⟩ hg hgb hkf hl hd s _ E hs hv fun v H1 s1 h1 hs1 k1 => ?_)
  obtain ⟨e1, rfl⟩ := h1
  obtain rfl := er_conc e1
  exact PyProof.Rows.callWith_builtin1 (h s1 _ E hs1 (hv.step k1) fun vs H2 s2 h2 hs2 k2 =>
    h2 vs rfl s2 Q E hs2 fun v H3 s3 h3 hs3 k3 => hq v H3 s3 h3 hs3 (k1.trans (k2.trans k3))) he hplain
theorem ev_call_ty {x xp T e rest pos Φ} (t : TyT x T)
    (h : LV C env vm m H (spliced (backTo pos (starEach (e :: rest) env))) (fun as H1 => CV C m H1 (.type T) as Φ))
    (hg : env.globals = mainGlobals := by with_unfolding_all exact rfl_mg) (hgb : env.builtins = builtinsNs := by with_unfolding_all exact rfl_bn) (hkf : env.scope.kind = .function := by with_unfolding_all exact rfl_fn)
    (hl : env.kindOf x = some .globalImplicit := by with_unfolding_all exact rfl_gi) (hd : (x == ("__debug__" : Str)) = false := by decide)
    (he : starEach (e :: rest) env = (false, eval e env) :: starEach rest env := by with_unfolding_all rfl) (hplain : (backTo pos (starEach rest env)).any (·.1) = false := by with_unfolding_all rfl) :
    EV C env vm m H (eval (.Call (.Name x xp) (e :: rest) [] pos) env) Φ := fun s Q E hs hv hq => by
  obtain ⟨g, hb, hn⟩ := t.ok C.w
  refine Call_ (ev_bi (Φ := fun v H' => v = .conc (.type T) ∧ H' = H) g hb hn ⟨rfl, rfl⟩ hg hgb hkf hl hd s _ E hs hv fun v H1 s1 h1 hs1 k1 => ?_)
  obtain ⟨e1, rfl⟩ := h1
  obtain rfl := er_conc e1
  exact PyProof.Rows.callWith_type1 (h s1 _ E hs1 (hv.step k1) fun vs H2 s2 h2 hs2 k2 =>
    h2 vs rfl s2 Q E hs2 fun v H3 s3 h3 hs3 k3 => hq v H3 s3 h3 hs3 (k1.trans (k2.trans k3))) he hplain

-- attributes of an instance
noncomputable def look (fs : List (Str × AV)) (n : Str) : Option AV := (fs.find? fun p => p.1 == n).map (·.2)
theorem attrs_get {es : List DictEntry} {fs : List (Str × AV)} (h : es.map (fun e => (er e.key, er e.val)) = fs.map (fun p => (AV.str p.1, p.2))) (n : Str) :
    (∃ o, getL n es = some o ∧ o.map er = look fs n) ∧ es.any (·.refKey) = false := by
  induction es generalizing fs with
  | nil => cases fs with
    | nil => exact ⟨⟨_, rfl, rfl⟩, rfl⟩
    | cons => cases h
  | cons e r ih => cases fs with
    | nil => cases h
    | cons p q =>
      simp only [List.map_cons, List.cons.injEq, Prod.mk.injEq] at h
      obtain ⟨⟨hk, hv⟩, hr⟩ := h
      obtain ⟨⟨o, ho, hm⟩, hf⟩ := ih hr
      obtain ⟨t, ek⟩ := er_str hk
      have hrk : e.refKey = false := by unfold DictEntry.refKey; rw [ek]
      refine ⟨?_, by simp [hrk, hf]⟩
      have his : e.key.isStr n = (p.1 == n) := by rw [ek]; rfl
      unfold getL look at *
      simp only [List.find?_cons, his]
      cases hb : p.1 == n with
      | true => exact ⟨_, rfl, by simp [hv]⟩
      | false =>
        refine ⟨o, ?_, hm⟩
        rw [← ho]
        simp only [List.any_cons, hrk, Bool.false_or]
noncomputable def putA (n : Str) (a : AV) : List (Str × AV) → List (Str × AV)
  | [] => [(n, a)]
  | p :: r => if p.1 == n then (p.1, a) :: r else p :: putA n a r
theorem putL_rep {es : List DictEntry} {fs : List (Str × AV)} (h : es.map (fun e => (er e.key, er e.val)) = fs.map (fun p => (AV.str p.1, p.2))) (n : Str) (hsh : Int) (tk : Tok) (v : Value) :
    (putL n hsh (.str n tk) v es).map (fun e => (er e.key, er e.val)) = (putA n (er v) fs).map (fun p => (AV.str p.1, p.2)) := by
  induction es generalizing fs with
  | nil => cases fs with
    | nil => rfl
    | cons => cases h
  | cons e r ih => cases fs with
    | nil => cases h
    | cons p q =>
      simp only [List.map_cons, List.cons.injEq, Prod.mk.injEq] at h
      obtain ⟨⟨hk, hv⟩, hr⟩ := h
      obtain ⟨t, ek⟩ := er_str hk
      have his : e.key.isStr n = (p.1 == n) := by rw [ek]; rfl
      simp only [putL, putA, his]
      cases hb : p.1 == n with
      | true => simp [hr, hk]
      | false => simp [ih hr, hv, hk]
theorem putA_length (n : Str) (a : AV) : ∀ fs : List (Str × AV), (putA n a fs).length ≤ fs.length + 1
  | [] => Nat.le_refl _
  | p :: r => by unfold putA; split <;> simp only [List.length_cons]; lia; have := putA_length n a r; lia

theorem St.inst {s x dx t t' fs} (hs : St C m H s) (hx : H x = some (t, .inst dx)) (hd : H dx = some (t', .attrs fs)) :
    ∃ es n, W.InstAt s.heap x (instObj 227 dx) 227 (some (dictOf es n)) ∧ es.map (fun e => (er e.key, er e.val)) = fs.map (fun p => (AV.str p.1, p.2)) := by
  obtain ⟨ob, e, rfl, _⟩ := hs.hr x t _ hx
  obtain ⟨ob', e', ⟨es, n, rfl, hr⟩, _⟩ := hs.hr dx t' _ hd
  exact ⟨es, n, ⟨e, rfl, rfl, e'⟩, hr⟩
theorem handed {v : Value} (h : isConc (er v) = false) : handedIn v = true := by cases v <;> first | rfl | cases h

theorem op_getattr {name x dx t t' fs a expr Φ} (hx : H x = some (t, .inst dx)) (hd : H dx = some (t', .attrs fs)) (hl : look fs name = some a) (hc : isConc a = false)
    (h : Φ a H) (hp : plainGet (KK C.w) 227 name = true) (hf : findIn (KK C.w) (.ref 227) name = some none) : Op1 C env vm m H (fun v => getAttr v name expr) (.ref x) Φ :=
  fun v1 e1 s Q E hs _ hq => by
  obtain rfl := er_ref e1
  obtain ⟨mm, F, _⟩ := hs.fr
  obtain ⟨es, n, I, hr⟩ := hs.inst hx hd
  obtain ⟨⟨o, ho, hm⟩, _⟩ := attrs_get hr name
  rw [hl] at hm
  cases o with
  | none => cases hm
  | some v =>
    have ev : er v = a := Option.some.inj hm
    exact get_own F C.X I hp (by rfl) hf (by rfl) ho (handed (by rw [ev]; exact hc)) (hq _ _ _ (by rw [ev]; exact h) (hs.tok _) .refl)
theorem ev_attr_name {x xp attr pos Φ} (h : EV C env vm m H (eval (.Name x xp) env) (fun a H1 => Op1 C env vm m H1 (fun v => getAttr v attr true) a Φ))
    (hq : eval (.Attribute (.Name x xp) attr pos) env = (do let o ← eval (.Name x xp) env; standAt pos.atName; let r ← holding [o] (getAttr o attr true); letTemporaryGo (.Name x xp) o r; pure r) := by rfl) :
    EV C env vm m H (eval (.Attribute (.Name x xp) attr pos) env) Φ := fun s Q E hs hv hq' =>
  Attribute_Name_ (h s _ E hs hv fun v H1 s1 h1 hs1 k1 => h1 v rfl s1 Q E hs1 (hv.step k1) fun v H2 s2 h2 hs2 k2 => hq' v H2 s2 h2 hs2 (k1.trans k2)) hq

-- a method of the instance
/-- the instance at x, its fields -/
noncomputable def Inst (H : AH) (x : Addr) (fs : List (Str × AV)) : Prop := ∃ dx t t', H x = some (t, .inst dx) ∧ H dx = some (t', .attrs fs)
theorem ev_meth {o name ap e rest pos Φ} {pl : Sem Bool} (h : EV C env vm m H (eval o env) (fun a H1 => ∃ x fs fa, a = .ref x ∧ Inst H1 x fs ∧ look fs name = none ∧
      plainGet (KK C.w) 227 name = true ∧ findIn (KK C.w) (.ref 227) name = some (some (.ref fa)) ∧ isFn (KK C.w) (.ref fa) = true ∧ keepIn (KK C.w) (.ref fa) = true ∧
      LV C env vm m H1 (spliced (backTo pos (starEach (e :: rest) env))) (fun as H2 => CV C m H2 (.ref fa) (.ref x :: as) Φ)))
    (he : eval (.Call (.Attribute o name ap) (e :: rest) [] pos) env = (do let ov ← eval o env; standAt ap.atName; let __x ← holding [ov] (getMethod ov name pl); match __x with | (f, first) => callWith pos f first (backTo pos (starEach (e :: rest) env)) []) := by rfl)
    (h1 : starEach (e :: rest) env = (false, eval e env) :: starEach rest env := by with_unfolding_all rfl) (h2 : (backTo pos (starEach rest env)).any (·.1) = false := by rfl) :
    EV C env vm m H (eval (.Call (.Attribute o name ap) (e :: rest) [] pos) env) Φ := fun s Q E hs hv hq => by
  refine MethodCall_ (pl := pl) (h s _ E hs hv fun v H1 s1 h1' hs1 k1 => ?_) he
  obtain ⟨x, fs, fa, ev, ⟨dx, t, t', hx, hd⟩, hl, hp, hf, hfn, hk, hL⟩ := h1'
  obtain rfl := er_ref ev
  obtain ⟨mm, F, _⟩ := hs1.fr
  obtain ⟨es, n, I, hr⟩ := hs1.inst hx hd
  obtain ⟨⟨ov, ho, hm⟩, _⟩ := attrs_get hr name
  rw [hl] at hm
  cases ov with
  | some v => cases hm
  | none =>
    refine method_inst F C.X I hp hf hfn ho ?_
    refine callWith_K C.X hk (hL s1 _ E hs1 (hv.step k1) fun vs H2 s2 h2 hs2 k2 => ?_) h1 h2
    obtain ⟨mm, F, _⟩ := hs2.fr
    exact ⟨C.X.keeps F.keep, h2 (.ref x :: vs) rfl s2 Q E hs2 fun v H3 s3 h3 hs3 k3 => hq v H3 s3 h3 hs3 (k1.trans (k2.trans k3))⟩
theorem ev_meth0 {o name ap pos Φ} {pl : Sem Bool} (h : EV C env vm m H (eval o env) (fun a H1 => ∃ x fs fa, a = .ref x ∧ Inst H1 x fs ∧ look fs name = none ∧
      plainGet (KK C.w) 227 name = true ∧ findIn (KK C.w) (.ref 227) name = some (some (.ref fa)) ∧ isFn (KK C.w) (.ref fa) = true ∧ keepIn (KK C.w) (.ref fa) = true ∧
      CV C m H1 (.ref fa) [.ref x] Φ))
    (he : eval (.Call (.Attribute o name ap) [] [] pos) env = (do let ov ← eval o env; standAt ap.atName; let __x ← holding [ov] (getMethod ov name pl); match __x with | (f, first) => callWith pos f first (backTo pos (starEach [] env)) []) := by rfl) :
    EV C env vm m H (eval (.Call (.Attribute o name ap) [] [] pos) env) Φ := fun s Q E hs hv hq => by
  refine MethodCall_ (pl := pl) (h s _ E hs hv fun v H1 s1 h1' hs1 k1 => ?_) he
  obtain ⟨x, fs, fa, ev, ⟨dx, t, t', hx, hd⟩, hl, hp, hf, hfn, hk, hL⟩ := h1'
  obtain rfl := er_ref ev
  obtain ⟨mm, F, _⟩ := hs1.fr
  obtain ⟨es, n, I, hr⟩ := hs1.inst hx hd
  obtain ⟨⟨ov, ho, hm⟩, _⟩ := attrs_get hr name
  rw [hl] at hm
  cases ov with
  | some v => cases hm
  | none =>
    refine method_inst F C.X I hp hf hfn ho (callWith_K0 (C.X.keeps F.keep) hk ?_)
    exact hL [.ref x] rfl s1 Q E hs1 fun v H3 s3 h3 hs3 k3 => hq v H3 s3 h3 hs3 (k1.trans k3)
end
--T Fw4

theorem mem_fm {n : Nat} {f : Nat → Option (Addr × Obj)} {p : Addr × Obj} : p ∈ (List.range n).filterMap f ↔ ∃ a, a < n ∧ f a = some p := by
  simp [List.mem_filterMap, List.mem_range]
theorem nodup_fm (f : Nat → Option (Addr × Obj)) (hf : ∀ a p, f a = some p → p.1 = a) : ∀ n, (((List.range n).filterMap f).map (·.1)).Pairwise (· ≠ ·) := by
  intro n
  have h0 : ((List.range n).filterMap f).Pairwise (fun p q => p.1 ≠ q.1) := by
    rw [List.pairwise_filterMap]
    have := List.nodup_range (n := n)
    refine List.Pairwise.imp ?_ this
    intro a b hab p hp q hq e
    rw [hf a p hp, hf b q hq] at e
    exact hab e
  rw [List.pairwise_map]; exact h0

/-- the ledger of the abstract heap -/
noncomputable def ledH (H : AH) (h : Heap) : List (Addr × Obj) := (List.range h.objs.size).filterMap fun a => if (H a).isSome then (h.get? a).map fun o => (a, o) else none
theorem ledH_mem {H : AH} {h : Heap} {p : Addr × Obj} : p ∈ ledH H h ↔ (H p.1).isSome = true ∧ h.get? p.1 = some p.2 := by
  unfold ledH
  rw [mem_fm]
  constructor
  · rintro ⟨a, ha, e⟩
    split at e
    · rename_i hs
      cases hg : h.get? a with
      | none => rw [hg] at e; cases e
      | some o => rw [hg] at e; cases e; exact ⟨hs, hg⟩
    · cases e
  · rintro ⟨a, b⟩
    exact ⟨p.1, Heap.lt_size b, by rw [if_pos a, b]; rfl⟩
/-- the ledger of all that is new -/
noncomputable def allOf (g : Heap) (L : Addr) (h : Heap) : List (Addr × Obj) := (List.range h.objs.size).filterMap fun a => if a = L ∨ (g.get? a).isSome = true then none else (h.get? a).map fun o => (a, o)
theorem allOf_mem {g : Heap} {L : Addr} {h : Heap} {p : Addr × Obj} : p ∈ allOf g L h ↔ p.1 ≠ L ∧ g.get? p.1 = none ∧ h.get? p.1 = some p.2 := by
  unfold allOf
  rw [mem_fm]
  constructor
  · rintro ⟨a, ha, e⟩
    split at e
    · cases e
    · rename_i hs
      cases hg : h.get? a with
      | none => rw [hg] at e; cases e
      | some o =>
        rw [hg] at e; cases e
        refine ⟨fun q => hs (.inl q), ?_, hg⟩
        cases q : g.get? a with
        | none => rfl
        | some x => exact absurd (.inr (by rw [q]; rfl)) hs
  · rintro ⟨a, b, c⟩
    refine ⟨p.1, Heap.lt_size c, ?_⟩
    rw [if_neg (by rintro (q | q); exact a q; rw [b] at q; cases q), c]; rfl
theorem allOf_news {g : Heap} {L : Addr} {h : Heap} : News g L h (allOf g L h) := fun p hp => let ⟨a, b, c⟩ := allOf_mem.mp hp; ⟨c, a, b⟩
theorem allOf_nd {g : Heap} {L : Addr} {h : Heap} : ((allOf g L h).map (·.1)).Pairwise (· ≠ ·) := nodup_fm _ (fun a p e => by
  split at e
  · cases e
  · cases q : h.get? a with
    | none => rw [q] at e; cases e
    | some o => rw [q] at e; cases e; rfl) _
theorem upd_of {d : Addr} {o o' : Obj} : ∀ {l : List (Addr × Obj)}, (d, o) ∈ l → (l.map (·.1)).Pairwise (· ≠ ·) → ∃ l', Upd d o o' l l' ∧ (d, o') ∈ l' ∧ ∀ p ∈ l, p.1 ≠ d → p ∈ l'
  | p :: r, hm, hn => by
    rw [List.map_cons, List.pairwise_cons] at hn
    rcases List.mem_cons.mp hm with rfl | hm
    · exact ⟨_, .head fun q hq => (hn.1 q.1 (List.mem_map_of_mem hq)).symm, .head _, fun q hq hne => by
        rcases List.mem_cons.mp hq with rfl | hq
        · exact absurd rfl hne
        · exact .tail _ hq⟩
    · obtain ⟨l', a, b, c⟩ := upd_of (o' := o') hm hn.2
      exact ⟨_, .tail (hn.1 d (List.mem_map_of_mem (f := (·.1)) hm)) a, .tail _ b, fun q hq hne => by
        rcases List.mem_cons.mp hq with rfl | hq
        · exact .head _
        · exact .tail _ (c q hq hne)⟩
theorem updF_of {d : Addr} {o : Obj} : ∀ {l : List (Addr × Obj)}, (d, o) ∈ l → (l.map (·.1)).Pairwise (· ≠ ·) → ∃ G, UpdF d o l G ∧ ∀ o', (d, o') ∈ G o' ∧ ∀ p ∈ l, p.1 ≠ d → p ∈ G o'
  | p :: r, hm, hn => by
    rw [List.map_cons, List.pairwise_cons] at hn
    rcases List.mem_cons.mp hm with rfl | hm
    · exact ⟨_, .head fun q hq => (hn.1 q.1 (List.mem_map_of_mem hq)).symm, fun o' => ⟨.head _, fun q hq hne => by
        rcases List.mem_cons.mp hq with rfl | hq
        · exact absurd rfl hne
        · exact .tail _ hq⟩⟩
    · obtain ⟨G, a, b⟩ := updF_of hm hn.2
      exact ⟨_, .tail (hn.1 d (List.mem_map_of_mem (f := (·.1)) hm)) a, fun o' => ⟨.tail _ (b o').1, fun q hq hne => by
        rcases List.mem_cons.mp hq with rfl | hq
        · exact .head _
        · exact .tail _ ((b o').2 q hq hne)⟩⟩

section
variable {C : Ctx} {env : Env} {vm m : Loc} {H : AH} {s : Shared}
theorem St.led (hs : St C m H s) : News C.g C.L s.heap (ledH H s.heap) := fun p hp => by
  obtain ⟨a, b⟩ := ledH_mem.mp hp
  cases e : H p.1 with
  | none => rw [e] at a; cases a
  | some x =>
    obtain ⟨ob, e1, _, n1, g1⟩ := hs.hr p.1 x.1 x.2 e
    exact ⟨b, n1, g1.1⟩

/-- a change told by a ledger of all that is new -/
theorem St.byNews {a : Addr} {t t' : Tag} {o o' : AO} {ob' : Obj} {h' : Heap} {tk : Nat} {mm : Str → Option Value} {l : List (Addr × Obj)} (hs : St C m H s) (hH : H a = some (t, o))
    (F' : Fr C.g C.L h' mm) (r : LocRep m mm) (N' : News C.g C.L h' l) (hl : (a, ob') ∈ l) (hk : ∀ p ∈ allOf C.g C.L s.heap, p.1 ≠ a → p ∈ l) (rep : o'.rep C.w ob') :
    St C m (H.set a (t', o')) { s with heap := h', toks := tk } ∧ Kp C H (H.set a (t', o')) s.heap h' := by
  obtain ⟨mm0, F, _⟩ := hs.fr
  refine hs.mut hH ⟨mm, F', r⟩ (fun b ob q nL e => ?_) (N' _ hl).1 rep
  cases g : C.g.get? b with
  | some x =>
    have h1 := F.keep b x g
    rw [e] at h1; cases h1
    exact F'.keep b ob g
  | none => exact (N' _ (hk (b, ob) (allOf_mem.mpr ⟨nL, g, e⟩) q)).1

/-- a field is stored -/
theorem uv_setattr {name x a fs dx t t' Φ} (hx : H x = some (t, .inst dx)) (hd : H dx = some (t', .attrs fs)) (hlen : fs.length ≤ 100)
    (h : Φ (H.set dx (t', .attrs (putA name a fs)))) (ht : takerIn (KK C.w) 227 name = some none) (v : Value) (hv : er v = a) :
    UV C env vm m H (setAttr (.ref x) name v) Φ := fun s Q E hs _ hq => by
  subst hv
  obtain ⟨mm, F, r⟩ := hs.fr
  obtain ⟨es, n, I, hr⟩ := hs.inst hx hd
  obtain ⟨ob, e0, _, nL, ng⟩ := hs.hr dx t' _ hd
  have e1 : s.heap.get? dx = some (dictOf es n) := I.dict
  obtain ⟨⟨o, ho, _⟩, _⟩ := attrs_get hr name
  obtain ⟨l', U, hm, hk⟩ := upd_of (o' := dictOf (putL name (PyData.keyHash C.w.params name) (.str name (s.toks + 1)) v es) (putN name es n)) (allOf_mem.mpr ⟨nL, ng.1, e1⟩) allOf_nd
  have hrep := putL_rep hr name (PyData.keyHash C.w.params name) (s.toks + 1) v
  refine set_dict F C.X allOf_news I rfl (by rfl) (by rfl) ht (by rfl) (by rw [ho]; rfl) rfl U ?_ fun h' F' N' => ?_
  · have := congrArg List.length hrep
    simp only [List.length_map] at this
    have h2 := putA_length name (er v) fs
    (clear h ng; lia)
  · obtain ⟨h1, k1⟩ := St.byNews (t' := t') (tk := s.toks + 2) (o' := .attrs (putA name (er v) fs)) hs hd F' r N' hm hk ⟨_, _, rfl, hrep⟩
    exact hq _ _ h h1 k1
theorem ex_setattr {x xp attr pos' value pos Φ} (h : EV C env m m H (eval value env) (fun a H1 => EV C env m m H1 (eval (.Name x xp) env) (fun ov H2 => ∃ xa dx t t' fs, ov = .ref xa ∧ H2 xa = some (t, .inst dx) ∧ H2 dx = some (t', .attrs fs) ∧ fs.length ≤ 100 ∧
      takerIn (KK C.w) 227 attr = some none ∧ Φ .next m (H2.set dx (t', .attrs (putA attr a fs))))))
    (hw : swapsWith value (some (.Attribute (.Name x xp) attr pos')) pos.line env = pure false := by with_unfolding_all exact rfl_sw) : EX C env m H (exec (.Assign [.Attribute (.Name x xp) attr pos'] value pos) env) Φ := fun hl s Q E hs hq =>
  plainObj_wpAny_Assign_Attribute (h s _ E hs (vm0 hl) fun v H1 s1 h1 hs1 k1 => h1 s1 _ E hs1 (vm0 hl) fun ov H2 s2 h2 hs2 k2 => by
    obtain ⟨xa, dx, t, t', fs, e, hx, hd, hln, ht, hΦ⟩ := h2
    obtain rfl := er_ref e
    exact uv_setattr (env := env) (vm := m) hx hd hln hΦ ht v rfl s2 _ E hs2 (vm0 hl) fun H3 s3 h3 hs3 k3 => hq .next m H3 s3 h3 hs3 (k1.trans (k2.trans k3))) hw
end

noncomputable def fnPost (Φ : AV → AH → Prop) : AFl → Loc → AH → Prop := fun f _ H' => match f with | .ret v => Φ v H' | .next => Φ .none H' | _ => False

section
variable {C : Ctx} {H : AH}
/-- what a caller's state says of a callee's end -/
theorem back {C' : Ctx} {m m' : Loc} {H' : AH} {s s' : Shared} {R : Result → Shared → Prop} {v : Value} {mm : Str → Option Value} (hs : St C m H s) (F : Fr C.g C.L s.heap mm) (r : LocRep m mm)
    (hg : C'.g = hideAll s.heap ((ledH H s.heap).map (·.1))) (h0 : C'.s₀ = C.s₀) (hw : C'.w = C.w) (hs' : St C' m' H' s')
    (k : St C m H' s' → Kp C H H' s.heap s'.heap → Fr C.g C.L s'.heap mm → R (.ok (.ret v)) s') : LeaveK C.g C.L mm (hideAll s.heap ((ledH H s.heap).map (·.1))) R v s' := by
  obtain ⟨mm', F', _⟩ := hs'.fr
  rw [hg] at F'
  refine ⟨C'.L, mm', allOf C'.g C'.L s'.heap, F', hg ▸ allOf_news, fun F₂ N₂ => k ⟨⟨mm, F₂, r⟩, fun a t o e => ?_, by rw [← h0]; exact hs'.sr⟩ (fun b ob e n nL => ?_) F₂⟩
  · obtain ⟨ob, e1, r1, n1, g1⟩ := hs'.hr a t o e
    obtain ⟨_, n2, g2⟩ := N₂ (a, ob) (allOf_mem.mpr ⟨n1, g1.1, e1⟩)
    exact ⟨ob, e1, hw ▸ r1, n2, g2, g1.2⟩
  · have hb : C'.g.get? b = some ob := by
      rw [hg]
      refine hideAll_get _ e fun q => ?_
      obtain ⟨p, hp, e'⟩ := List.mem_map.mp q
      have := (ledH_mem.mp hp).1
      rw [e', n] at this; cases this
    refine ⟨F'.keep b ob (hg ▸ hb), ?_⟩
    cases q : H' b with
    | none => rfl
    | some x =>
      obtain ⟨_, _, _, _, g1⟩ := hs'.hr b x.1 x.2 q
      rw [hb] at g1; cases g1.1

noncomputable abbrev callee (C : Ctx) (H : AH) (s : Shared) (env : Env) (hs : ∃ m, St C m H s) (hn : 1 ≤ C.room) (hf : env.frame = some s.heap.objs.size) (hk : env.scope.kind = .function)
    (BG : Below C.A C.base (C.fenv :: C.outer) (hideAll s.heap ((ledH H s.heap).map (·.1)))) (st : C.g.StaysIn (hideAll s.heap ((ledH H s.heap).map (·.1)))) : Ctx :=
  { w := C.w, A := C.A.deeper env, A₀ := C.A, base := C.base, outer := C.fenv :: C.outer, g := hideAll s.heap ((ledH H s.heap).map (·.1)), L := s.heap.objs.size, fenv := env, s₀ := C.s₀,
    mg := C.mg, mb := C.mb, p := C.p, loose := C.loose, mean := C.mean, room := C.room - 1, B := BG, X := C.X.keeps st, T := C.T.keeps st, hA := Around.frames_deeper C.hA, hf := hf, hke := hk,
    hd := by have := C.hd; show C.A.depth + 1 + (C.room - 1) < recursionLimit; omega,
    hu := by have := C.hu; show C.A.units + 3 + 10 * (C.room - 1) + 100 < cLine; omega,
    hh := C.hh }

/-- a contract of a def, as code; the caller's frame stays as it is -/
noncomputable def SpecC (n : Nat) (fa : Addr) (args : List AV) (H : AH) (Φ : AV → AH → Prop) : Prop :=
  ∀ (C : Ctx) (m : Loc), n ≤ C.room → ∀ vs : List Value, vs.map er = args → ∀ (s : Shared) (Q : Value → Shared → Prop) (E : Value → Shared → Prop) (mm : Str → Option Value), St C m H s → Fr C.g C.L s.heap mm → LocRep m mm →
    (∀ v H' s', Φ (er v) H' → St C m H' s' → Kp C H H' s.heap s'.heap → Fr C.g C.L s'.heap mm → Q v s') →
    codeAny (model PG C.w) C.A (.call (.ref fa) ⟨vs, []⟩) (fun r s' => match r with | .ok (.ret v) => Q v s' | .ok _ => False | .error e => E e s') s
theorem SpecC.spec {n fa args H Φ} (h : SpecC n fa args H Φ) : Spec n fa args H Φ := fun C m hroom vs hvs s Q E hs hq => by
  obtain ⟨mm, F, r⟩ := hs.fr
  exact wpAny_call (h C m hroom vs hvs s Q E mm hs F r fun v H' s' p h1 k1 _ => hq v H' s' p h1 k1)
/-- a def without cells of its own -/
theorem spec_plainC {n fa : Nat} {args : List AV} {Φ} {name qual : Str} {params : Arguments} {body : List Stmt} {scope : Scope} {cl : List (Str × Addr)} {dV kV doc pm cdv ct oc : Value} {an od : Option Addr} {osl : Array (Option Value)} {ab : List (Str × AV)}
    (lk : ∀ w, (KK w).lookup fa = some ⟨oc, od, .func (fnX name qual params body scope cl dV kV doc pm an cdv ct), osl⟩) (hcd : ∀ w, codeIn (KK w) cdv qual = true)
    (hbind : ∀ vs : List Value, vs.map er = args → ∃ binds, bindArgs (fnX name qual params body scope cl dV kV doc pm an cdv ct) ⟨vs, []⟩ = pure binds ∧ binds.map (fun p => (p.1, er p.2)) = ab)
    (hloc : (ab.all fun y => decide (scope.names.lookup y.1 = some .local)) = true) (hcell : ∀ x ∈ scope.names, x.2 ≠ .cell) (hco : scope.isCoroutine = false) (hgen : scope.isGenerator = false) (hk : scope.kind = .function)
    (h : ∀ C' : Ctx, n ≤ C'.room → C'.fenv = envX qual scope C'.L fa cdv cl → (∀ a x, H a = some x → a < C'.L) → EX C' (envX qual scope C'.L fa cdv cl) (fun x => ab.reverse.lookup x) H (execs body (envX qual scope C'.L fa cdv cl)) (fnPost Φ)) :
    SpecC (n + 1) fa args H Φ := fun C m hroom vs hvs s Q E mm hs F r hq => by
  obtain ⟨FG, BG, st, lv⟩ := groundX (R := fun r s' => match r with | .ok (.ret v) => Q v s' | .ok _ => False | .error e => E e s') C.B F hs.led C.hA C.hf C.hke
  obtain ⟨binds, hb, hab⟩ := hbind vs hvs
  have hl : ∀ x ∈ binds, scope.names.lookup x.1 = some .local := fun x hx => by
    have := List.all_eq_true.mp hloc (x.1, er x.2) (by rw [← hab]; exact List.mem_map_of_mem (f := fun p : Str × Value => (p.1, er p.2)) hx)
    exact of_decide_eq_true this
  refine codeAny_call_def (fd := fnX name qual params body scope cl dV kV doc pm an cdv ct) (body := body) (binds := binds) (by have := C.hd; lia) ((C.X.keeps F.keep) _ _ (lk _)) rfl (C.T.nolimit.keeps F.keep) (codeRec_of (C.X.keeps F.keep) (hcd _)) rfl (BindsTo.of_eq hb) hcell hl (fun h₁ hns hk₁ => ?_) hco hgen hk
  let C' := callee C H s (envX qual scope s.heap.objs.size fa cdv cl) ⟨m, hs⟩ (by lia) rfl hk BG st
  have hs' : St C' (fun x => ab.reverse.lookup x) H { s with heap := h₁, toks := s.toks + binds.length } := by
    refine ⟨⟨_, ⟨hns, fun b o e => hk₁ b o (of_hideAll _ e), Nat.le_of_eq (hideAll_size _ _)⟩, fun x a e => ?_⟩, fun a t o e => ?_, ?_⟩
    · have : ∀ l : List (Str × Value), ∀ x a, (l.map fun p => (p.1, er p.2)).lookup x = some a → (l.lookup x).map er = some a := by
        intro l x a h
        induction l with
        | nil => cases h
        | cons p q ih =>
          obtain ⟨p1, p2⟩ := p
          simp only [List.map_cons, List.lookup_cons] at h ⊢
          cases hb : (x == p1) with
          | true => simp only [hb] at h ⊢; simpa using h
          | false => simp only [hb] at h ⊢; exact ih h
      have e' := e
      rw [← hab, ← List.map_reverse] at e'
      exact this _ _ _ e'
    · obtain ⟨ob, e1, r1, n1, g1⟩ := hs.hr a t o e
      exact ⟨ob, hk₁ _ _ e1, r1, Nat.ne_of_lt (Heap.lt_size e1), hideAll_none _ (List.mem_map_of_mem (f := (·.1)) ((ledH_mem (p := (a, ob))).mpr ⟨by rw [e]; rfl, e1⟩)), g1.2⟩
    · obtain ⟨h0, tk0, e0⟩ := hs.sr; exact ⟨h₁, _, by rw [e0]⟩
  refine h C' (by show n ≤ C.room - 1; omega) rfl (fun a x e => hs.lt (t := x.1) (o := x.2) e) rfl _ _ _ hs' fun f m' H' s' p hs'' k' => ?_
  refine lv _ _ (back (C' := C') hs F r rfl rfl rfl hs'' fun h1 k1 F2 => ?_)
  cases f with
  | ret v => exact hq v H' s' p h1 k1 F2
  | next => exact hq .none H' s' p h1 k1 F2
  | brk => exact p.elim
  | cont => exact p.elim
theorem spec_plain {n fa : Nat} {args : List AV} {Φ} {name qual : Str} {params : Arguments} {body : List Stmt} {scope : Scope} {cl : List (Str × Addr)} {dV kV doc pm cdv ct oc : Value} {an od : Option Addr} {osl : Array (Option Value)} {ab : List (Str × AV)}
    (lk : ∀ w, (KK w).lookup fa = some ⟨oc, od, .func (fnX name qual params body scope cl dV kV doc pm an cdv ct), osl⟩) (hcd : ∀ w, codeIn (KK w) cdv qual = true)
    (hbind : ∀ vs : List Value, vs.map er = args → ∃ binds, bindArgs (fnX name qual params body scope cl dV kV doc pm an cdv ct) ⟨vs, []⟩ = pure binds ∧ binds.map (fun p => (p.1, er p.2)) = ab)
    (hloc : (ab.all fun y => decide (scope.names.lookup y.1 = some .local)) = true) (hcell : ∀ x ∈ scope.names, x.2 ≠ .cell) (hco : scope.isCoroutine = false) (hgen : scope.isGenerator = false) (hk : scope.kind = .function)
    (h : ∀ C' : Ctx, n ≤ C'.room → C'.fenv = envX qual scope C'.L fa cdv cl → (∀ a x, H a = some x → a < C'.L) → EX C' (envX qual scope C'.L fa cdv cl) (fun x => ab.reverse.lookup x) H (execs body (envX qual scope C'.L fa cdv cl)) (fnPost Φ)) :
    Spec (n + 1) fa args H Φ := (spec_plainC lk hcd hbind hloc hcell hco hgen hk h).spec
end
--T Fw5

noncomputable def ilook (kvs : List (Int × AV)) (k : Int) : Option AV := (kvs.find? fun kv => kv.1 = k).map (·.2)
noncomputable def istore (kvs : List (Int × AV)) (k : Int) (v : AV) : List (Int × AV) := if kvs.any (fun kv => kv.1 = k) then kvs.map (fun kv => if kv.1 = k then (kv.1, v) else kv) else kvs ++ [(k, v)]
noncomputable def idel (kvs : List (Int × AV)) (k : Int) : List (Int × AV) := kvs.filter fun kv => decide (kv.1 ≠ k)
noncomputable abbrev erk {K : Type} (p : K × Value) : K × AV := (p.1, er p.2)

theorem ilook_of (kvs : List (Int × Value)) (k : Int) : (valueAt kvs k).map er = ilook (kvs.map erk) k := by
  induction kvs with
  | nil => rfl
  | cons p r ih =>
    unfold valueAt ilook at *
    simp only [List.map_cons, List.find?_cons]
    by_cases h : p.1 = k
    · simp [h]
    · simpa [h] using ih
theorem istore_of (kvs : List (Int × Value)) (k : Int) (v : Value) : (stored kvs k v).map erk = istore (kvs.map erk) k (er v) := by
  unfold stored istore
  have : (kvs.map erk).any (fun kv => decide (kv.1 = k)) = kvs.any (fun kv => decide (kv.1 = k)) := by
    rw [List.any_map]; rfl
  rw [this]
  split
  · simp only [List.map_map]
    apply List.map_congr_left
    intro p _
    by_cases h : p.1 = k <;> simp [h]
  · simp [erk]
theorem idel_of (kvs : List (Int × Value)) (k : Int) : (without kvs k).map erk = idel (kvs.map erk) k := by
  unfold without idel
  rw [List.filter_map]
  rfl

theorem vs1 {vs : List Value} {a : AV} (h : vs.map er = [a]) : ∃ v, vs = [v] ∧ er v = a := by
  cases vs with
  | nil => cases h
  | cons v r => cases r with
    | nil => exact ⟨v, rfl, by simpa using h⟩
    | cons => simp at h
theorem vs2 {vs : List Value} {a b : AV} (h : vs.map er = [a, b]) : ∃ v w, vs = [v, w] ∧ er v = a ∧ er w = b := by
  cases vs with
  | nil => cases h
  | cons v r =>
    simp only [List.map_cons, List.cons.injEq] at h
    obtain ⟨w, rfl, e⟩ := vs1 h.2
    exact ⟨v, w, rfl, h.1, e⟩
theorem vs3 {vs : List Value} {a b c : AV} (h : vs.map er = [a, b, c]) : ∃ v w u, vs = [v, w, u] ∧ er v = a ∧ er w = b ∧ er u = c := by
  cases vs with
  | nil => cases h
  | cons v r =>
    simp only [List.map_cons, List.cons.injEq] at h
    obtain ⟨w, u, rfl, e⟩ := vs2 h.2
    exact ⟨v, w, u, rfl, h.1, e⟩
theorem sizeLine_big : (1048576 : Nat) ≤ sizeLine := by decide
theorem ints_of : ∀ {its : List Value} {ns : List Int}, its.map er = ns.map AV.int → IntsAre its ns
  | [], [], _ => IntsAre.nil
  | v :: r, n :: q, h => by
    simp only [List.map_cons, List.cons.injEq] at h
    obtain ⟨t, rfl⟩ := er_int h.1
    exact IntsAre.cons _ _ (ints_of h.2)
  | [], _ :: _, h => by cases h
  | _ :: _, [], h => by cases h

section
variable {C : Ctx} {env : Env} {vm m : Loc} {H : AH} {s : Shared}
theorem St.listAt {a t vs} (hs : St C m H s) (hH : H a = some (t, .list vs)) :
    ∃ (its : List Value) (n : Nat), s.heap.get? a = some (listOf its.toArray n) ∧ its.map er = vs ∧ (a, listOf its.toArray n) ∈ allOf C.g C.L s.heap ∧ s.heap.IsList a its.toArray := by
  obtain ⟨ob, e, ⟨its, n, rfl, hm⟩, nL, ng⟩ := hs.hr a t _ hH
  exact ⟨its, n, e, hm, allOf_mem.mpr ⟨nL, ng.1, e⟩, ⟨_, e, rfl, n, rfl⟩⟩
theorem St.tupAt {a t vs} (hs : St C m H s) (hH : H a = some (t, .tup vs)) :
    ∃ (its : List Value) (n : Nat), s.heap.get? a = some { cls := .type "tuple", data := .seq its.toArray n } ∧ its.map er = vs ∧ s.heap.IsTuple a its.toArray := by
  obtain ⟨ob, e, ⟨its, n, rfl, hm⟩, nL, ng⟩ := hs.hr a t _ hH
  exact ⟨its, n, e, hm, ⟨_, e, rfl, n, rfl⟩⟩
theorem St.idictAt {a t kvs} (hs : St C m H s) (hH : H a = some (t, .idict kvs)) :
    ∃ (ob : Obj) (kvs' : List (Int × Value)), s.heap.get? a = some ob ∧ ob.IsDictOf (intKind PG C.w) kvs' ∧ kvs'.map erk = kvs ∧ s.heap.DictOf (intKind PG C.w) a kvs' ∧ (a == sysModules) = false ∧ (a, ob) ∈ allOf C.g C.L s.heap := by
  obtain ⟨ob, e, ⟨kvs', hd, hm⟩, nL, ng⟩ := hs.hr a t _ hH
  exact ⟨ob, kvs', e, hd, hm, Heap.dictOf_iff.mpr ⟨ob, e, hd⟩, beq_eq_false_iff_ne.mpr (Nat.ne_of_gt ng.2), allOf_mem.mpr ⟨nL, ng.1, e⟩⟩

-- dict methods
theorem cv_get1 {d t kvs k Φ} (hH : H d = some (t, .idict kvs)) (h : Φ ((ilook kvs k).getD .none) H) : CV C m H (.builtin "dict.get") [.ref d, .int k] Φ := fun vs e s Q E hs hq => by
  obtain ⟨v1, v2, rfl, e1, e2⟩ := vs2 e
  obtain rfl := er_ref e1
  obtain ⟨u, rfl⟩ := er_int e2
  obtain ⟨ob, kvs', _, _, hm, hD, lo, _⟩ := hs.idictAt hH
  refine call_meetsIn PySem.F.slot_dict_get hD.typeIs PySem.F.entry_dict_get (PySem.F.args_dict_get_2 _ _) (meets_dict_get (intKind PG C.w) d (intKind_is _ _ _ _) lo) ⟨_, hD.mapOf, hq _ H _ ?_ (hs.tok _) .refl⟩
  rw [← hm, ← ilook_of] at h
  cases e : valueAt kvs' k with
  | none => rw [e] at h; exact h
  | some x => rw [e] at h; exact h
theorem cv_get2 {d t kvs k a Φ} (hH : H d = some (t, .idict kvs)) (h : Φ ((ilook kvs k).getD a) H) : CV C m H (.builtin "dict.get") [.ref d, .int k, a] Φ := fun vs e s Q E hs hq => by
  obtain ⟨v1, v2, v3, rfl, e1, e2, e3⟩ := vs3 e
  obtain rfl := er_ref e1
  obtain ⟨u, rfl⟩ := er_int e2
  subst e3
  obtain ⟨ob, kvs', _, _, hm, hD, lo, _⟩ := hs.idictAt hH
  refine call_meetsIn PySem.F.slot_dict_get hD.typeIs PySem.F.entry_dict_get (PySem.F.args_dict_get_3 _ _ _) (meets_dict_get_default (intKind PG C.w) d (intKind_is _ _ _ _) lo _) ⟨_, hD.mapOf, hq _ H _ ?_ (hs.tok _) .refl⟩
  rw [← hm, ← ilook_of] at h
  cases e : valueAt kvs' k with
  | none => rw [e] at h; exact h
  | some x => rw [e] at h; exact h
theorem cv_setdefault {d t kvs k a Φ} (hH : H d = some (t, .idict kvs)) (hz : kvs.length ≤ 1048576) (h1 : ∀ v, ilook kvs k = some v → Φ v H) (h2 : ilook kvs k = none → Φ a (H.set d (t, .idict (istore kvs k a)))) :
    CV C m H (.builtin "dict.setdefault") [.ref d, .int k, a] Φ := fun vs e s Q E hs hq => by
  obtain ⟨v1, v2, v3, rfl, e1, e2, e3⟩ := vs3 e
  obtain rfl := er_ref e1
  obtain ⟨u, rfl⟩ := er_int e2
  subst e3
  obtain ⟨ob, kvs', _, _, hm, hD, lo, _⟩ := hs.idictAt hH
  have hz' : kvs'.length ≤ sizeLine := by rw [← hm, List.length_map] at hz; exact Nat.le_trans hz sizeLine_big
  have hl : ilook kvs k = (valueAt kvs' k).map er := by rw [ilook_of, hm]
  refine call_meetsIn PySem.F.slot_dict_setdefault hD.typeIs PySem.F.entry_dict_setdefault (PySem.F.args_dict_setdefault_3 _ _ _) (kt_meets_setdefault (intKind PG C.w) d (intKind_is _ _ _ _) lo _)
    ⟨kvs', hD, hz', fun v hv => hq _ H _ (h1 _ (by rw [hl, hv]; rfl)) (hs.tok _) .refl, fun hn h' hmm sb => ?_⟩
  obtain ⟨o', ho', hd'⟩ := Heap.dictOf_iff.mp hmm
  obtain ⟨s1, k1⟩ := hs.sameBut (t' := t) (tk := s.toks + 1) hH sb ho' (o' := .idict (istore kvs k (er v3))) ⟨_, hd', by rw [← hm, ← istore_of]⟩
  exact hq _ _ _ (h2 (by rw [hl, hn]; rfl)) s1 k1
theorem cv_dpop {d t kvs k a Φ} (hH : H d = some (t, .idict kvs)) (hz : kvs.length ≤ 1048576) (h1 : ∀ v, ilook kvs k = some v → Φ v (H.set d (t, .idict (idel kvs k)))) (h2 : ilook kvs k = none → Φ a H) :
    CV C m H (.builtin "dict.pop") [.ref d, .int k, a] Φ := fun vs e s Q E hs hq => by
  obtain ⟨v1, v2, v3, rfl, e1, e2, e3⟩ := vs3 e
  obtain rfl := er_ref e1
  obtain ⟨u, rfl⟩ := er_int e2
  subst e3
  obtain ⟨ob, kvs', _, _, hm, hD, lo, _⟩ := hs.idictAt hH
  have hz' : kvs'.length ≤ sizeLine := by rw [← hm, List.length_map] at hz; exact Nat.le_trans hz sizeLine_big
  have hl : ilook kvs k = (valueAt kvs' k).map er := by rw [ilook_of, hm]
  cases hv : valueAt kvs' k with
  | none =>
    exact call_meetsIn PySem.F.slot_dict_pop hD.typeIs PySem.F.entry_dict_pop (PySem.F.args_dict_pop_3 _ _ _) (meets_dict_pop_default (intKind PG C.w) d (intKind_is _ _ _ _) lo rfl _)
      ⟨kvs', hD, hv, hq _ H _ (h2 (by rw [hl, hv]; rfl)) (hs.tok _) .refl⟩
  | some x =>
    refine call_meetsIn PySem.F.slot_dict_pop hD.typeIs PySem.F.entry_dict_pop (PySem.F.args_dict_pop_3 _ _ _) (meets_dict_pop_there (intKind PG C.w) d (intKind_is _ _ _ _) _ (.inr ⟨_, rfl⟩) rfl)
      ⟨kvs', x, hD, hz', hv, fun h' hmm sb => ?_⟩
    obtain ⟨o', ho', hd'⟩ := Heap.dictOf_iff.mp hmm
    obtain ⟨s1, k1⟩ := hs.sameBut (t' := t) (tk := s.toks + 1) hH sb ho' (o' := .idict (idel kvs k)) ⟨_, hd', by rw [← hm, ← idel_of]⟩
    exact hq _ _ _ (h1 _ (by rw [hl, hv]; rfl)) s1 k1
theorem cv_dpop1 {d t kvs k v Φ} (hH : H d = some (t, .idict kvs)) (hz : kvs.length ≤ 1048576) (hv : ilook kvs k = some v) (h1 : Φ v (H.set d (t, .idict (idel kvs k)))) :
    CV C m H (.builtin "dict.pop") [.ref d, .int k] Φ := fun vs e s Q E hs hq => by
  obtain ⟨v1, v2, rfl, e1, e2⟩ := vs2 e
  obtain rfl := er_ref e1
  obtain ⟨u, rfl⟩ := er_int e2
  obtain ⟨ob, kvs', _, _, hm, hD, lo, _⟩ := hs.idictAt hH
  have hz' : kvs'.length ≤ sizeLine := by rw [← hm, List.length_map] at hz; exact Nat.le_trans hz sizeLine_big
  have hl : ilook kvs k = (valueAt kvs' k).map er := by rw [ilook_of, hm]
  cases hv' : valueAt kvs' k with
  | none => rw [hl, hv'] at hv; cases hv
  | some x =>
    rw [hl, hv'] at hv; cases hv
    refine call_meetsIn PySem.F.slot_dict_pop hD.typeIs PySem.F.entry_dict_pop (PySem.F.args_dict_pop_2 _ _) (meets_dict_pop_there (intKind PG C.w) d (intKind_is _ _ _ _) _ (.inl rfl) rfl)
      ⟨kvs', x, hD, hz', hv', fun h' hmm sb => ?_⟩
    obtain ⟨o', ho', hd'⟩ := Heap.dictOf_iff.mp hmm
    obtain ⟨s1, k1⟩ := hs.sameBut (t' := t) (tk := s.toks + 1) hH sb ho' (o' := .idict (idel kvs k)) ⟨_, hd', by rw [← hm, ← idel_of]⟩
    exact hq _ _ _ h1 s1 k1

-- in, not in
theorem op_in {d t kvs k Φ} (hH : H d = some (t, .idict kvs)) (h : Φ (.bool (ilook kvs k).isSome) H) : Op2 C env vm m H (compareOp .In) (.int k) (.ref d) Φ := fun v1 v2 e1 e2 s Q E hs _ hq => by
  obtain ⟨u, rfl⟩ := er_int e1
  obtain rfl := er_ref e2
  obtain ⟨ob, kvs', _, _, hm, hD, lo, _⟩ := hs.idictAt hH
  have hl : (ilook kvs k).isSome = (valueAt kvs' k).isSome := by rw [← hm, ← ilook_of, Option.isSome_map]
  exact wpAny_in_of (intKind_is _ _ _ _) lo hD.mapOf (hq _ H _ (by rw [← hl]; exact h) (hs.tok _) .refl)
theorem op_notin {d t kvs k Φ} (hH : H d = some (t, .idict kvs)) (h : Φ (.bool (!(ilook kvs k).isSome)) H) : Op2 C env vm m H (compareOp .NotIn) (.int k) (.ref d) Φ := fun v1 v2 e1 e2 s Q E hs _ hq => by
  obtain ⟨u, rfl⟩ := er_int e1
  obtain rfl := er_ref e2
  obtain ⟨ob, kvs', _, _, hm, hD, lo, _⟩ := hs.idictAt hH
  have hl : (ilook kvs k).isSome = (valueAt kvs' k).isSome := by rw [← hm, ← ilook_of, Option.isSome_map]
  exact wpAny_notIn_of (intKind_is _ _ _ _) lo hD.mapOf (hq _ H _ (by rw [← hl]; exact h) (hs.tok _) .refl)

-- subscripts
theorem ev_sub {value slice pos Φ} (h : EV C env vm m H (eval value env) (fun o H1 => EV C env vm m H1 (eval slice env) (fun i H2 => Op2 C env vm m H2 (subscriptTail value slice) o i Φ))) :
    EV C env vm m H (eval (.Subscript value slice pos) env) Φ := fun s Q E hs hv hq =>
  Subscript_ (h s _ E hs hv fun v1 H1 s1 h1 hs1 k1 => h1 s1 _ E hs1 (hv.step k1) fun v2 H2 s2 h2 hs2 k2 =>
    h2 v1 v2 rfl rfl s2 Q E hs2 ((hv.step k1).step k2) fun v3 H3 s3 h3 hs3 k3 => hq v3 H3 s3 h3 hs3 (k1.trans (k2.trans k3)))
theorem op_item_list {value slice a t vs k x Φ} (hH : H a = some (t, .list vs)) (h0 : 0 ≤ k) (hx : vs[k.toNat]? = some x) (h : Φ x H) (hk : k < 2 ^ 63)
    (hsub : ∀ u, subscripted slice false (.ref a) (.int k u) = operate [.ref a, .int k u] (getItem (.ref a) (.int k u)) := by intro _; rfl) : Op2 C env vm m H (subscriptTail value slice) (.ref a) (.int k) Φ := fun v1 v2 e1 e2 s Q E hs _ hq => by
  obtain rfl := er_ref e1
  obtain ⟨u, rfl⟩ := er_int e2
  obtain ⟨its, n, e, hm, _, hl⟩ := hs.listAt hH
  rw [← hm, List.getElem?_map] at hx
  cases e' : its[k.toNat]? with
  | none => rw [e'] at hx; cases hx
  | some y =>
    rw [e'] at hx
    have hy : er y = x := Option.some.inj hx
    exact tail_any hl.typeIs slot_list_getitem.lookup (wpAny_getItem_list hl h0 hk (by simpa using e') (hq y H s (by rw [hy]; exact h) hs .refl)) (hsub u)
theorem op_item_dict {value slice d t kvs k x Φ} (hH : H d = some (t, .idict kvs)) (hx : ilook kvs k = some x) (h : Φ x H)
    (hsub : ∀ u, subscripted slice false (.ref d) (.int k u) = operate [.ref d, .int k u] (getItem (.ref d) (.int k u)) := by intro _; rfl) :
    Op2 C env vm m H (subscriptTail value slice) (.ref d) (.int k) Φ := fun v1 v2 e1 e2 s Q E hs _ hq => by
  obtain rfl := er_ref e1
  obtain ⟨u, rfl⟩ := er_int e2
  obtain ⟨ob, kvs', e, hd, hm, hD, lo, hmem⟩ := hs.idictAt hH
  rw [← hm, ← ilook_of] at hx
  cases e' : valueAt kvs' k with
  | none => rw [e'] at hx; cases hx
  | some y =>
    rw [e'] at hx
    have hy : er y = x := Option.some.inj hx
    exact kba_turn (value' := .Name (PySem.Str.ofString "_") ⟨0, 0, 0, 0⟩) (fun _ => rfl) (kda_item (knd := intKind PG C.w) allOf_news hmem hd (intKind_is _ _ _ _) e' (hq y H _ (by rw [hy]; exact h) (hs.tok _) .refl) (hsub u) (fun _ => rfl))

-- stores into places
noncomputable def Op3 (C : Ctx) (env : Env) (vm m : Loc) (H : AH) (f : Value → Value → Value → Sem Unit) (a b c : AV) (Φ : AH → Prop) : Prop :=
  ∀ v1 v2 v3, er v1 = a → er v2 = b → er v3 = c → UV C env vm m H (f v1 v2 v3) Φ
theorem ex_setitem {o i pos' value pos Φ} (h : EV C env m m H (eval value env) (fun v H1 => EV C env m m H1 (eval o env) (fun ov H2 => EV C env m m H2 (eval i env) (fun iv H3 => Op3 C env m m H3 setItem ov iv v (fun H4 => Φ .next m H4)))))
    (hw : swapsWith value (some (.Subscript o i pos')) pos.line env = pure false := by with_unfolding_all exact rfl_sw) : EX C env m H (exec (.Assign [.Subscript o i pos'] value pos) env) Φ := fun hl s Q E hs hq =>
  wpAny_Assign_Subscript (h s _ E hs (vm0 hl) fun v1 H1 s1 h1 hs1 k1 => h1 s1 _ E hs1 (vm0 hl) fun v2 H2 s2 h2 hs2 k2 => h2 s2 _ E hs2 (vm0 hl) fun v3 H3 s3 h3 hs3 k3 =>
    h3 v2 v3 v1 rfl rfl rfl s3 _ E hs3 (vm0 hl) fun H4 s4 h4 hs4 k4 => hq .next m H4 s4 h4 hs4 (k1.trans (k2.trans (k3.trans k4)))) hw
theorem op_set_dict {d t kvs k x Φ} (hH : H d = some (t, .idict kvs)) (hz : kvs.length ≤ 1048576) (h : Φ (H.set d (t, .idict (istore kvs k x)))) : Op3 C env vm m H setItem (.ref d) (.int k) x Φ := fun v1 v2 v3 e1 e2 e3 s Q E hs _ hq => by
  obtain rfl := er_ref e1
  obtain ⟨u, rfl⟩ := er_int e2
  subst e3
  obtain ⟨ob, kvs', e, hd, hm, hD, lo, hmem⟩ := hs.idictAt hH
  have hz' : kvs'.length ≤ sizeLine := by rw [← hm, List.length_map] at hz; exact Nat.le_trans hz sizeLine_big
  refine wpAny_setItem_pairs (knd := intKind PG C.w) (hsz := hz') (intKind_is _ _ _ _) hD fun h' hmm sb => ?_
  obtain ⟨o', ho', hd'⟩ := Heap.dictOf_iff.mp hmm
  obtain ⟨s1, k1⟩ := hs.sameBut (t' := t) (tk := s.toks + 1) hH sb ho' (o' := .idict (istore kvs k (er v3))) ⟨_, hd', by rw [← hm, ← istore_of]⟩
  exact hq _ _ h s1 k1
theorem op_set_list {a t} {ns : List Int} {k x : Int} {Φ} (hH : H a = some (t, .list (ns.map .int))) (h0 : 0 ≤ k) (h1 : k < ns.length) (h2 : ns.length ≤ 1048576) (h : Φ (H.set a (t, .list ((ns.set k.toNat x).map .int)))) :
    Op3 C env vm m H setItem (.ref a) (.int k) (.int x) Φ := fun v1 v2 v3 e1 e2 e3 s Q E hs _ hq => by
  obtain rfl := er_ref e1
  obtain ⟨u, rfl⟩ := er_int e2
  obtain ⟨u', rfl⟩ := er_int e3
  obtain ⟨its, n, e, hm, hmem, hl⟩ := hs.listAt hH
  obtain ⟨mm, F, r⟩ := hs.fr
  obtain ⟨l', U, hm', hk⟩ := upd_of (o' := listOf (its.set k.toNat (.int x u')).toArray n) hmem allOf_nd
  refine ksa_set F allOf_news U (ints_of hm) h0 h1 (by (clear h0 h; lia)) fun h' F' N' _ _ _ => ?_
  obtain ⟨s1, k1⟩ := St.byNews (t' := t) (tk := s.toks) (o' := .list ((ns.set k.toNat x).map .int)) hs hH F' r N' hm' hk ⟨_, n, rfl, by rw [List.map_set, hm]; exact (List.map_set (f := AV.int)).symm⟩
  exact hq _ _ h s1 k1

-- lists
theorem cv_append {a t vs x Φ} (hH : H a = some (t, .list vs)) (hz : vs.length ≤ 1048576) (h : Φ .none (H.set a (t, .list (vs ++ [x])))) : CV C m H (.builtin "list.append") [.ref a, x] Φ := fun vs' e s Q E hs hq => by
  obtain ⟨v1, v2, rfl, e1, e2⟩ := vs2 e
  obtain rfl := er_ref e1
  subst e2
  obtain ⟨its, n, e, hm, hmem, hl⟩ := hs.listAt hH
  obtain ⟨mm, F, r⟩ := hs.fr
  obtain ⟨l', U, hm', hk⟩ := upd_of (o' := listOf (its.toArray.push v2) (n + 1)) hmem allOf_nd
  refine append_K F allOf_news U (fun h' F' N' => ?_) (by rw [← hm, List.length_map] at hz; simpa using Nat.le_trans hz sizeLine_big)
  obtain ⟨s1, k1⟩ := St.byNews (t' := t) (tk := s.toks) (o' := .list (vs ++ [er v2])) hs hH F' r N' hm' hk ⟨its ++ [v2], n + 1, by simp, by simp [hm]⟩
  exact hq _ _ _ h s1 k1
theorem cv_lpop {a t vs x Φ} (hH : H a = some (t, .list (vs ++ [x]))) (hz : vs.length ≤ 1000000) (h : Φ x (H.set a (t, .list vs))) : CV C m H (.builtin "list.pop") [.ref a] Φ := fun vs' e s Q E hs hq => by
  obtain ⟨v1, rfl, e1⟩ := vs1 e
  obtain rfl := er_ref e1
  obtain ⟨its, n, e, hm, hmem, hl⟩ := hs.listAt hH
  obtain ⟨mm, F, r⟩ := hs.fr
  obtain ⟨p, y, rfl⟩ : ∃ p y, its = p ++ [y] := by
    have : its ≠ [] := by rintro rfl; simp at hm
    exact ⟨its.dropLast, its.getLast this, (List.dropLast_concat_getLast this).symm⟩
  simp only [List.map_append, List.map_cons, List.map_nil] at hm
  obtain ⟨hp, hy⟩ := List.append_inj' hm rfl
  have hy' : er y = x := by simpa using hy
  obtain ⟨l', U, hm', hk⟩ := upd_of (o' := listOf p.toArray (n + 1)) hmem allOf_nd
  have hlen : p.length = vs.length := by rw [← hp, List.length_map]
  refine kl_pop F allOf_news (by simpa using kpa_last y p) U (by simp [hlen]; exact Nat.le_trans (by lia) sizeLine_big) fun h' F' N' => ?_
  obtain ⟨s1, k1⟩ := St.byNews (t' := t) (tk := s.toks) (o' := .list vs) hs hH F' r N' hm' hk ⟨p, n + 1, rfl, hp⟩
  exact hq _ _ _ (by rw [hy']; exact h) s1 k1
theorem cv_len {a t vs Φ} (hH : H a = some (t, .list vs)) (hz : vs.length ≤ 1048576) (h : Φ (.int vs.length) H) : CV C m H (.builtin "len") [.ref a] Φ := fun vs' e s Q E hs hq => by
  obtain ⟨v1, rfl, e1⟩ := vs1 e
  obtain rfl := er_ref e1
  obtain ⟨its, n, e, hm, hmem, hl⟩ := hs.listAt hH
  have hlen : its.length = vs.length := by rw [← hm, List.length_map]
  exact len_list hl (by simp [hlen]; lia) (hq _ H _ (by simpa [er, hlen] using h) (hs.tok _) .refl)
theorem cv_abs {i : Int} {Φ} (h : Φ (.int (if i < 0 then -i else i)) H) : CV C m H (.builtin "abs") [.int i] Φ := fun vs' e s Q E hs hq => by
  obtain ⟨v1, rfl, e1⟩ := vs1 e
  obtain ⟨u, rfl⟩ := er_int e1
  exact call_abs_int fun u tk => hq _ H _ h (hs.tok tk) .refl

-- builtin methods
noncomputable def AO.ty : AO → String
  | .list _ => "list" | .tup _ => "tuple" | .idict _ => "dict" | .sdict _ => "dict" | _ => ""
theorem St.typed {a t o} (hs : St C m H s) (hH : H a = some (t, o)) (ht : o.ty ≠ "") : s.TypeIs (.ref a) o.ty ∧ ∃ ob, s.heap.get? a = some ob ∧ ob.dict = none := by
  cases o with
  | list vs => obtain ⟨its, n, e, _, _, hl⟩ := hs.listAt hH; exact ⟨hl.typeIs, _, e, rfl⟩
  | tup vs => obtain ⟨its, n, e, _, hl⟩ := hs.tupAt hH; exact ⟨⟨_, e, rfl⟩, _, e, rfl⟩
  | idict kvs => obtain ⟨ob, kvs', e, hd, hm, hD, _⟩ := hs.idictAt hH; exact ⟨hD.typeIs, hD.mapOf.noDict a rfl⟩
  | sdict kvs =>
    obtain ⟨ob, e, ⟨kvs', hd, hm⟩, nL, ng⟩ := hs.hr a t _ hH
    have hD : s.heap.DictOf (strKind PG C.w) a kvs' := Heap.dictOf_iff.mpr ⟨ob, e, hd⟩
    exact ⟨hD.typeIs, hD.mapOf.noDict a rfl⟩
  | inst _ => exact absurd rfl ht
  | attrs _ => exact absurd rfl ht
  | cell _ => exact absurd rfl ht
  | rng _ _ => exact absurd rfl ht
  | fdict _ _ => exact absurd rfl ht
  | exact _ => exact absurd rfl ht
theorem ev_bmeth {T id : String} {o name ap e rest pos Φ} {pl : Sem Bool} (tt : BmT T name id)
    (h : EV C env vm m H (eval o env) (fun a H1 => ∃ d t ob, a = .ref d ∧ H1 d = some (t, ob) ∧ ob.ty = T ∧ LV C env vm m H1 (spliced (backTo pos (starEach (e :: rest) env))) (fun as H2 => CV C m H2 (.builtin id) (.ref d :: as) Φ)))
    (he : eval (.Call (.Attribute o name ap) (e :: rest) [] pos) env = (do let ov ← eval o env; standAt ap.atName; let __x ← holding [ov] (getMethod ov name pl); match __x with | (f, first) => callWith pos f first (backTo pos (starEach (e :: rest) env)) []) := by rfl)
    (h1 : starEach (e :: rest) env = (false, eval e env) :: starEach rest env := by with_unfolding_all rfl) (h2 : (backTo pos (starEach rest env)).any (·.1) = false := by rfl) :
    EV C env vm m H (eval (.Call (.Attribute o name ap) (e :: rest) [] pos) env) Φ := fun s Q E hs hv hq => by
  obtain ⟨sl, pa, ty, hT⟩ := tt.ok
  refine MethodCall_ (pl := pl) (h s _ E hs hv fun v H1 s1 h1' hs1 k1 => ?_) he
  obtain ⟨d, t, ob, ev, hd, rfl, hL⟩ := h1'
  obtain rfl := er_ref ev
  obtain ⟨hty, hnd⟩ := hs1.typed hd hT
  refine getMethod_builtin hty pa sl ty (fun a ea => by cases ea; exact hnd) ?_
  refine callWith_method1 (hL s1 _ E hs1 (hv.step k1) fun vs H2 s2 h2 hs2 k2 => ?_) h1 h2
  exact h2 (.ref d :: vs) rfl s2 Q E hs2 fun v H3 s3 h3 hs3 k3 => hq v H3 s3 h3 hs3 (k1.trans (k2.trans k3))
theorem ev_bmeth0 {T id : String} {o name ap pos Φ} {pl : Sem Bool} (sl : Slot T name id) (pa : PlainAttrs T) (ty : typeOf (.builtin id) = pure (.type "method_descriptor")) (hT : T ≠ "")
    (h : EV C env vm m H (eval o env) (fun a H1 => ∃ d t ob, a = .ref d ∧ H1 d = some (t, ob) ∧ ob.ty = T ∧ CV C m H1 (.builtin id) [.ref d] Φ))
    (he : eval (.Call (.Attribute o name ap) [] [] pos) env = (do let ov ← eval o env; standAt ap.atName; let __x ← holding [ov] (getMethod ov name pl); match __x with | (f, first) => callWith pos f first (backTo pos (starEach [] env)) []) := by rfl) :
    EV C env vm m H (eval (.Call (.Attribute o name ap) [] [] pos) env) Φ := fun s Q E hs hv hq => by
  refine MethodCall_ (pl := pl) (h s _ E hs hv fun v H1 s1 h1' hs1 k1 => ?_) he
  obtain ⟨d, t, ob, ev, hd, rfl, hL⟩ := h1'
  obtain rfl := er_ref ev
  obtain ⟨hty, hnd⟩ := hs1.typed hd hT
  refine getMethod_builtin hty pa sl ty (fun a ea => by cases ea; exact hnd) (callWith_method0 ?_)
  exact hL [.ref d] rfl s1 Q E hs1 fun v H3 s3 h3 hs3 k3 => hq v H3 s3 h3 hs3 (k1.trans k3)

-- displays
theorem ev_list {elts pos Φ} (h : LV C env vm m H (spliced (backTo pos (starEach elts env))) (fun as H1 => as.length ≤ 1048576 ∧ ∀ a, H1 a = none → Φ (.ref a) (H1.set a (.tmp, .list as)))) : EV C env vm m H (eval (.List elts pos) env) Φ := fun s Q E hs hv hq =>
  List_ (h s _ E hs hv fun vs H1 s1 h1 hs1 k1 => by
    obtain ⟨hz, h1⟩ := h1
    obtain ⟨s2, k2⟩ := hs1.alloc (t := .tmp) (o := .list (vs.map er)) (ob := { cls := .type "list", data := .seq vs.toArray }) (tk := s1.toks) ⟨vs, 0, rfl, rfl⟩ rfl
    exact wpAny_newObj_type (hq _ _ _ (h1 _ hs1.fresh) s2 (k1.trans k2)) (by show vs.toArray.size ≤ sizeLine; simp at hz ⊢; exact Nat.le_trans hz sizeLine_big))
theorem ev_tuple {elts k pos Φ} (h : LV C env vm m H (spliced (backTo pos (starEach elts env))) (fun as H1 => as.length ≤ 1048576 ∧ ∀ a, H1 a = none → Φ (.ref a) (H1.set a (.tmp, .tup as)))) : EV C env vm m H (eval (.Tuple elts k pos) env) Φ := fun s Q E hs hv hq =>
  Tuple_ (h s _ E hs hv fun vs H1 s1 h1 hs1 k1 => by
    obtain ⟨hz, h1⟩ := h1
    obtain ⟨s2, k2⟩ := hs1.alloc (t := .tmp) (o := .tup (vs.map er)) (ob := { cls := .type "tuple", data := .seq vs.toArray }) (tk := s1.toks) ⟨vs, 0, rfl, rfl⟩ rfl
    exact wpAny_newObj_type (hq _ _ _ (h1 _ hs1.fresh) s2 (k1.trans k2)) (by show vs.toArray.size ≤ sizeLine; simp at hz ⊢; exact Nat.le_trans hz sizeLine_big))
end
--T Fw6

theorem ite_split {b : Bool} {A B : Prop} (h1 : b = true → A) (h2 : b = false → B) : if b = true then A else B := by
  cases b with
  | true => simpa using h1 rfl
  | false => simpa using h2 rfl
theorem ite_t {A B : Prop} (h1 : A) : if true = true then A else B := by simpa using h1
theorem ite_f {A B : Prop} (h1 : B) : if false = true then A else B := by simpa using h1

noncomputable def seqP (K : Loc → AH → Prop) (Φ : AFl → Loc → AH → Prop) : AFl → Loc → AH → Prop := fun f m' H' => match f with | .next => K m' H' | f => Φ f m' H'
section
variable {C : Ctx} {env : Env} {vm m : Loc} {H : AH}
theorem ex_seq {st rest Φ} (h : EX C env m H (exec st env) (seqP (fun m' H' => EX C env m' H' (execs rest env) Φ) Φ)) : EX C env m H (execs (st :: rest) env) Φ :=
  ex_cons (h.mono fun f m' H' p => by cases f <;> exact p)
theorem seq_next {K Φ} (h : K m H) : seqP K Φ .next m H := h
theorem seq_ret {K Φ v} (h : Φ (.ret v) m H) : seqP K Φ (.ret v) m H := h
theorem seq_brk {K Φ} (h : Φ .brk m H) : seqP K Φ .brk m H := h
theorem seq_cont {K Φ} (h : Φ .cont m H) : seqP K Φ .cont m H := h
theorem fn_ret {Φ v} (h : Φ v H) : fnPost Φ (.ret v) m H := h
theorem fn_next {Φ} (h : Φ .none H) : fnPost Φ .next m H := h

-- conditional ends
theorem EX.imp {t} {Φ : AFl → Loc → AH → Prop} (K : Loc → AH → Prop) (h : EX C env m H t (seqP K Φ)) (k : ∀ m' H', K m' H' → Φ .next m' H') : EX C env m H t Φ :=
  h.mono fun f m' H' p => by cases f <;> first | exact k _ _ p | exact p
end

/-- what the names bound by a call say -/
theorem binds1 {fd : FuncData} {a : AV} {n1 : Str} {ab : List (Str × AV)} (h : ∀ v : Value, bindArgs fd ⟨[v], []⟩ = pure [(n1, v)]) (hab : ab = [(n1, a)]) :
    ∀ vs : List Value, vs.map er = [a] → ∃ binds, bindArgs fd ⟨vs, []⟩ = pure binds ∧ binds.map (fun p => (p.1, er p.2)) = ab := fun vs e => by
  obtain ⟨v, rfl, rfl⟩ := vs1 e
  exact ⟨_, h v, by rw [hab]; rfl⟩
theorem binds2 {fd : FuncData} {a b : AV} {n1 n2 : Str} {ab : List (Str × AV)} (h : ∀ v w : Value, bindArgs fd ⟨[v, w], []⟩ = pure [(n1, v), (n2, w)]) (hab : ab = [(n1, a), (n2, b)]) :
    ∀ vs : List Value, vs.map er = [a, b] → ∃ binds, bindArgs fd ⟨vs, []⟩ = pure binds ∧ binds.map (fun p => (p.1, er p.2)) = ab := fun vs e => by
  obtain ⟨v, w, rfl, rfl, rfl⟩ := vs2 e
  exact ⟨_, h v w, by rw [hab]; rfl⟩
theorem binds3 {fd : FuncData} {a b c : AV} {n1 n2 n3 : Str} {ab : List (Str × AV)} (h : ∀ v w u : Value, bindArgs fd ⟨[v, w, u], []⟩ = pure [(n1, v), (n2, w), (n3, u)]) (hab : ab = [(n1, a), (n2, b), (n3, c)]) :
    ∀ vs : List Value, vs.map er = [a, b, c] → ∃ binds, bindArgs fd ⟨vs, []⟩ = pure binds ∧ binds.map (fun p => (p.1, er p.2)) = ab := fun vs e => by
  obtain ⟨v, w, u, rfl, rfl, rfl, rfl⟩ := vs3 e
  exact ⟨_, h v w u, by rw [hab]; rfl⟩

theorem Loc.get_ne {m : Loc} {x y : Str} {b : AV} {a : Option AV} (h : y ≠ x) (e : m y = a) : (m.set x b) y = a := by unfold Loc.set; rw [if_neg h]; exact e
theorem Loc.get_eq {m : Loc} {x : Str} {b : AV} : (m.set x b) x = some b := by unfold Loc.set; rw [if_pos rfl]

/-! the state of a Search -/
structure Sg where
  x : Addr
  dx : Addr
  aKn : Addr
  aHt : Addr
  aCs : Addr
  aRow : Addr
  aBg : Addr
  aLk : Addr
  aRows : Addr
  aWt : Addr
  aHeats : Addr
  aLog : Addr
  kn : List (Int × AV)
  ht : List (Int × AV)
  cs : List (Int × AV)
  row : List Int
  bg : List Nat
  seen : Nat
  lk : List (Int × AV)
  rows : List (Addr × List Int)
  wt : List (Int × Addr × List Nat)
  heats : List (Int × AV)
  gain : Int
  log : List AV
  refuted : Bool
  blamed : AV
  clashes : Int

noncomputable def Sg.fs (σ : Sg) : List (Str × AV) :=
  [("known", .ref σ.aKn), ("heights", .ref σ.aHt), ("causes", .ref σ.aCs), ("row", .ref σ.aRow), ("begins", .ref σ.aBg), ("seen", .int σ.seen), ("liked", .ref σ.aLk),
   ("rows", .ref σ.aRows), ("watching", .ref σ.aWt), ("heats", .ref σ.aHeats), ("gain", .int σ.gain), ("log", .ref σ.aLog), ("is_refuted", .bool σ.refuted), ("blamed", σ.blamed),
   ("clashes", .int σ.clashes), ("conflict_limit", .int 0)]

noncomputable def wlook (wt : List (Int × Addr × List Nat)) (l : Int) : Option (Addr × List Nat) := (wt.find? fun q => q.1 = l).map (·.2)
noncomputable def intsO (l : List Int) : AO := .list (l.map .int)
noncomputable def natsO (l : List Nat) : AO := .list (l.map fun (n : Nat) => AV.int (n : Int))

noncomputable def Sg.at (σ : Sg) : Tag → Option (Addr × AO)
  | .inst => some (σ.x, .inst σ.dx)
  | .attrs => some (σ.dx, .attrs σ.fs)
  | .known => some (σ.aKn, .idict σ.kn)
  | .heights => some (σ.aHt, .idict σ.ht)
  | .causes => some (σ.aCs, .idict σ.cs)
  | .row => some (σ.aRow, intsO σ.row)
  | .begins => some (σ.aBg, natsO σ.bg)
  | .liked => some (σ.aLk, .idict σ.lk)
  | .rows => some (σ.aRows, .list (σ.rows.map fun r => .ref r.1))
  | .watching => some (σ.aWt, .idict (σ.wt.map fun q => (q.1, .ref q.2.1)))
  | .heats => some (σ.aHeats, .idict σ.heats)
  | .log => some (σ.aLog, .list σ.log)
  | .clause i => (σ.rows[i]?).map fun r => (r.1, intsO r.2)
  | .watch l => (wlook σ.wt l).map fun q => (q.1, natsO q.2)
  | .law => none | .tmp => none | .cell => none

noncomputable def At (H : AH) (σ : Sg) : Prop := ∀ t a o, σ.at t = some (a, o) → H a = some (t, o)

noncomputable def Tag.out : Tag → Bool
  | .law => true | .tmp => true | .cell => true | _ => false
theorem Sg.at_out {σ : Sg} {t : Tag} (h : t.out = true) : σ.at t = none := by cases t <;> first | rfl | cases h

/-- one component changes, its place stays -/
theorem At.upd {H : AH} {σ σ' : Sg} {t : Tag} {a : Addr} {o o' : AO} (h : At H σ) (hc : σ.at t = some (a, o)) (h' : ∀ u, σ'.at u = if u = t then some (a, o') else σ.at u) : At (H.set a (t, o')) σ' := fun u b p e => by
  rw [h'] at e
  by_cases q : u = t
  · subst q; rw [if_pos rfl] at e; cases e; exact AH.set_self
  · rw [if_neg q] at e
    exact AH.set_tag (h _ _ _ hc) (h _ _ _ e) q
/-- a component gets a new place -/
theorem At.new {H : AH} {σ σ' : Sg} {t : Tag} {a : Addr} {o' : AO} (h : At H σ) (hn : H a = none ∨ ∃ u p, H a = some (u, p) ∧ u.out = true) (h' : ∀ u, σ'.at u = if u = t then some (a, o') else σ.at u) : At (H.set a (t, o')) σ' := fun u b p e => by
  rw [h'] at e
  by_cases q : u = t
  · subst q; rw [if_pos rfl] at e; cases e; exact AH.set_self
  · rw [if_neg q] at e
    have hb := h _ _ _ e
    rw [AH.set_ne, hb]
    rintro rfl
    rcases hn with hn | ⟨u', p', hn, ho⟩
    · rw [hn] at hb; cases hb
    · rw [hn] at hb; cases hb
      rw [Sg.at_out ho] at e; cases e
/-- a thing outside -/
theorem At.out {H : AH} {σ : Sg} {a : Addr} {x : Tag × AO} (h : At H σ) (hn : H a = none ∨ ∃ u p, H a = some (u, p) ∧ u.out = true) : At (H.set a x) σ := fun u b p e => by
  have hb := h _ _ _ e
  rw [AH.set_ne, hb]
  rintro rfl
  rcases hn with hn | ⟨u', p', hn, ho⟩
  · rw [hn] at hb; cases hb
  · rw [hn] at hb; cases hb
    rw [Sg.at_out ho] at e; cases e

/-- what stands outside stays -/
noncomputable def Fr0 (H H' : AH) : Prop := ∀ b t o, H b = some (t, o) → t.out = true → H' b = some (t, o)
theorem Fr0.refl {H : AH} : Fr0 H H := fun _ _ _ e _ => e
theorem Fr0.trans {H H' H'' : AH} (a : Fr0 H H') (b : Fr0 H' H'') : Fr0 H H'' := fun x t o e h => b x t o (a x t o e h) h
theorem Fr0.new {H : AH} {a x} (h : H a = none) : Fr0 H (H.set a x) := fun b t o e _ => AH.set_new h e
theorem Fr0.comp {H : AH} {a t o x} (h : H a = some (t, o)) (ht : t.out = false) : Fr0 H (H.set a x) := fun b t' o' e ho => AH.set_tag h e (by rintro rfl; simp_all)

theorem At.inst {H : AH} {σ : Sg} (h : At H σ) : Inst H σ.x σ.fs := ⟨σ.dx, _, _, h .inst _ _ rfl, h .attrs _ _ rfl⟩

section
variable {C : Ctx} {env : Env} {vm m : Loc} {H : AH}
/-- a field of the search is read -/
theorem ev_self {x xp attr pos a Φ} {σ : Sg} (hA : At H σ) (hx : vm x = some (.ref σ.x)) (hl : look σ.fs attr = some a) (hc : isConc a = false) (h : Φ a H)
    (hf : attrNames.contains attr = true := by decide) (hk : env.scope.kind = .function := by with_unfolding_all exact rfl_fn) (hloc : env.kindOf x = some .local := by with_unfolding_all exact rfl_lc)
    (hd : (x == ("__debug__" : Str)) = false := by decide)
    (hq : eval (.Attribute (.Name x xp) attr pos) env = (do let o ← eval (.Name x xp) env; standAt pos.atName; let r ← holding [o] (getAttr o attr true); letTemporaryGo (.Name x xp) o r; pure r) := by rfl) :
    EV C env vm m H (eval (.Attribute (.Name x xp) attr pos) env) Φ :=
  ev_attr_name (ev_local hx (op_getattr (hA .inst _ _ rfl) (hA .attrs _ _ rfl) hl hc h (pg_all _ _) (fi_all _ hf)) hk hloc hd) hq
/-- a method of the search is called -/
theorem ev_selfm {x xp name ap e rest pos Φ fa} {σ : Sg} {pl : Sem Bool} (hA : At H σ) (hx : vm x = some (.ref σ.x)) (hl : look σ.fs name = none)
    (h : LV C env vm m H (spliced (backTo pos (starEach (e :: rest) env))) (fun as H2 => CV C m H2 (.ref fa) (.ref σ.x :: as) Φ))
    (tt : MeT name fa)
    (hk : env.scope.kind = .function := by with_unfolding_all exact rfl_fn) (hloc : env.kindOf x = some .local := by with_unfolding_all exact rfl_lc) (hd : (x == ("__debug__" : Str)) = false := by decide)
    (he : eval (.Call (.Attribute (.Name x xp) name ap) (e :: rest) [] pos) env = (do let ov ← eval (.Name x xp) env; standAt ap.atName; let __x ← holding [ov] (getMethod ov name pl); match __x with | (f, first) => callWith pos f first (backTo pos (starEach (e :: rest) env)) []) := by rfl)
    (h1 : starEach (e :: rest) env = (false, eval e env) :: starEach rest env := by with_unfolding_all rfl) (h2 : (backTo pos (starEach rest env)).any (·.1) = false := by rfl) :
    EV C env vm m H (eval (.Call (.Attribute (.Name x xp) name ap) (e :: rest) [] pos) env) Φ :=
  ev_meth (ev_local hx ⟨σ.x, σ.fs, fa, rfl, hA.inst, hl, pg_all _ _, (tt.ok C.w).1, (tt.ok C.w).2.1, (tt.ok C.w).2.2, h⟩ hk hloc hd) he h1 h2
theorem ev_selfm0 {x xp name ap pos Φ fa} {σ : Sg} {pl : Sem Bool} (hA : At H σ) (hx : vm x = some (.ref σ.x)) (hl : look σ.fs name = none)
    (h : CV C m H (.ref fa) [.ref σ.x] Φ)
    (tt : MeT name fa)
    (hk : env.scope.kind = .function := by with_unfolding_all exact rfl_fn) (hloc : env.kindOf x = some .local := by with_unfolding_all exact rfl_lc) (hd : (x == ("__debug__" : Str)) = false := by decide)
    (he : eval (.Call (.Attribute (.Name x xp) name ap) [] [] pos) env = (do let ov ← eval (.Name x xp) env; standAt ap.atName; let __x ← holding [ov] (getMethod ov name pl); match __x with | (f, first) => callWith pos f first (backTo pos (starEach [] env)) []) := by rfl) :
    EV C env vm m H (eval (.Call (.Attribute (.Name x xp) name ap) [] [] pos) env) Φ :=
  ev_meth0 (ev_local hx ⟨σ.x, σ.fs, fa, rfl, hA.inst, hl, pg_all _ _, (tt.ok C.w).1, (tt.ok C.w).2.1, (tt.ok C.w).2.2, h⟩ hk hloc hd) he
/-- a field of the search is stored -/
theorem ex_self {x xp attr pos' value pos Φ} {σ : Sg} (h : EV C env m m H (eval value env) (fun a H1 => At H1 σ ∧ m x = some (.ref σ.x) ∧ Φ .next m (H1.set σ.dx (.attrs, .attrs (putA attr a σ.fs)))))
    (ht : attrNames.contains attr = true := by decide) (hk : env.scope.kind = .function := by with_unfolding_all exact rfl_fn) (hloc : env.kindOf x = some .local := by with_unfolding_all exact rfl_lc) (hd : (x == ("__debug__" : Str)) = false := by decide)
    (hw : swapsWith value (some (.Attribute (.Name x xp) attr pos')) pos.line env = pure false := by with_unfolding_all exact rfl_sw) : EX C env m H (exec (.Assign [.Attribute (.Name x xp) attr pos'] value pos) env) Φ :=
  ex_setattr (h.mono fun a H1 ⟨hA, hx, hΦ⟩ => ev_local hx ⟨_, _, _, _, _, rfl, hA .inst _ _ rfl, hA .attrs _ _ rfl, by show 16 ≤ 100; decide, tk_all _ ht, hΦ⟩ hk hloc hd) hw
end
--T Fw7

/-- an iterator at I over items; the rest of the heap says Inv -/
structure ItP (C : Ctx) (items : List AV) (I : Addr) (Inv : AH → Prop) (St' : Nat → Heap → Prop) : Prop where
  frame : ∀ i h h', St' i h → (∀ o, h.get? I = some o → h'.get? I = some o) → St' i h'
  there : ∀ i h, St' i h → ∃ o : Obj, h.get? I = some o ∧ ∃ vs, o.data = .fields vs ∧ (o.cls = .type "range" → False)
  self : ∀ i (s : Shared) (Q : Value → Shared → Prop) (E : Value → Shared → Prop), St' i s.heap → Q (.ref I) s → wpAny (model PG C.w) C.A (pyIter (.ref I)) Q E s
  next : ∀ i m H (s : Shared) (Q : Option Value → Shared → Prop) (E : Value → Shared → Prop), St C m H s → Inv H → St' i s.heap → ∀ a, items[i]? = some a →
    (∀ v h' tk, er v = a → St' (i + 1) h' → (∀ b o, b ≠ I → s.heap.get? b = some o → h'.get? b = some o) → Q (some v) { s with heap := h', toks := tk }) → wpAny (model PG C.w) C.A (pyNext (.ref I)) Q E s
  done : ∀ m H (s : Shared) (Q : Option Value → Shared → Prop) (E : Value → Shared → Prop), St C m H s → Inv H → St' items.length s.heap →
    (∀ h' tk, (∀ b o, b ≠ I → s.heap.get? b = some o → h'.get? b = some o) → Q none { s with heap := h', toks := tk }) → wpAny (model PG C.w) C.A (pyNext (.ref I)) Q E s

/-- a value that can be gone through -/
noncomputable def Src (C : Ctx) (H : AH) (v : AV) (items : List AV) (Inv : AH → Prop) : Prop :=
  ∀ m (s : Shared) cv (Q : Value → Shared → Prop) (E : Value → Shared → Prop), er cv = v → St C m H s →
    (∀ ob St', ob.isFreed = false → ItP C items s.heap.objs.size Inv St' → St' 0 (s.heap.push ob) → Q (.ref s.heap.objs.size) { s with heap := s.heap.push ob }) → wpAny (model PG C.w) C.A (pyIter cv) Q E s

theorem getElem?_er {its : List Value} {vs : List AV} {i : Nat} {a : AV} (hm : its.map er = vs) (h : vs[i]? = some a) : ∃ v, its[i]? = some v ∧ er v = a := by
  rw [← hm, List.getElem?_map] at h
  cases e : its[i]? with
  | none => rw [e] at h; cases h
  | some v => rw [e] at h; exact ⟨v, rfl, Option.some.inj h⟩

theorem src_list {C : Ctx} {H : AH} {a t vs} (hH : H a = some (t, .list vs)) : Src C H (.ref a) vs (fun H' => ∃ t, H' a = some (t, .list vs)) := fun m s cv Q E e hs hq => by
  obtain rfl := er_ref e
  obtain ⟨its, n, e0, hm, _, hl⟩ := hs.listAt hH
  have hne : a ≠ s.heap.objs.size := Nat.ne_of_lt (hs.lt hH)
  refine wpAny_pyIter_list hl (hq _ (fun i h => h.IsListIter s.heap.objs.size a i) rfl ?_ ⟨_, Heap.get?_push_size _ rfl, rfl, rfl⟩)
  refine ⟨fun i h h' st hk => st.at hk, fun i h ⟨o, e, hc, hd⟩ => ⟨o, e, _, hd, by rw [hc]; intro q; injection q with q; exact absurd q (by decide)⟩, fun i s' Q E st h => wpAny_pyIter_listiter st h, fun i m' H' s' Q E hs' ⟨t', hH'⟩ st x hx k => ?_, fun m' H' s' Q E hs' ⟨t', hH'⟩ st k => ?_⟩
  · obtain ⟨its', n', e1, hm', _, hl'⟩ := hs'.listAt hH'
    obtain ⟨v, hv, ev⟩ := getElem?_er hm' hx
    exact wpAny_pyNext_list_item st hl' (by simpa using hv) fun h' st' sb => k v h' s'.toks ev st' fun b o hb e => sb.extBut b o hb e
  · obtain ⟨its', n', e1, hm', _, hl'⟩ := hs'.listAt hH'
    have hlen : its'.length = vs.length := by rw [← hm', List.length_map]
    exact wpAny_pyNext_list_end C.hh st hl' (by simp [hlen]) fun h' sb => k h' s'.toks fun b o hb e => sb b o hb e
theorem src_tup {C : Ctx} {H : AH} {a t vs} (hH : H a = some (t, .tup vs)) : Src C H (.ref a) vs (fun H' => ∃ t, H' a = some (t, .tup vs)) := fun m s cv Q E e hs hq => by
  obtain rfl := er_ref e
  obtain ⟨its, n, e0, hm, hl⟩ := hs.tupAt hH
  refine wpAny_pyIter_tuple hl (hq _ (fun i h => h.IsTupleIter s.heap.objs.size a i) rfl ?_ ⟨_, Heap.get?_push_size _ rfl, rfl, rfl⟩)
  refine ⟨fun i h h' ⟨o, e, r⟩ hk => ⟨o, hk _ e, r⟩, fun i h ⟨o, e, hc, hd⟩ => ⟨o, e, _, hd, by rw [hc]; intro q; injection q with q; exact absurd q (by decide)⟩, fun i s' Q E st h => wpAny_pyIter_tupleiter st h, fun i m' H' s' Q E hs' ⟨t', hH'⟩ st x hx k => ?_, fun m' H' s' Q E hs' ⟨t', hH'⟩ st k => ?_⟩
  · obtain ⟨its', n', e1, hm', hl'⟩ := hs'.tupAt hH'
    obtain ⟨v, hv, ev⟩ := getElem?_er hm' hx
    exact wpAny_pyNext_tuple_item st hl' (by simpa using hv) fun h' st' sb => k v h' s'.toks ev st' fun b o hb e => sb.extBut b o hb e
  · obtain ⟨its', n', e1, hm', hl'⟩ := hs'.tupAt hH'
    have hlen : its'.length = vs.length := by rw [← hm', List.length_map]
    exact wpAny_pyNext_tuple_end C.hh st hl' (by simp [hlen]) fun h' sb => k h' s'.toks fun b o hb e => sb b o hb e
noncomputable def rngItems (a b : Int) : List AV := (List.range (b - a).toNat).map fun (i : Nat) => AV.int (a + i)
theorem rng_size {a b : Int} : Builtin.Range.rangeSize a b 1 = ((b - a).toNat : Int) := by
  unfold Builtin.Range.rangeSize
  simp only [show (1 : Int) > 0 from by decide, if_true]
  split <;> simp <;> omega
theorem src_rng {C : Ctx} {H : AH} {r t a b} (hH : H r = some (t, .rng a b)) (hsmall : Builtin.Range.small a b 1 = true) : Src C H (.ref r) (rngItems a b) (fun _ => True) := fun m s cv Q E e hs hq => by
  obtain rfl := er_ref e
  obtain ⟨ob, e0, ⟨t1, u1, v1, rfl⟩, _⟩ := hs.hr r t _ hH
  refine wpAny_pyIter_range e0 hsmall (hq _ (fun i h => IsRangeIter h s.heap.objs.size (a + (i : Nat)) (((b - a).toNat : Int) - (i : Nat)) 1) rfl ?_ ?_)
  · refine ⟨fun i h h' st hk => hk _ st, fun i h e => ⟨_, e, _, rfl, by intro q; injection q with q; exact absurd q (by decide)⟩, fun i s' Q E st h => wpAny_pyIter_rangeiter st h, fun i m' H' s' Q E hs' _ st x hx k => ?_, fun m' H' s' Q E hs' _ st k => ?_⟩
    · unfold rngItems at hx
      rw [List.getElem?_map] at hx
      have hi : i < (b - a).toNat := by
        apply Nat.lt_of_not_le
        intro hle
        rw [List.getElem?_eq_none (by simpa using hle)] at hx; cases hx
      rw [List.getElem?_range hi] at hx
      have ex : AV.int (a + (i : Nat)) = x := Option.some.inj hx
      refine wpAny_pyNext_range_item st (by omega) fun h' st' sb => k _ h' _ ex ?_ fun b o hb e => sb.extBut b o hb e
      have e1 : a + (i : Nat) + 1 = a + ((i + 1 : Nat) : Int) := by lia
      have e2 : ((b - a).toNat : Int) - (i : Nat) - 1 = ((b - a).toNat : Int) - ((i + 1 : Nat) : Int) := by (clear hi e1; lia)
      rw [e1, e2] at st'; exact st'
    · have : (rngItems a b).length = (b - a).toNat := by simp [rngItems]
      rw [this] at st
      exact wpAny_pyNext_range_end C.hh st (by lia) fun h' sb => k h' s'.toks fun b o hb e => sb b o hb e
  · show (s.heap.push _).get? _ = _
    rw [rng_size]
    have := Heap.get?_push_size s.heap (o := { cls := .type "range_iterator", data := .fields #[rawInt a, rawInt ((b - a).toNat : Int), rawInt 1] }) rfl
    simpa using this
theorem src_dict {C : Ctx} {H : AH} {d t ep kvs} (hH : H d = some (t, .fdict ep kvs)) : Src C H (.ref d) (kvs.map fun p => .int p.1) (fun H' => ∃ t, H' d = some (t, .fdict ep kvs)) := fun m s cv Q E e hs hq => by
  obtain rfl := er_ref e
  obtain ⟨ob, e0, ⟨kvs', ⟨es, hx⟩, hm⟩, nL, ng⟩ := hs.hr d t _ hH
  have hD : s.heap.DictAt (intKind PG C.w) d kvs' ep := ⟨ob, es, e0, hx⟩
  have hl : kvs.length = kvs'.length := by rw [← hm, List.length_map]
  refine wpAny_pyIter_dict (knd := intKind PG C.w) (beq_eq_false_iff_ne.mpr (Nat.ne_of_gt ng.2)) hD (hq _ (fun i h => h.IsKeyIter s.heap.objs.size d i kvs.length ep) rfl ?_ (by rw [hl]; exact ⟨_, Heap.get?_push_size _ rfl, rfl, rfl⟩))
  refine ⟨fun i h h' ⟨o, e, r⟩ hk => ⟨o, hk _ e, r⟩, fun i h ⟨o, e, hc, hd⟩ => ⟨o, e, _, hd, by rw [hc]; intro q; injection q with q; exact absurd q (by decide)⟩, fun i s' Q E st h => wpAny_pyIter_keyiter st h, fun i m' H' s' Q E hs' ⟨t', hH'⟩ st x hx k => ?_, fun m' H' s' Q E hs' ⟨t', hH'⟩ st k => ?_⟩
  · obtain ⟨ob, e0, ⟨kvs', ⟨es, hx'⟩, hm⟩, nL, ng⟩ := hs'.hr d t' _ hH'
    have hD : s'.heap.DictAt (intKind PG C.w) d kvs' ep := ⟨ob, es, e0, hx'⟩
    have hl : kvs.length = kvs'.length := by rw [← hm, List.length_map]
    rw [hl] at st
    rw [← hm, List.map_map, List.getElem?_map] at hx
    cases e : kvs'[i]? with
    | none => rw [e] at hx; cases hx
    | some p =>
      rw [e] at hx
      have ex : AV.int p.1 = x := Option.some.inj hx
      refine wpAny_pyNext_dict_item (knd := intKind PG C.w) st hD (k := p.1) (v := p.2) e fun key h' hkey st' sb => k key h' s'.toks ?_ (by rw [hl]; exact st') fun b o hb e => sb.extBut b o hb e
      obtain ⟨u, rfl⟩ := Value.isInt_shape (show key.isInt p.1 = true from hkey)
      exact ex
  · obtain ⟨ob, e0, ⟨kvs', ⟨es, hx'⟩, hm⟩, nL, ng⟩ := hs'.hr d t' _ hH'
    have hD : s'.heap.DictAt (intKind PG C.w) d kvs' ep := ⟨ob, es, e0, hx'⟩
    have hl : kvs.length = kvs'.length := by rw [← hm, List.length_map]
    rw [hl] at st
    rw [List.length_map, hl] at st
    exact wpAny_pyNext_dict_end (knd := intKind PG C.w) C.hh st hD (by simp) fun h' sb => k h' s'.toks fun b o hb e => sb b o hb e

section
variable {C : Ctx} {env : Env} {vm m : Loc} {H : AH} {s : Shared}
/-- no tracked object is an iterator -/
theorem rep_fields {w : World} {o : AO} {ob : Obj} {vs} (r : o.rep w ob) (hd : ob.data = .fields vs) : ob.cls = .type "range" := by
  cases o with
  | list vs => obtain ⟨_, _, rfl, _⟩ := r; cases hd
  | tup vs => obtain ⟨_, _, rfl, _⟩ := r; cases hd
  | idict kvs => obtain ⟨_, ⟨_, _, _, h, _⟩, _⟩ := r; rw [hd] at h; cases h
  | sdict kvs => obtain ⟨_, ⟨_, _, _, h, _⟩, _⟩ := r; rw [hd] at h; cases h
  | inst _ => cases r; cases hd
  | attrs _ => obtain ⟨_, _, rfl, _⟩ := r; cases hd
  | cell _ => obtain ⟨_, h, _⟩ := r; rw [hd] at h; cases h
  | rng _ _ => obtain ⟨_, _, _, rfl⟩ := r; rfl
  | fdict _ _ => obtain ⟨_, ⟨_, _, h, _⟩, _⟩ := r; rw [hd] at h; cases h
  | exact _ => obtain ⟨rfl, h⟩ := r; exact h _ hd
theorem St.notIter {I o vs} (hs : St C m H s) (e : s.heap.get? I = some o) (hd : o.data = .fields vs) (hc : o.cls = .type "range" → False) : H I = none := by
  cases q : H I with
  | none => rfl
  | some x =>
    exfalso
    obtain ⟨t, p⟩ := x
    obtain ⟨ob, e', r, _⟩ := hs.hr I t p q
    rw [e] at e'; cases e'
    cases p with
    | list vs => obtain ⟨_, _, rfl, _⟩ := r; cases hd
    | tup vs => obtain ⟨_, _, rfl, _⟩ := r; cases hd
    | idict kvs => obtain ⟨_, ⟨_, _, _, h, _⟩, _⟩ := r; rw [hd] at h; cases h
    | sdict kvs => obtain ⟨_, ⟨_, _, _, h, _⟩, _⟩ := r; rw [hd] at h; cases h
    | inst _ => cases r; cases hd
    | attrs _ => obtain ⟨_, _, rfl, _⟩ := r; cases hd
    | cell _ => obtain ⟨_, h, _⟩ := r; rw [hd] at h; cases h
    | rng _ _ => obtain ⟨_, _, _, rfl⟩ := r; exact hc rfl
    | fdict _ _ => obtain ⟨_, ⟨_, _, h, _⟩, _⟩ := r; rw [hd] at h; cases h
    | exact _ => obtain ⟨rfl, h⟩ := r; exact hc (h _ hd)
/-- an untracked object of the frame's own changes -/
theorem St.aside {I} {h' : Heap} {tk : Nat} (hs : St C m H s) (hI : H I = none) (hL : I ≠ C.L) (hg : C.g.get? I = none) (k : ∀ b o, b ≠ I → s.heap.get? b = some o → h'.get? b = some o) :
    St C m H { s with heap := h', toks := tk } := by
  obtain ⟨mm, F, r⟩ := hs.fr
  refine ⟨⟨mm, ⟨?_, fun b o e => k b o (by rintro rfl; rw [hg] at e; cases e) (F.keep b o e), F.above⟩, r⟩, fun b u p hb => ?_, ?_⟩
  · obtain ⟨o, es, ep, ho, rest⟩ := F.ns
    exact ⟨o, es, ep, k _ _ (Ne.symm hL) ho, rest⟩
  · obtain ⟨ob1, e1, r1, n1, g1⟩ := hs.hr b u p hb
    exact ⟨ob1, k b ob1 (by rintro rfl; rw [hI] at hb; cases hb) e1, r1, n1, g1⟩
  · obtain ⟨h0, tk0, e0⟩ := hs.sr; exact ⟨h', tk, by rw [e0]⟩

theorem ex_for {x : Str} {xp iter body pos Φ} (h : EV C env m m H (eval iter env) (fun v H1 => ∃ items Inv, Src C H1 v items Inv ∧ ∃ J : Nat → Loc → AH → Prop, J 0 m H1 ∧ (∀ i m' H', J i m' H' → Inv H') ∧
      (∀ i a, items[i]? = some a → ∀ m' H', J i m' H' → SV C env m' H' (storeName env x) a (fun m2 H2 => EX C env m2 H2 (execs body env) (fun f m3 H3 => match f with
        | .next | .cont => J (i + 1) m3 H3 | .brk => Φ .next m3 H3 | .ret v => Φ (.ret v) m3 H3))) ∧
      (∀ m' H', J items.length m' H' → Φ .next m' H')))
    (hs : ∀ x, foldedSetIterable iter env x = pure x := by intro _; rfl) : EX C env m H (exec (.For (.Name x xp) iter body [] pos) env) Φ := fun hl s Q E hs0 hq => by
  refine wpAny_For (h s _ E hs0 (vm0 hl) fun v H1 s1 h1 hs1 k1 => ?_) hs
  obtain ⟨items, Inv, src, J, j0, jInv, turn, fin⟩ := h1
  refine src m s1 v _ E rfl hs1 fun ob St' hf it st0 => ?_
  obtain ⟨hs2, k2⟩ := hs1.push (ob := ob) (tk := s1.toks)
  have gI := hs1.gfresh
  have LI := hs1.Lne
  refine codeAny_forLoop (fun k s' => ∃ i m' H', k = items.length + 1 - i ∧ i ≤ items.length ∧ St C m' H' s' ∧ J i m' H' ∧ St' i s'.heap ∧ Kp C H1 H' s1.heap s'.heap) ?_ (items.length + 1)
    ⟨0, m, H1, rfl, Nat.zero_le _, hs2, j0, st0, k2⟩
  rintro k s' ⟨i, m', H', rfl, hi, hs', hJ, st, kp⟩
  have untr : ∀ {m H} {s : Shared} {i}, St C m H s → St' i s.heap → H s1.heap.objs.size = none := fun hs st => by
    obtain ⟨o, e, vs, hd, hc⟩ := it.there _ _ st; exact hs.notIter e hd hc
  have hI := untr hs' st
  have kstep : ∀ {h' : Heap}, (∀ b o, b ≠ s1.heap.objs.size → s'.heap.get? b = some o → h'.get? b = some o) → Kp C H1 H' s1.heap h' := fun k b o e n l => by
    obtain ⟨p, q⟩ := kp b o e n l
    exact ⟨k b o (Nat.ne_of_lt (Heap.lt_size e)) p, q⟩
  by_cases hlt : i < items.length
  · obtain ⟨a, ha⟩ : ∃ a, items[i]? = some a := ⟨items[i], by simp [hlt]⟩
    refine it.next i m' H' s' _ _ hs' (jInv _ _ _ hJ) st a ha fun v h' tk ev st' kh => ?_
    have hs3 : St C m' H' { s' with heap := h', toks := tk } := hs'.aside hI LI gI kh
    refine wpAny_assign_Name (turn i a ha m' H' hJ hl v _ _ _ ev hs3 fun m2 H2 s4 h4 hs4 k4 => ?_)
    refine h4 hl s4 _ _ hs4 fun f m5 H5 s5 h5 hs5 k5 => ?_
    have kk : Kp C H1 H5 s1.heap s5.heap := (kstep kh).trans (k4.trans k5)
    have stn : St' (i + 1) s5.heap := it.frame _ _ _ st' fun o e => by
      obtain ⟨p, q⟩ := k4 _ _ e hI LI
      exact (k5 _ _ p q LI).1
    cases f with
    | next => exact ⟨items.length + 1 - (i + 1), by (clear j0 st0 LI hi hJ st st' h4 stn; omega), i + 1, m5, H5, rfl, hlt, hs5, h5, stn, kk⟩
    | cont => exact ⟨items.length + 1 - (i + 1), by (clear j0 st0 LI hi hJ st st' h4 stn; omega), i + 1, m5, H5, rfl, hlt, hs5, h5, stn, kk⟩
    | brk => exact hq .next m5 H5 s5 h5 hs5 (k1.trans kk)
    | ret v => exact hq (.ret v) m5 H5 s5 h5 hs5 (k1.trans kk)
  · have hin : i = items.length := by (clear j0 st0 LI hJ st; lia)
    subst hin
    refine it.done m' H' s' _ _ hs' (jInv _ _ _ hJ) st fun h' tk kh => wpAny_execs_nil ?_
    exact hq .next m' H' _ (fin m' H' hJ) (hs'.aside hI LI gI kh) (k1.trans (kstep kh))

theorem ex_while {test body pos Φ} (J : Nat → Loc → AH → Prop) (n : Nat) (h0 : J n m H)
    (turn : ∀ n m' H', J n m' H' → TV C env m' m' H' (isTrue test env (eval test env)) (fun b H2 => if b = true then EX C env m' H2 (execs body env) (fun f m3 H3 => match f with
        | .next | .cont => ∃ k, k < n ∧ J k m3 H3 | .brk => Φ .next m3 H3 | .ret v => Φ (.ret v) m3 H3) else Φ .next m' H2)) :
    EX C env m H (exec (.While test body [] pos) env) Φ := fun hl s Q E hs hq => by
  refine wpAny_While (codeAny_whileLoop (fun k s' => ∃ m' H', St C m' H' s' ∧ J k m' H' ∧ Kp C H H' s.heap s'.heap) ?_ n ⟨m, H, hs, h0, .refl⟩)
  rintro k s' ⟨m', H', hs', hJ, kp⟩
  refine turn k m' H' hJ s' _ _ hs' (vm0 hl) fun b H2 s2 h2 hs2 k2 => ?_
  cases b with
  | true =>
    simp only [if_true] at h2 ⊢
    refine h2 hl s2 _ _ hs2 fun f m3 H3 s3 h3 hs3 k3 => ?_
    have kk := kp.trans (k2.trans k3)
    cases f with
    | next => obtain ⟨j, hj, hJ'⟩ := h3; exact ⟨j, hj, m3, H3, hs3, hJ', kk⟩
    | cont => obtain ⟨j, hj, hJ'⟩ := h3; exact ⟨j, hj, m3, H3, hs3, hJ', kk⟩
    | brk => exact hq .next m3 H3 s3 h3 hs3 kk
    | ret v => exact hq (.ret v) m3 H3 s3 h3 hs3 kk
  | false =>
    simp only [Bool.false_eq_true, if_false] at h2 ⊢
    exact wpAny_execs_nil (hq .next m' H2 s2 h2 hs2 (kp.trans k2))

/-! opaque ends: the walk of a part sees its end as a variable (small proofs) -/
theorem opqK {P K : Loc → AH → Prop} (o : ∀ m' H', P m' H' → K m' H') (h : P m H) : K m H := o _ _ h
theorem opqG {G : Prop} (h : ∀ P : Prop, (G → P) → P) : G := h G id
theorem opqT {P T : Bool → AH → Prop} {b : Bool} (o : ∀ b' H', P b' H' → T b' H') (h : P b H) : T b H := o _ _ h
theorem ex_seqO {st rest Φ} (h : ∀ K : Loc → AH → Prop, (∀ m' H', EX C env m' H' (execs rest env) Φ → K m' H') → EX C env m H (exec st env) (seqP K Φ)) : EX C env m H (execs (st :: rest) env) Φ :=
  ex_seq (h _ fun _ _ p => p)
theorem ex_ifO {test body orelse pos Φ} (h : ∀ T : Bool → AH → Prop, (∀ b H', (if b = true then EX C env m H' (execs body env) Φ else EX C env m H' (execs orelse env) Φ) → T b H') → TV C env m m H (isTrue test env (eval test env)) T) :
    EX C env m H (exec (.If test body orelse pos) env) Φ := ex_if (h _ fun _ _ p => p)
/-- the end of a loop's body -/
@[reducible] noncomputable def forP (K : Loc → AH → Prop) (Φ : AFl → Loc → AH → Prop) : AFl → Loc → AH → Prop := fun f m3 H3 => match f with
  | .next | .cont => K m3 H3 | .brk => Φ .next m3 H3 | .ret v => Φ (.ret v) m3 H3
theorem ex_forO {x : Str} {xp iter body pos Φ} (h : EV C env m m H (eval iter env) (fun v H1 => ∃ items Inv, Src C H1 v items Inv ∧ ∃ J : Nat → Loc → AH → Prop, J 0 m H1 ∧ (∀ i m' H', J i m' H' → Inv H') ∧
      (∀ i a, items[i]? = some a → ∀ m' H', J i m' H' → ∀ K : Loc → AH → Prop, (∀ m3 H3, J (i + 1) m3 H3 → K m3 H3) → SV C env m' H' (storeName env x) a (fun m2 H2 => EX C env m2 H2 (execs body env) (forP K Φ))) ∧
      (∀ m' H', J items.length m' H' → Φ .next m' H')))
    (hs : ∀ x, foldedSetIterable iter env x = pure x := by intro _; rfl) : EX C env m H (exec (.For (.Name x xp) iter body [] pos) env) Φ :=
  ex_for (h.mono fun v H1 ⟨items, Inv, src, J, j0, jI, turn, fin⟩ => ⟨items, Inv, src, J, j0, jI, fun i a e m' H' j => turn i a e m' H' j _ fun _ _ p => p, fin⟩) hs
theorem ex_whileO {test body pos Φ} (J : Nat → Loc → AH → Prop) (n : Nat) (h0 : J n m H)
    (turn : ∀ n m' H', J n m' H' → ∀ K : Loc → AH → Prop, (∀ m3 H3, (∃ k, k < n ∧ J k m3 H3) → K m3 H3) →
      ∀ T : Bool → AH → Prop, (∀ b H2, (if b = true then EX C env m' H2 (execs body env) (forP K Φ) else Φ .next m' H2) → T b H2) → TV C env m' m' H' (isTrue test env (eval test env)) T) :
    EX C env m H (exec (.While test body [] pos) env) Φ :=
  ex_while J n h0 fun n m' H' j => turn n m' H' j _ (fun _ _ p => p) _ fun _ _ p => p
end
--T Fw8

/-- the tests of a comprehension's clause -/
theorem neA {a b : Nat} (h : a ≠ b) : @Ne Addr a b := h
theorem leA {a b : Nat} (h : a ≤ b) : @LE.le Addr _ a b := h
noncomputable abbrev testsT (ifs : List Expr) (env : Env) : Sem Bool := forIn ifs true fun c r => if r = true then do let ok ← isTrue c env (eval c env); pure (ForInStep.yield ok) else pure (ForInStep.yield r)

section
variable {C : Ctx} {env : Env} {vm m : Loc} {H : AH} {s : Shared}
theorem tests_nil {Φ} (h : Φ true H) : TV C env vm m H (testsT [] env) Φ := fun s Q E hs _ hq => wpAny_tests_nil (hq _ _ s h hs .refl)
theorem tests_one {c Φ} (h : TV C env vm m H (isTrue c env (eval c env)) Φ) : TV C env vm m H (testsT [c] env) Φ := fun s Q E hs hv hq => wpAny_tests_one (h s Q E hs hv hq)

theorem Ns.aside {h h' : Heap} {D : Addr} {mm} (hn : h.Ns D mm) (k : ∀ o, h.get? D = some o → h'.get? D = some o) : h'.Ns D mm :=
  let ⟨o, es, ep, e, r⟩ := hn; ⟨o, es, ep, k _ e, r⟩

/-- a list comprehension: one clause, no cells of its own -/
theorem ev_comp {elt iter : Expr} {x : Str} {xp : Pos} {ifs : List Expr} {scope : Scope} {pos : Pos} {Φ} (cl : List (Str × Addr)) (hclos : closureFor scope env = pure cl)
    (h : EV C env vm m H (eval iter env) (fun v H1 => ∃ items Inv, Src C H1 v items Inv ∧ items.length ≤ 1048576 ∧ ∃ J : Nat → List AV → AH → Prop, J 0 [] H1 ∧ (∀ i out H', J i out H' → Inv H') ∧
      (∀ i a, items[i]? = some a → ∀ out H', J i out H' → ∀ D, D ≠ C.L →
        TV C (compEnvC scope cl D env) (fun y => if y = x then some a else none) m H' (testsT ifs (compEnvC scope cl D env)) (fun ok H2 =>
          if ok = true then EV C (compEnvC scope cl D env) (fun y => if y = x then some a else none) m H2 (eval elt (compEnvC scope cl D env)) (fun r H3 => J (i + 1) (out ++ [r]) H3) else J (i + 1) out H2)) ∧
      (∀ out H', J items.length out H' → ∀ l, H' l = none → Φ (.ref l) (H'.set l (.tmp, .list out)))))
    (hcell : ∀ y ∈ scope.names, y.2 ≠ .cell := by decide) (hkind : scope.kind = .function := by rfl)
    (hnames : ∀ y ∈ scope.names, y.2 = .local → scope.names.lookup y.1 = some .local := by decide) (hx : scope.names.lookup x = some .local := by rfl)
    (hfs : ∀ x, foldedSetIterable iter env x = pure x := by intro _; rfl) :
    EV C env vm m H (eval (.ListComp elt [⟨.Name x xp, iter, ifs, 0⟩] scope pos) env) Φ := fun s Q E hs hv hq => by
  rw [eval_ListComp]
  refine wpAny_comprehension_free (use := none) rfl hfs hclos hkind hnames (h s _ E hs hv fun v H1 s1 h1 hs1 k1 => ?_)
  refine opqG (fun goalP goalH => ?_)
  obtain ⟨items, Inv, src, hz, J, j0, jInv, turn, fin⟩ := h1
  all_goals first | (refine goalH ?_; clear goalH goalP) | skip
  refine src m s1 v _ E rfl hs1 fun ob St' hf it st0 => ?_
  refine opqG (fun goalP goalH => ?_)
  obtain ⟨hs2, k2⟩ := hs1.push (ob := ob) (tk := s1.toks)
  all_goals first | (refine goalH ?_; clear goalH goalP) | skip
  have gI := hs1.gfresh
  have LI := hs1.Lne
  -- the list that is grown
  refine wpAny_newObj_type ?_
  refine opqG (fun goalP goalH => ?_)
  obtain ⟨hs3, k3⟩ := hs2.push (ob := { cls := .type "list", data := .seq ([] : List Value).toArray }) (tk := s1.toks)
  all_goals first | (refine goalH ?_; clear goalH goalP) | skip
  have gA := hs2.gfresh
  have LA := hs2.Lne
  have AI : (s1.heap.push ob).objs.size ≠ s1.heap.objs.size := by rw [Heap.size_push]; exact Nat.succ_ne_self _
  generalize hA : (s1.heap.push ob).objs.size = acc at *
  generalize hI : s1.heap.objs.size = I at *
  refine opqG (fun goalP goalH => ?_)
  obtain ⟨hs4, k4⟩ := hs3.push (ob := { cls := .type "dict", data := .dict #[] }) (tk := s1.toks)
  all_goals first | (refine goalH ?_; clear goalH goalP) | skip
  have gD := hs3.gfresh
  have LD := hs3.Lne
  refine wpAny_newFunctionEnv hcell (by intro y hy; cases hy) (fun h₁ hns₁ hsb₁ => ?_) hkind
  dsimp only [newEnv, Option.isSome_some, if_true] at hns₁ hsb₁ gD LD ⊢
  have hDa : ((s1.heap.push ob).push { cls := .type "list", dict := none, data := .seq ([] : List Value).toArray }).objs.size = acc + 1 := by rw [Heap.size_push, hA]
  generalize ((s1.heap.push ob).push { cls := .type "list", dict := none, data := .seq ([] : List Value).toArray }).objs.size = D at *
  have untr : ∀ {m H} {s : Shared} {i}, St C m H s → St' i s.heap → H I = none := fun hs st => by
    obtain ⟨o, e, vs, hd, hc⟩ := it.there _ _ st; exact hs.notIter e hd hc
  have hIacc : acc = I + 1 := by rw [← hA, Heap.size_push, hI]
  have hacc0 : h₁.PlainList acc #[] := by
    refine ⟨0, (hsb₁.2 acc (neA (by (clear hz j0 st0 hA LA hI LI AI LD hIacc; lia)))).trans (Heap.get?_push_of_some _ ?_)⟩
    have := Heap.get?_push_size (s1.heap.push ob) (o := { cls := .type "list", data := .seq #[] }) rfl
    rw [hA] at this; exact this
  have hlt1 : ∀ (b : Nat) o, s1.heap.get? b = some o → @LT.lt Nat _ b I := fun b o e => hI ▸ Heap.lt_size e
  have hnone : ∀ b : Addr, I ≤ b → H1 b = none := fun b hb => by
    cases q : H1 b with
    | none => rfl
    | some z => have := hs1.lt (t := z.1) (o := z.2) q; rw [hI] at this; exact absurd (Nat.lt_of_lt_of_le this hb) (Nat.lt_irrefl _)
  have hst4 : St C m H1 { s1 with heap := h₁, toks := s1.toks + ([] : List (Str × Value)).length } :=
    hs4.aside (I := D) (hnone D (leA (by (clear hz j0 st0 hA LA hI LI AI LD; lia)))) LD gD fun b o hb e => (hsb₁.2 b hb).trans e
  have hkp4 : Kp C H1 H1 s1.heap h₁ := fun b o e n l => by
    have hb := hlt1 b o e
    exact ⟨(hsb₁.2 b (neA (by (clear hz j0 st0 hA LA hI LI AI LD; lia)))).trans (Heap.get?_push_of_some _ (Heap.get?_push_of_some _ (Heap.get?_push_of_some _ e))), n⟩
  have hit4 : St' 0 h₁ := it.frame _ _ _ st0 fun o e => (hsb₁.2 I (neA (by (clear hz j0 st0 hA LA hI LI AI LD; lia)))).trans (Heap.get?_push_of_some _ (Heap.get?_push_of_some _ e))
  have loop : codeAny (model PG C.w) C.A (.compLoop (.ListComp elt [⟨.Name x xp, iter, ifs, 0⟩] scope pos) 0 (.ref I) (.ref acc) (compEnvC scope cl D env)) (compPost (model PG C.w) C.A E none Q (.ref acc) D) { s1 with heap := h₁, toks := s1.toks + ([] : List (Str × Value)).length } := by
    refine codeAny_compLoop_tests (fun k s' => ∃ i out H' ys mm, k = items.length + 1 - i ∧ i ≤ items.length ∧ St C m H' s' ∧ J i out H' ∧ St' i s'.heap ∧ Kp C H1 H' s1.heap s'.heap ∧ s'.heap.PlainList acc ys ∧ ys.toList.map er = out ∧ out.length ≤ i ∧
        s'.heap.Ns D mm ∧ H' acc = none ∧ H' D = none) ?_ (items.length + 1)
      ⟨0, [], H1, #[], _, rfl, Nat.zero_le _, hst4, j0, hit4, hkp4, hacc0, rfl, Nat.zero_le _, hns₁, hnone acc (leA (by (clear hz j0 st0 hA LA hI LI AI LD hit4; lia))), hnone D (leA (by (clear hz j0 st0 hA LA hI LI AI LD hit4; lia)))⟩
    intro k s' goalQ
    refine opqG (fun goalP goalH => ?_)
    obtain ⟨i, out, H', ys, mm, rfl, hi, hs', hJ, st, kp, hacc, hys, hol, hns, hHa, hHd⟩ := goalQ
    all_goals first | (refine goalH ?_; clear goalH goalP) | skip
    have hI' := untr hs' st
    by_cases hlt : i < items.length
    · refine opqG (fun goalP goalH => ?_)
      obtain ⟨a, ha⟩ : ∃ a, items[i]? = some a := ⟨items[i], by simp [hlt]⟩
      all_goals first | (refine goalH ?_; clear goalH goalP) | skip
      refine it.next i m H' s' _ _ hs' (jInv _ _ _ hJ) st a ha fun v h' tk ev st' kh => ?_
      have hs3 : St C m H' { s' with heap := h', toks := tk } := hs'.aside hI' LI gI kh
      have hns' : h'.Ns D mm := Ns.aside hns fun o e => kh _ o (neA (by (clear hz j0 st0 hA LA hI LI AI LD hit4 hi hJ st hol hlt st'; lia))) e
      refine wpAny_assign_Name (wpAny_storeName_local (env := compEnvC scope cl D env) (lookup_relabel_local hx) hns' (fun h2 hn2 sb2 => ?_) (by simp [compEnvC, relabel, hkind]))
      replace sb2 : Heap.SameBut D h' h2 := sb2
      have hs4 : St C m H' { s' with heap := h2, toks := tk + 1 } := hs3.aside (I := D) hHd LD gD fun b o hb e => (sb2.2 b hb).trans e
      refine opqG (fun goalP goalH => ?_)
      obtain ⟨na, ea⟩ : h2.PlainList acc ys := by
        obtain ⟨n, e⟩ := hacc
        exact ⟨n, (sb2.2 acc (neA (by (clear hz j0 st0 hA LA hI LI AI LD hIacc hit4 hi hJ st hol hlt st'; lia)))).trans (kh _ _ AI e)⟩
      all_goals first | (refine goalH ?_; clear goalH goalP) | skip
      have st2 : St' (i + 1) h2 := it.frame _ _ _ st' fun o e => (sb2.2 I (neA (by (clear hz j0 st0 hA LA hI LI AI LD hit4 hi hJ st hol hlt st'; lia)))).trans e
      have hvm : VM C (compEnvC scope cl D env) (fun y => if y = x then some a else none) m H' h2 := by
        refine .inr ⟨LD, hHd, _, hn2, fun y b e => ?_⟩
        by_cases q : y = x
        · simp only [q, if_true] at e ⊢; cases e; rw [← ev]; rfl
        · simp only [q, if_false] at e; cases e
      have kp2 : Kp C H1 H' s1.heap h2 := fun b o e n l => by
        refine opqG (fun goalP goalH => ?_)
        obtain ⟨p, q⟩ := kp b o e n l
        all_goals first | (refine goalH ?_; clear goalH goalP) | skip
        have := hlt1 b o e
        exact ⟨(sb2.2 b (neA (by (clear hz j0 st0 hA LA hI LI AI LD hit4 hi hJ st hol hlt st' st2; lia)))).trans (kh b o (neA (by (clear hz j0 st0 hA LA hI LI AI LD hit4 hi hJ st hol hlt st' st2; omega))) p), q⟩
      refine turn i a ha out H' hJ D LD _ _ _ hs4 hvm fun ok H3 s5 h5 hs5 k5 => ?_
      refine opqG (fun goalP goalH => ?_)
      obtain ⟨oI, eI, vsI, dI, cI⟩ := it.there _ _ st2
      all_goals first | (refine goalH ?_; clear goalH goalP) | skip
      -- what an evaluation behind leaves
      have after : ∀ (H6 : AH) (s6 : Shared), Kp C H' H6 h2 s6.heap → s6.heap.get? acc = some { cls := .type "list", data := .seq ys na } ∧ H6 acc = none ∧ H6 D = none ∧ H6 I = none ∧ (∃ mm, s6.heap.Ns D mm) ∧ St' (i + 1) s6.heap := fun H6 s6 k6 => by
        refine opqG (fun goalP goalH => ?_)
        obtain ⟨a1, a2⟩ := k6 acc _ ea hHa LA
        all_goals first | (refine goalH ?_; clear goalH goalP) | skip
        refine opqG (fun goalP goalH => ?_)
        obtain ⟨oD, es, ep, eD, rD⟩ := hn2
        all_goals first | (refine goalH ?_; clear goalH goalP) | skip
        refine opqG (fun goalP goalH => ?_)
        obtain ⟨b1, b2⟩ := k6 D _ eD hHd LD
        all_goals first | (refine goalH ?_; clear goalH goalP) | skip
        refine opqG (fun goalP goalH => ?_)
        obtain ⟨c1, c2⟩ := k6 I _ eI hI' LI
        all_goals first | (refine goalH ?_; clear goalH goalP) | skip
        exact ⟨a1, a2, b2, c2, ⟨_, oD, es, ep, b1, rD⟩, it.frame _ _ _ st2 fun o e => by rw [eI] at e; cases e; exact c1⟩
      cases ok with
      | true =>
        simp only [if_true] at h5 ⊢
        refine h5 s5 _ _ hs5 (hvm.step k5) fun r H4 s6 h6 hs6 k6 => ?_
        refine opqG (fun goalP goalH => ?_)
        obtain ⟨a1, a2, a3, a4, ⟨mm6, a5⟩, a6⟩ := after H4 s6 (k5.trans k6)
        all_goals first | (refine goalH ?_; clear goalH goalP) | skip
        have hlen : ys.size ≤ sizeLine := by
          have e1 : ys.toList.length = out.length := by rw [← hys, List.length_map]
          have e2 : ys.size = out.length := by rw [← e1]; simp
          have := sizeLine_big; (clear j0 st0 hA LA hI LI AI LD hDa hIacc hit4 hi hJ st st' st2 cI h6 a6; lia)
        refine wpAny_list_append_plain ⟨na, a1⟩ (fun h7 hacc7 sb7 => ?_) hlen
        have hs7 : St C m H4 { s6 with heap := h7 } := hs6.aside (I := acc) (tk := s6.toks) a2 LA gA fun b o hb e => (sb7.2 b hb).trans e
        have kp7 := kp2.trans (k5.trans k6)
        refine ⟨items.length + 1 - (i + 1), by (clear hz j0 st0 hA LA hI LI AI LD hDa hIacc hit4 hi hJ st hol st' st2 cI h6 a6 hlen; omega), i + 1, out ++ [er r], H4, ys.push r, mm6, rfl, hlt, hs7, h6, ?_, fun b o e n l => ?_, hacc7, by simp [hys], by simp; (clear hz j0 st0 hA LA hI LI AI LD hDa hIacc hit4 hi hJ st hlt st' st2 cI h6 a6 hlen; omega), a5.sameBut sb7 (neA (by (clear hz j0 st0 hA LA hI LI AI LD hIacc hit4 hi hJ st hol hlt st' st2 cI h6 a6 hlen; lia))), a2, a3⟩
        · exact it.frame _ _ _ a6 fun o e => (sb7.2 I (neA (by (clear hz j0 st0 hA LA hI LI AI LD hit4 hi hJ st hol hlt st' st2 cI h6 a6 hlen; lia)))).trans e
        · refine opqG (fun goalP goalH => ?_)
          obtain ⟨p, q⟩ := kp7 b o e n l
          all_goals first | (refine goalH ?_; clear goalH goalP) | skip
          have := hlt1 b o e
          exact ⟨(sb7.2 b (neA (by (clear hz j0 st0 hA LA hI LI AI LD hit4 hi hJ st hol hlt st' st2 cI h6 a6 hlen; lia)))).trans p, q⟩
      | false =>
        simp only [Bool.false_eq_true, if_false] at h5 ⊢
        refine opqG (fun goalP goalH => ?_)
        obtain ⟨a1, a2, a3, a4, ⟨mm6, a5⟩, a6⟩ := after H3 s5 k5
        all_goals first | (refine goalH ?_; clear goalH goalP) | skip
        exact ⟨items.length + 1 - (i + 1), by (clear hz j0 st0 hA LA hI LI AI LD hDa hIacc hit4 hi hJ st hol st' st2 cI h5 a6; omega), i + 1, out, H3, ys, mm6, rfl, hlt, hs5, h5, a6, kp2.trans k5, ⟨na, a1⟩, hys, by (clear hz j0 st0 hA LA hI LI AI LD hDa hIacc hit4 hi hJ st hlt st' st2 cI h5 a6; lia), a5, a2, a3⟩
    · have hin : i = items.length := by (clear hz j0 st0 hA LA hI LI AI LD hDa hIacc hit4 hJ st hol; lia)
      subst hin
      refine it.done m H' s' _ _ hs' (jInv _ _ _ hJ) st fun h' tk kh => ?_
      have hs3 : St C m H' { s' with heap := h', toks := tk } := hs'.aside hI' LI gI kh
      refine ⟨mm, Ns.aside hns fun o e => kh _ o (neA (by (clear hz j0 st0 hA LA hI LI AI LD hit4 hi hJ st hol hlt; lia))) e, fun h8 sb8 => ?_⟩
      have hs8 : St C m H' { s' with heap := h8, toks := tk } := hs3.aside (I := D) hHd LD gD fun b o hb e => (sb8.2 b hb).trans e
      refine opqG (fun goalP goalH => ?_)
      obtain ⟨na, ea⟩ := hacc
      all_goals first | (refine goalH ?_; clear goalH goalP) | skip
      have e8 : h8.get? acc = some { cls := .type "list", data := .seq ys na } := (sb8.2 acc (neA (by (clear hz j0 st0 hA LA hI LI AI LD hIacc hit4 hi hJ st hol hlt; lia)))).trans (kh _ _ AI ea)
      -- the list is tracked from here on
      refine hq (.ref acc) (H'.set acc (.tmp, .list out)) _ (fin out H' hJ acc hHa) ⟨hs8.fr, fun b u p hb => ?_, hs8.sr⟩ (k1.trans fun b o e n l => ?_)
      · by_cases q : b = acc
        · subst q
          rw [AH.set_self] at hb; cases hb
          exact ⟨_, e8, ⟨ys.toList, na, by simp, hys⟩, LA, gA, by have := hs1.low; rw [hI] at this; exact Nat.lt_trans this (show @LT.lt Nat _ I _ by (clear hz j0 st0 hI LI LD hit4 hi hJ st hol hlt hA LA AI this; lia))⟩
        · rw [AH.set_ne q] at hb
          exact hs8.hr b u p hb
      · refine opqG (fun goalP goalH => ?_)
        obtain ⟨p, q⟩ := kp b o e n l
        all_goals first | (refine goalH ?_; clear goalH goalP) | skip
        have := hlt1 b o e
        exact ⟨(sb8.2 b (neA (by (clear hz j0 st0 hA LA hI LI AI LD hit4 hi hJ st hol hlt; lia)))).trans (kh b o (neA (by (clear hz j0 st0 hA LA hI LI AI LD hit4 hi hJ st hol hlt; omega))) p), by rw [AH.set_ne (neA (by (clear hz j0 st0 hA LA hI LI AI LD hit4 hi hJ st hol hlt; lia)))]; exact q⟩
  exact codeAny_compStart_list loop (it.self 0 _ _ _ hit4 loop)
end
--T Fw9
section
variable {C : Ctx} {env : Env} {vm m : Loc} {H : AH} {s : Shared}
theorem newDict_isDictOf {w : World} : Obj.IsDictOf (intKind PG w) { cls := .type "dict", data := .dict #[] } [] :=
  ⟨#[], 0, ⟨rfl, rfl, rfl⟩, rfl, fun _ h => by simp at h, Pairs.nil, List.nodup_nil⟩
/-- a dict comprehension over ints: one clause, no test, no cells of its own -/
theorem ev_dcomp {kx vx iter : Expr} {x : Str} {xp : Pos} {scope : Scope} {pos : Pos} {Φ} (cl : List (Str × Addr)) (hclos : closureFor scope env = pure cl)
    (h : EV C env vm m H (eval iter env) (fun v H1 => ∃ items Inv, Src C H1 v items Inv ∧ items.length ≤ 1048576 ∧ ∃ J : Nat → List (Int × AV) → AH → Prop, J 0 [] H1 ∧ (∀ i out H', J i out H' → Inv H') ∧
      (∀ i a, items[i]? = some a → ∀ out H', J i out H' → ∀ D, D ≠ C.L →
        EV C (compEnvC scope cl D env) (fun y => if y = x then some a else none) m H' (eval kx (compEnvC scope cl D env)) (fun kr H2 => ∃ k, kr = .int k ∧
          EV C (compEnvC scope cl D env) (fun y => if y = x then some a else none) m H2 (eval vx (compEnvC scope cl D env)) (fun r H3 => J (i + 1) (istore out k r) H3))) ∧
      (∀ out H', J items.length out H' → ∀ l, H' l = none → Φ (.ref l) (H'.set l (.tmp, .idict out)))))
    (hcell : ∀ y ∈ scope.names, y.2 ≠ .cell := by decide) (hkind : scope.kind = .function := by rfl)
    (hnames : ∀ y ∈ scope.names, y.2 = .local → scope.names.lookup y.1 = some .local := by decide) (hx : scope.names.lookup x = some .local := by rfl)
    (hfs : ∀ x, foldedSetIterable iter env x = pure x := by intro _; rfl) :
    EV C env vm m H (eval (.DictComp kx vx [⟨.Name x xp, iter, [], 0⟩] scope pos) env) Φ := fun s Q E hs hv hq => by
  rw [arm_eval_DictComp]
  refine wpAny_comprehension_free (use := none) rfl hfs hclos hkind hnames (h s _ E hs hv fun v H1 s1 h1 hs1 k1 => ?_)
  refine opqG (fun goalP goalH => ?_)
  obtain ⟨items, Inv, src, hz, J, j0, jInv, turn, fin⟩ := h1
  all_goals first | (refine goalH ?_; clear goalH goalP) | skip
  refine src m s1 v _ E rfl hs1 fun ob St' hf it st0 => ?_
  refine opqG (fun goalP goalH => ?_)
  obtain ⟨hs2, k2⟩ := hs1.push (ob := ob) (tk := s1.toks)
  all_goals first | (refine goalH ?_; clear goalH goalP) | skip
  have gI := hs1.gfresh
  have LI := hs1.Lne
  -- the dict that is filled
  refine wpAny_newObj_type ?_
  refine opqG (fun goalP goalH => ?_)
  obtain ⟨hs3, k3⟩ := hs2.push (ob := { cls := .type "dict", data := .dict #[] }) (tk := s1.toks)
  all_goals first | (refine goalH ?_; clear goalH goalP) | skip
  have gA := hs2.gfresh
  have LA := hs2.Lne
  have AI : (s1.heap.push ob).objs.size ≠ s1.heap.objs.size := by rw [Heap.size_push]; exact Nat.succ_ne_self _
  generalize hA : (s1.heap.push ob).objs.size = acc at *
  generalize hI : s1.heap.objs.size = I at *
  refine opqG (fun goalP goalH => ?_)
  obtain ⟨hs4, k4⟩ := hs3.push (ob := { cls := .type "dict", data := .dict #[] }) (tk := s1.toks)
  all_goals first | (refine goalH ?_; clear goalH goalP) | skip
  have gD := hs3.gfresh
  have LD := hs3.Lne
  refine wpAny_newFunctionEnv hcell (by intro y hy; cases hy) (fun h₁ hns₁ hsb₁ => ?_) hkind
  dsimp only [newEnv, Option.isSome_some, if_true] at hns₁ hsb₁ gD LD ⊢
  have hDa : ((s1.heap.push ob).push { cls := .type "dict", dict := none, data := .dict #[] }).objs.size = acc + 1 := by rw [Heap.size_push, hA]
  generalize ((s1.heap.push ob).push { cls := .type "dict", dict := none, data := .dict #[] }).objs.size = D at *
  have untr : ∀ {m H} {s : Shared} {i}, St C m H s → St' i s.heap → H I = none := fun hs st => by
    obtain ⟨o, e, vs, hd, hc⟩ := it.there _ _ st; exact hs.notIter e hd hc
  have hIacc : acc = I + 1 := by rw [← hA, Heap.size_push, hI]
  have hacc0 : ∃ ob', h₁.get? acc = some ob' ∧ ob'.IsDictOf (intKind PG C.w) [] := by
    refine ⟨{ cls := .type "dict", data := .dict #[] }, (hsb₁.2 acc (neA (by (clear hz j0 st0 hA LA hI LI AI LD hIacc; lia)))).trans (Heap.get?_push_of_some _ ?_), ?_⟩
    · have := Heap.get?_push_size (s1.heap.push ob) (o := { cls := .type "dict", data := .dict #[] }) rfl
      rw [hA] at this; exact this
    · exact newDict_isDictOf
  have hlt1 : ∀ (b : Nat) o, s1.heap.get? b = some o → @LT.lt Nat _ b I := fun b o e => hI ▸ Heap.lt_size e
  have hnone : ∀ b : Addr, I ≤ b → H1 b = none := fun b hb => by
    cases q : H1 b with
    | none => rfl
    | some z => have := hs1.lt (t := z.1) (o := z.2) q; rw [hI] at this; exact absurd (Nat.lt_of_lt_of_le this hb) (Nat.lt_irrefl _)
  have hst4 : St C m H1 { s1 with heap := h₁, toks := s1.toks + ([] : List (Str × Value)).length } :=
    hs4.aside (I := D) (hnone D (leA (by (clear hz j0 st0 hA LA hI LI AI LD hacc0; lia)))) LD gD fun b o hb e => (hsb₁.2 b hb).trans e
  have hkp4 : Kp C H1 H1 s1.heap h₁ := fun b o e n l => by
    have hb := hlt1 b o e
    exact ⟨(hsb₁.2 b (neA (by (clear hz j0 st0 hA LA hI LI AI LD hacc0; lia)))).trans (Heap.get?_push_of_some _ (Heap.get?_push_of_some _ (Heap.get?_push_of_some _ e))), n⟩
  have hit4 : St' 0 h₁ := it.frame _ _ _ st0 fun o e => (hsb₁.2 I (neA (by (clear hz j0 st0 hA LA hI LI AI LD hacc0; lia)))).trans (Heap.get?_push_of_some _ (Heap.get?_push_of_some _ e))
  refine opqG (fun goalP goalH => ?_)
  obtain ⟨ob0, eob0, hob0⟩ := hacc0
  all_goals first | (refine goalH ?_; clear goalH goalP) | skip
  have loop : codeAny (model PG C.w) C.A (.compLoop (.DictComp kx vx [⟨.Name x xp, iter, [], 0⟩] scope pos) 0 (.ref I) (.ref acc) (compEnvC scope cl D env)) (compPost (model PG C.w) C.A E none Q (.ref acc) D) { s1 with heap := h₁, toks := s1.toks + ([] : List (Str × Value)).length } := by
    refine codeAny_compLoop_testsD (fun k s' => ∃ i out H' ob' kvs' mm, k = items.length + 1 - i ∧ i ≤ items.length ∧ St C m H' s' ∧ J i out H' ∧ St' i s'.heap ∧ Kp C H1 H' s1.heap s'.heap ∧ s'.heap.get? acc = some ob' ∧ ob'.IsDictOf (intKind PG C.w) kvs' ∧ kvs'.map erk = out ∧ out.length ≤ i ∧
        s'.heap.Ns D mm ∧ H' acc = none ∧ H' D = none) ?_ (items.length + 1)
      ⟨0, [], H1, ob0, [], _, rfl, Nat.zero_le _, hst4, j0, hit4, hkp4, eob0, hob0, rfl, Nat.zero_le _, hns₁, hnone acc (leA (by (clear hz j0 st0 hA LA hI LI AI LD hit4; lia))), hnone D (leA (by (clear hz j0 st0 hA LA hI LI AI LD hit4; lia)))⟩
    intro k s' goalQ
    refine opqG (fun goalP goalH => ?_)
    obtain ⟨i, out, H', ob', kvs', mm, rfl, hi, hs', hJ, st, kp, eacc, hacc, hys, hol, hns, hHa, hHd⟩ := goalQ
    all_goals first | (refine goalH ?_; clear goalH goalP) | skip
    have hI' := untr hs' st
    by_cases hlt : i < items.length
    · refine opqG (fun goalP goalH => ?_)
      obtain ⟨a, ha⟩ : ∃ a, items[i]? = some a := ⟨items[i], by simp [hlt]⟩
      all_goals first | (refine goalH ?_; clear goalH goalP) | skip
      refine it.next i m H' s' _ _ hs' (jInv _ _ _ hJ) st a ha fun v h' tk ev st' kh => ?_
      have hs3 : St C m H' { s' with heap := h', toks := tk } := hs'.aside hI' LI gI kh
      have hns' : h'.Ns D mm := Ns.aside hns fun o e => kh _ o (neA (by (clear hz j0 st0 hA LA hI LI AI LD hit4 hi hJ st hol hlt st'; lia))) e
      refine wpAny_assign_Name (wpAny_storeName_local (env := compEnvC scope cl D env) (lookup_relabel_local hx) hns' (fun h2 hn2 sb2 => ?_) (by simp [compEnvC, relabel, hkind]))
      replace sb2 : Heap.SameBut D h' h2 := sb2
      have hs4 : St C m H' { s' with heap := h2, toks := tk + 1 } := hs3.aside (I := D) hHd LD gD fun b o hb e => (sb2.2 b hb).trans e
      have ea : h2.get? acc = some ob' := (sb2.2 acc (neA (by (clear hz j0 st0 hA LA hI LI AI LD hIacc hit4 hi hJ st hol hlt st'; lia)))).trans (kh _ _ AI eacc)
      have st2 : St' (i + 1) h2 := it.frame _ _ _ st' fun o e => (sb2.2 I (neA (by (clear hz j0 st0 hA LA hI LI AI LD hit4 hi hJ st hol hlt st'; lia)))).trans e
      have hvm : VM C (compEnvC scope cl D env) (fun y => if y = x then some a else none) m H' h2 := by
        refine .inr ⟨LD, hHd, _, hn2, fun y b e => ?_⟩
        by_cases q : y = x
        · simp only [q, if_true] at e ⊢; cases e; rw [← ev]; rfl
        · simp only [q, if_false] at e; cases e
      have kp2 : Kp C H1 H' s1.heap h2 := fun b o e n l => by
        refine opqG (fun goalP goalH => ?_)
        obtain ⟨p, q⟩ := kp b o e n l
        all_goals first | (refine goalH ?_; clear goalH goalP) | skip
        have := hlt1 b o e
        exact ⟨(sb2.2 b (neA (by (clear hz j0 st0 hA LA hI LI AI LD hit4 hi hJ st hol hlt st' st2; lia)))).trans (kh b o (neA (by (clear hz j0 st0 hA LA hI LI AI LD hit4 hi hJ st hol hlt st' st2; omega))) p), q⟩
      refine opqG (fun goalP goalH => ?_)
      obtain ⟨oI, eI, vsI, dI, cI⟩ := it.there _ _ st2
      all_goals first | (refine goalH ?_; clear goalH goalP) | skip
      refine wpAny_tests_nil ?_
      simp only [if_true]
      refine turn i a ha out H' hJ D LD _ _ _ hs4 hvm fun kr H3 s5 h5 hs5 k5 => ?_
      refine opqG (fun goalP goalH => ?_)
      obtain ⟨k, hk, h5⟩ := h5
      all_goals first | (refine goalH ?_; clear goalH goalP) | skip
      refine opqG (fun goalP goalH => ?_)
      obtain ⟨u, rfl⟩ := er_int hk
      all_goals first | (refine goalH ?_; clear goalH goalP) | skip
      refine h5 s5 _ _ hs5 (hvm.step k5) fun r H4 s6 h6 hs6 k6 => ?_
      have k56 := k5.trans k6
      refine opqG (fun goalP goalH => ?_)
      obtain ⟨a1, a2⟩ := k56 acc _ ea hHa LA
      all_goals first | (refine goalH ?_; clear goalH goalP) | skip
      refine opqG (fun goalP goalH => ?_)
      obtain ⟨oD, es, ep, eD, rD⟩ := hn2
      all_goals first | (refine goalH ?_; clear goalH goalP) | skip
      refine opqG (fun goalP goalH => ?_)
      obtain ⟨b1, b2⟩ := k56 D _ eD hHd LD
      all_goals first | (refine goalH ?_; clear goalH goalP) | skip
      refine opqG (fun goalP goalH => ?_)
      obtain ⟨c1, c2⟩ := k56 I _ eI hI' LI
      all_goals first | (refine goalH ?_; clear goalH goalP) | skip
      have hlen : kvs'.length ≤ sizeLine := by
        have e1 : kvs'.length = out.length := by rw [← hys, List.length_map]
        have := sizeLine_big; (clear j0 st0 hA LA hI LI AI LD hDa hIacc hit4 hi hJ st st' st2 cI h6 rD; lia)
      refine wpAny_dictSet_pairs (knd := intKind PG C.w) (hsz := hlen) (intKind_is _ _ _ _) (Heap.dictOf_iff.mpr ⟨ob', a1, hacc⟩) fun h7 hm7 sb7 => ?_
      refine opqG (fun goalP goalH => ?_)
      obtain ⟨ob7, eo7, ho7⟩ := Heap.dictOf_iff.mp hm7
      all_goals first | (refine goalH ?_; clear goalH goalP) | skip
      have hs7 : St C m H4 { s6 with heap := h7, toks := s6.toks + 1 } := hs6.aside (I := acc) a2 LA gA fun b o hb e => (sb7.2 b hb).trans e
      have kp7 := kp2.trans k56
      have hst : (stored kvs' k r).map erk = istore out k (er r) := by rw [istore_of, hys]
      have hln : (istore out k (er r)).length ≤ i + 1 := by unfold istore; split <;> simp <;> omega
      refine ⟨items.length + 1 - (i + 1), by (clear hz j0 st0 hA LA hI LI AI LD hDa hIacc hit4 hi hJ st hol st' st2 cI h6 rD hlen hln; omega), i + 1, _, H4, ob7, _, _, rfl, hlt, hs7, h6, ?_, fun b o e n l => ?_, eo7, ho7, hst, hln, Heap.Ns.sameBut ⟨oD, es, ep, b1, rD⟩ sb7 (neA (by (clear hz j0 st0 hA LA hI LI AI LD hIacc hit4 hi hJ st hol hlt st' st2 cI h6 rD hlen hln; lia))), a2, b2⟩
      · exact it.frame _ _ _ st2 fun o e => by rw [eI] at e; cases e; exact (sb7.2 I (neA (by (clear hz j0 st0 hA LA hI LI AI LD hit4 hi hJ st hol hlt st' st2 cI h6 rD hlen hln; lia)))).trans c1
      · refine opqG (fun goalP goalH => ?_)
        obtain ⟨p, q⟩ := kp7 b o e n l
        all_goals first | (refine goalH ?_; clear goalH goalP) | skip
        have := hlt1 b o e
        exact ⟨(sb7.2 b (neA (by (clear hz j0 st0 hA LA hI LI AI LD hit4 hi hJ st hol hlt st' st2 cI h6 rD hlen hln; lia)))).trans p, q⟩
    · have hin : i = items.length := by (clear hz j0 st0 hA LA hI LI AI LD hDa hIacc hit4 hJ st hol; lia)
      subst hin
      refine it.done m H' s' _ _ hs' (jInv _ _ _ hJ) st fun h' tk kh => ?_
      have hs3 : St C m H' { s' with heap := h', toks := tk } := hs'.aside hI' LI gI kh
      refine ⟨mm, Ns.aside hns fun o e => kh _ o (neA (by (clear hz j0 st0 hA LA hI LI AI LD hit4 hi hJ st hol hlt; lia))) e, fun h8 sb8 => ?_⟩
      have hs8 : St C m H' { s' with heap := h8, toks := tk } := hs3.aside (I := D) hHd LD gD fun b o hb e => (sb8.2 b hb).trans e
      have e8 : h8.get? acc = some ob' := (sb8.2 acc (neA (by (clear hz j0 st0 hA LA hI LI AI LD hIacc hit4 hi hJ st hol hlt; lia)))).trans (kh _ _ AI eacc)
      -- the dict is tracked from here on
      refine hq (.ref acc) (H'.set acc (.tmp, .idict out)) _ (fin out H' hJ acc hHa) ⟨hs8.fr, fun b u p hb => ?_, hs8.sr⟩ (k1.trans fun b o e n l => ?_)
      · by_cases q : b = acc
        · subst q
          rw [AH.set_self] at hb; cases hb
          exact ⟨_, e8, ⟨kvs', hacc, hys⟩, LA, gA, by have := hs1.low; rw [hI] at this; exact Nat.lt_trans this (show @LT.lt Nat _ I _ by (clear hz j0 st0 hI LI LD hit4 hi hJ st hol hlt hA LA AI this; lia))⟩
        · rw [AH.set_ne q] at hb
          exact hs8.hr b u p hb
      · refine opqG (fun goalP goalH => ?_)
        obtain ⟨p, q⟩ := kp b o e n l
        all_goals first | (refine goalH ?_; clear goalH goalP) | skip
        have := hlt1 b o e
        exact ⟨(sb8.2 b (neA (by (clear hz j0 st0 hA LA hI LI AI LD hit4 hi hJ st hol hlt; lia)))).trans (kh b o (neA (by (clear hz j0 st0 hA LA hI LI AI LD hit4 hi hJ st hol hlt; omega))) p), by rw [AH.set_ne (neA (by (clear hz j0 st0 hA LA hI LI AI LD hit4 hi hJ st hol hlt; lia)))]; exact q⟩
  exact codeAny_compStart_dict loop (it.self 0 _ _ _ hit4 loop)
end
--T Fw10

section
variable {C : Ctx} {env : Env} {vm m : Loc} {H : AH} {s : Shared}
/-- the heap grew by a thing at D -/
theorem St.grown {t : Tag} {D : Addr} {ob : Obj} {o : AO} {h' : Heap} {tk : Nat} (hs : St C m H s) (k : ∀ b x, s.heap.get? b = some x → h'.get? b = some x) (hD : s.heap.get? D = none) (low : sysModules < D)
    (e : h'.get? D = some ob) (rep : o.rep C.w ob) : St C m (H.set D (t, o)) { s with heap := h', toks := tk } ∧ Kp C H (H.set D (t, o)) s.heap h' ∧ H D = none := by
  obtain ⟨mm, F, r⟩ := hs.fr
  have hn : H D = none := by
    cases q : H D with
    | none => rfl
    | some x => obtain ⟨ob1, e1, _⟩ := hs.hr D x.1 x.2 q; rw [hD] at e1; cases e1
  refine ⟨⟨⟨mm, F.keeps k, r⟩, fun b u p hb => ?_, ?_⟩, fun b x hb hn' hl => ⟨k b x hb, ?_⟩, hn⟩
  · by_cases q : b = D
    · subst q
      rw [AH.set_self] at hb; cases hb
      refine ⟨ob, e, rep, ?_, ?_, low⟩
      · rintro rfl; obtain ⟨oL, _, _, hL, _⟩ := F.ns; rw [hD] at hL; cases hL
      · cases q : C.g.get? b with
        | none => rfl
        | some x => have := F.keep b x q; rw [hD] at this; cases this
    · rw [AH.set_ne q] at hb
      obtain ⟨ob1, e1, r1, n1, g1⟩ := hs.hr b u p hb
      exact ⟨ob1, k b ob1 e1, r1, n1, g1⟩
  · obtain ⟨h0, tk0, e0⟩ := hs.sr; exact ⟨h', tk, by rw [e0]⟩
  · rw [AH.set_ne (by rintro rfl; rw [hD] at hb; cases hb)]; exact hn'
theorem St.keeps {h' : Heap} {tk : Nat} (hs : St C m H s) (k : ∀ b x, s.heap.get? b = some x → h'.get? b = some x) : St C m H { s with heap := h', toks := tk } ∧ Kp C H H s.heap h' := by
  obtain ⟨mm, F, r⟩ := hs.fr
  refine ⟨⟨⟨mm, F.keeps k, r⟩, fun b u p hb => ?_, ?_⟩, fun b x hb hn' hl => ⟨k b x hb, hn'⟩⟩
  · obtain ⟨ob1, e1, r1, n1, g1⟩ := hs.hr b u p hb
    exact ⟨ob1, k b ob1 e1, r1, n1, g1⟩
  · obtain ⟨h0, tk0, e0⟩ := hs.sr; exact ⟨h', tk, by rw [e0]⟩
theorem St.nosize (hs : St C m H s) : s.heap.get? s.heap.objs.size = none := Heap.get?_none_of_le (Nat.le_refl _)
theorem News.keepAll {h' : Heap} {mm : Str → Option Value} {x : Addr × Obj} {F₀ : Fr C.g C.L s.heap mm} (F' : Fr C.g C.L h' mm) (N' : News C.g C.L h' (x :: allOf C.g C.L s.heap)) :
    ∀ b o, b ≠ C.L → s.heap.get? b = some o → h'.get? b = some o := fun b o nL e => by
  cases g : C.g.get? b with
  | some y => have := F₀.keep b y g; rw [e] at this; cases this; exact F'.keep b o g
  | none => exact (N' (b, o) (.tail _ (allOf_mem.mpr ⟨nL, g, e⟩))).1
theorem St.byNewsNew {t : Tag} {ob : Obj} {o : AO} {h' : Heap} {tk : Nat} {mm : Str → Option Value} (hs : St C m H s) (F₀ : Fr C.g C.L s.heap mm) (r : LocRep m mm) (F' : Fr C.g C.L h' mm)
    (N' : News C.g C.L h' ((s.heap.objs.size, ob) :: allOf C.g C.L s.heap)) (rep : o.rep C.w ob) :
    St C m (H.set s.heap.objs.size (t, o)) { s with heap := h', toks := tk } ∧ Kp C H (H.set s.heap.objs.size (t, o)) s.heap h' := by
  have keep := News.keepAll (F₀ := F₀) F' N'
  have e : h'.get? s.heap.objs.size = some ob := (N' _ (.head _)).1
  refine ⟨⟨⟨mm, F', r⟩, fun b u p hb => ?_, ?_⟩, fun b x hb hn' hl => ⟨keep b x hl hb, ?_⟩⟩
  · by_cases q : b = s.heap.objs.size
    · subst q
      rw [AH.set_self] at hb; cases hb
      exact ⟨ob, e, rep, hs.Lne, hs.gfresh, hs.low⟩
    · rw [AH.set_ne q] at hb
      obtain ⟨ob1, e1, r1, n1, g1⟩ := hs.hr b u p hb
      exact ⟨ob1, keep b ob1 n1 e1, r1, n1, g1⟩
  · obtain ⟨h0, tk0, e0⟩ := hs.sr; exact ⟨h', tk, by rw [e0]⟩
  · rw [AH.set_ne (Nat.ne_of_lt (Heap.lt_size hb))]; exact hn'

theorem ev_dict0 {pos Φ} (h : ∀ a, H a = none → Φ (.ref a) (H.set a (.tmp, .idict []))) : EV C env vm m H (eval (.Dict [] [] pos) env) Φ := fun s Q E hs hv hq => by
  obtain ⟨mm, F, r⟩ := hs.fr
  refine Dict_empty_made2 F allOf_news (by have := PyProof.Rows.modules_low C.T.nolimit; exact this) fun h' o F' N' _ _ _ hi _ _ => ?_
  obtain ⟨s1, k1⟩ := St.byNewsNew (t := .tmp) (tk := s.toks) (o := .idict []) hs F r F' N' ⟨[], hi, rfl⟩
  exact hq _ _ _ (h _ hs.fresh) s1 k1

-- slices
noncomputable def PV (C : Ctx) (env : Env) (vm m : Loc) (H : AH) (e : Option Expr) (Φ : Option Int → AH → Prop) : Prop :=
  match e with
  | none => Φ none H
  | some e => EV C env vm m H (eval e env) (fun v H' => ∃ i, v = .int i ∧ Φ (some i) H')
theorem pv_none {Φ} (h : Φ none H) : PV C env vm m H none Φ := h
theorem pv_some {e Φ} (h : EV C env vm m H (eval e env) (fun v H' => ∃ i, v = .int i ∧ Φ (some i) H')) : PV C env vm m H (some e) Φ := h
noncomputable def pickA (vs : List AV) (lo hi : Option Int) : List AV := (vs.drop (kms_lo lo vs.length)).take (kms_hi hi vs.length - kms_lo lo vs.length)
theorem pickA_to (vs : List AV) (h : Nat) : pickA vs none (some (h : Int)) = vs.take h := by
  unfold pickA kms_lo kms_hi
  simp only [show ¬ ((h : Int) < 0) by lia, if_false, Int.toNat_natCast, List.drop_zero, Nat.sub_zero]
  by_cases q : h ≤ vs.length
  · rw [Nat.min_eq_left q]
  · rw [Nat.min_eq_right (by lia), List.take_of_length_le (Nat.le_refl _), List.take_of_length_le (by lia)]
theorem pickA_from (vs : List AV) (h : Nat) : pickA vs (some (h : Int)) none = vs.drop h := by
  unfold pickA kms_lo kms_hi
  simp only [show ¬ ((h : Int) < 0) by lia, if_false, Int.toNat_natCast]
  by_cases q : h ≤ vs.length
  · rw [Nat.min_eq_left q, List.take_of_length_le (by simp)]
  · rw [Nat.min_eq_right (by lia), List.drop_eq_nil_of_le (Nat.le_refl _), List.drop_eq_nil_of_le (by lia), List.take_nil]
theorem pickA_of (its : List Value) (lo hi : Option Int) : (kms_pick its lo hi).map er = pickA (its.map er) lo hi := by
  unfold kms_pick pickA
  rw [List.map_take, List.map_drop, List.length_map]
theorem PV.run {e : Option Expr} {Φ : Option Int → AH → Prop} (h : PV C env vm m H e Φ) {s : Shared} {Q : Value → Shared → Prop} {E : Value → Shared → Prop} (hs : St C m H s) (hv : VM C env vm m H s.heap)
    (hq : ∀ v i H' s', IsPart v i → Φ i H' → St C m H' s' → Kp C H H' s.heap s'.heap → Q v s') : wpAny (model PG C.w) C.A (evalPart e env) Q E s := by
  cases e with
  | none => rw [evalPart_none]; exact wpAny_pure (hq .none none H s .none h hs .refl)
  | some e =>
    rw [evalPart_some]
    have h' : EV C env vm m H (eval e env) (fun v H' => ∃ i, v = .int i ∧ Φ (some i) H') := h
    refine h' s Q E hs hv fun v H' s' hp hs' k => ?_
    obtain ⟨i, ev, p⟩ := hp
    obtain ⟨t, rfl⟩ := er_int ev
    exact hq _ _ H' s' (.int i t) p hs' k
theorem slice_end {prog : Program} {w : World} {A : Around} {E : Value → Shared → Prop} {s : Shared} {value slice : Expr} {l : Addr} {items : Array Value} {vl vu vk : Value} {lo hi st : Option Int} {ops : List Value} {Q : Value → Shared → Prop}
    (hl : s.heap.IsList l items) (pl : IsPart vl lo) (pu : IsPart vu hi) (pk : IsPart vk st) (h0 : st ≠ some 0)
    (h : Q (.ref (s.heap.objs.size + 1)) { s with heap := (s.heap.push { cls := .type "slice", data := .fields #[vl, vu, vk] }).push { cls := .type "list", data := .seq (slicePick items lo hi st) } })
    (hsz : items.size ≤ sizeLine)
    (hs : subscripted slice false (.ref l) (.ref s.heap.objs.size) = operate ops (getItem (.ref l) (.ref s.heap.objs.size))) :
    wpAny (model prog w) A (subscriptTail value slice (.ref l) (.ref s.heap.objs.size)) Q E { s with heap := s.heap.push { cls := .type "slice", data := .fields #[vl, vu, vk] } } := by
  refine kba_turn (value' := .Name (PySem.Str.ofString "_") ⟨0, 0, 0, 0⟩) (fun _ => rfl) ?_
  refine subscriptTail_ops (Heap.IsList.typeIs (s := { s with heap := s.heap.push { cls := .type "slice", data := .fields #[vl, vu, vk] } }) (hl.push _)) list_getitem_lookup
    (wpAny_getItem_list_slice (hl.push _) (Heap.IsSliceOf.new ..) pl pu pk h0 ?_ hsz) hs (fun _ => rfl)
  show Q (.ref (s.heap.push _).objs.size) _
  rw [Heap.size_push]
  exact h
theorem ev_slice {value : Expr} {lower upper : Option Expr} {p pos : Pos} {Φ : AV → AH → Prop} (h : EV C env vm m H (eval value env) (fun o H1 => PV C env vm m H1 lower (fun lo H2 => PV C env vm m H2 upper (fun hi H3 => ∃ a t vs, o = .ref a ∧ H3 a = some (t, .list vs) ∧ vs.length ≤ 1048576 ∧
      ∀ l, H3 l = none → Φ (.ref l) (H3.set l (.tmp, .list (pickA vs lo hi))))))) :
    EV C env vm m H (eval (.Subscript value (.Slice lower upper none p) pos) env) Φ := fun s Q E hs hv hq =>
  Subscript_ (h s _ E hs hv fun o H1 s1 h1 hs1 k1 => wpAny_Slice (PV.run h1 hs1 (hv.step k1) fun vl lo H2 s2 pl h2 hs2 k2 => PV.run h2 hs2 ((hv.step k1).step k2) fun vu hi H3 s3 pu h3 hs3 k3 => by
    obtain ⟨a, t, vs, eo, hH, hz, h3⟩ := h3
    obtain rfl := er_ref eo
    obtain ⟨its, n, e, hm, _, hl⟩ := hs3.listAt hH
    have hlen : its.length ≤ sizeLine := by
      have h1 : its.length = vs.length := by rw [← hm, List.length_map]
      have h2 := sizeLine_big
      lia
    rw [evalPart_none]
    refine wpAny_pure (slice_end (ops := [.ref s3.heap.objs.size, .ref a]) hl pl pu .none (by simp) ?_ (by simpa using hlen) rfl)
    obtain ⟨s4, k4⟩ := hs3.push (ob := { cls := .type "slice", data := .fields #[vl, vu, .none] }) (tk := s3.toks)
    obtain ⟨s5, k5⟩ := s4.alloc (t := .tmp) (o := .list (pickA vs lo hi)) (ob := { cls := .type "list", data := .seq (slicePick its.toArray lo hi none) }) (tk := s3.toks)
      ⟨kms_pick its lo hi, 0, by rw [kms_pick_eq], by rw [pickA_of, hm]⟩ rfl
    have hsz : (s3.heap.push { cls := .type "slice", data := .fields #[vl, vu, .none] }).objs.size = s3.heap.objs.size + 1 := Heap.size_push ..
    have hf := s4.fresh
    rw [show ({ s3 with heap := s3.heap.push { cls := .type "slice", data := .fields #[vl, vu, .none] }, toks := s3.toks } : Shared).heap.objs.size = s3.heap.objs.size + 1 from hsz] at s5 k5 hf
    exact hq _ _ _ (h3 _ hf) s5 (k1.trans (k2.trans (k3.trans (k4.trans k5))))))
/-- xs[::-1] -/
theorem ev_rev {value : Expr} {c : Expr} {p pos : Pos} {Φ : AV → AH → Prop} (h : EV C env vm m H (eval value env) (fun o H1 => EV C env vm m H1 (eval c env) (fun i H3 => i = .int (-1) ∧ ∃ a t vs, o = .ref a ∧ H3 a = some (t, .list vs) ∧ vs.length ≤ 1048576 ∧
      ∀ l, H3 l = none → Φ (.ref l) (H3.set l (.tmp, .list vs.reverse))))) :
    EV C env vm m H (eval (.Subscript value (.Slice none none (some c) p) pos) env) Φ := fun s Q E hs hv hq =>
  Subscript_ (h s _ E hs hv fun o H1 s1 h1 hs1 k1 => wpAny_Slice (by
    rw [evalPart_none]
    refine wpAny_pure (wpAny_pure ?_)
    rw [evalPart_some]
    refine h1 s1 _ E hs1 (hv.step k1) fun v H3 s3 h3 hs3 k3 => ?_
    obtain ⟨ei, a, t, vs, eo, hH, hz, h3⟩ := h3
    obtain rfl := er_ref eo
    obtain ⟨tk, rfl⟩ := er_int ei
    obtain ⟨its, n, e, hm, _, hl⟩ := hs3.listAt hH
    have hlen : its.length ≤ sizeLine := by
      have h1 : its.length = vs.length := by rw [← hm, List.length_map]
      have h2 := sizeLine_big
      lia
    refine slice_end (ops := [.ref a, .ref s3.heap.objs.size]) hl .none .none (.int (-1) tk) (by decide) ?_ (by simpa using hlen) rfl
    obtain ⟨s4, k4⟩ := hs3.push (ob := { cls := .type "slice", data := .fields #[.none, .none, .int (-1) tk] }) (tk := s3.toks)
    obtain ⟨s5, k5⟩ := s4.alloc (t := .tmp) (o := .list vs.reverse) (ob := { cls := .type "list", data := .seq (slicePick its.toArray none none (some (-1))) }) (tk := s3.toks)
      ⟨its.reverse, 0, by rw [krv_pick], by rw [List.map_reverse, hm]⟩ rfl
    have hsz : (s3.heap.push { cls := .type "slice", data := .fields #[.none, .none, .int (-1) tk] }).objs.size = s3.heap.objs.size + 1 := Heap.size_push ..
    have hf := s4.fresh
    rw [show ({ s3 with heap := s3.heap.push { cls := .type "slice", data := .fields #[.none, .none, .int (-1) tk] }, toks := s3.toks } : Shared).heap.objs.size = s3.heap.objs.size + 1 from hsz] at s5 k5 hf
    exact hq _ _ _ (h3 _ hf) s5 (k1.trans (k3.trans (k4.trans k5)))))

-- list + list, list(..), tuple(..), range(..)
theorem op_addl {a b t u vs ws Φ} (ha : H a = some (t, .list vs)) (hb : H b = some (u, .list ws)) (hz : vs.length + ws.length ≤ 1048576) (h : ∀ l, H l = none → Φ (.ref l) (H.set l (.tmp, .list (vs ++ ws)))) :
    Op2 C env vm m H (binaryOp .Add) (.ref a) (.ref b) Φ := fun v1 v2 e1 e2 s Q E hs _ hq => by
  obtain rfl := er_ref e1
  obtain rfl := er_ref e2
  obtain ⟨its, n, e, hm, _, hl⟩ := hs.listAt ha
  obtain ⟨its', n', e', hm', _, hl'⟩ := hs.listAt hb
  obtain ⟨mm, F, r⟩ := hs.fr
  refine add_arrays F allOf_news hl hl' (fun h' F' N' => ?_) ?_
  · obtain ⟨s1, k1⟩ := St.byNewsNew (t := .tmp) (tk := s.toks) (o := .list (vs ++ ws)) hs F r F' N' ⟨its ++ its', 0, by simp, by simp [hm, hm']⟩
    exact hq _ _ _ (h _ hs.fresh) s1 k1
  · have h1 : its.length = vs.length := by rw [← hm, List.length_map]
    have h2 : its'.length = ws.length := by rw [← hm', List.length_map]
    have := sizeLine_big
    simp; lia
theorem cv_list {a t vs Φ} (ha : H a = some (t, .list vs)) (hz : vs.length ≤ 1048576) (h : ∀ l, H l = none → Φ (.ref l) (H.set l (.tmp, .list vs))) : CV C m H (.type "list") [.ref a] Φ := fun vs' e s Q E hs hq => by
  obtain ⟨v1, rfl, e1⟩ := vs1 e
  obtain rfl := er_ref e1
  obtain ⟨its, n, e, hm, _, hl⟩ := hs.listAt ha
  refine call_list_seq (T := "list") a (.inl rfl) e rfl rfl (fun h' c' k eD => ?_) ?_
  · obtain ⟨s1, k1, hn⟩ := St.grown (t := .tmp) (tk := s.toks) (o := .list vs) hs k hs.nosize hs.low eD ⟨its, c', rfl, hm⟩
    exact hq _ _ _ (h _ hn) s1 k1
  · have h1 : its.length = vs.length := by rw [← hm, List.length_map]
    have := sizeLine_big
    simp; lia
theorem cv_tuple {a t vs Φ} (ha : H a = some (t, .list vs)) (hz : vs.length ≤ 1048576) (h : ∀ l, H l = none → Φ (.ref l) (H.set l (.tmp, .tup vs))) : CV C m H (.type "tuple") [.ref a] Φ := fun vs' e s Q E hs hq => by
  obtain ⟨v1, rfl, e1⟩ := vs1 e
  obtain rfl := er_ref e1
  obtain ⟨its, n, e, hm, _, hl⟩ := hs.listAt ha
  refine call_tuple_list hl (fun h' k => ?_) ?_
  · obtain ⟨mm, F, r⟩ := hs.fr
    have hD : s.heap.get? h'.objs.size = none := by
      cases q : s.heap.get? h'.objs.size with
      | none => rfl
      | some x => exact absurd (Heap.lt_size (k _ _ q)) (Nat.lt_irrefl _)
    obtain ⟨s1, k1, hn⟩ := St.grown (t := .tmp) (tk := s.toks) (D := h'.objs.size) (h' := h'.push { cls := .type "tuple", data := .seq its.toArray }) (o := .tup vs) hs (fun b x e => Heap.get?_push_of_some _ (k b x e)) hD
      (PyProof.Rows.modules_low ((C.T.nolimit.keeps F.keep).keeps k)) (Heap.get?_push_size _ rfl) ⟨its, 0, rfl, hm⟩
    exact hq _ _ _ (h _ hn) s1 k1
  · have h1 : its.length = vs.length := by rw [← hm, List.length_map]
    have := sizeLine_big
    simp; lia
theorem cv_range1 {n : Int} {Φ} (h : ∀ l, H l = none → Φ (.ref l) (H.set l (.tmp, .rng 0 n))) : CV C m H (.type "range") [.int n] Φ := fun vs' e s Q E hs hq => by
  obtain ⟨v1, rfl, e1⟩ := vs1 e
  obtain ⟨u, rfl⟩ := er_int e1
  obtain ⟨mm, F, r⟩ := hs.fr
  refine range1_rows F (allOf_news (h := s.heap)) fun h' tk t1 u1 v1 e' _ _ k => ?_
  obtain ⟨s1, k1, hn⟩ := St.grown (t := .tmp) (tk := tk) (o := .rng 0 n) hs k hs.nosize hs.low e' ⟨t1, u1, v1, rfl⟩
  exact hq _ _ _ (h _ hn) s1 k1
theorem cv_range2 {a n : Int} {Φ} (h : ∀ l, H l = none → Φ (.ref l) (H.set l (.tmp, .rng a n))) : CV C m H (.type "range") [.int a, .int n] Φ := fun vs' e s Q E hs hq => by
  obtain ⟨v1, v2, rfl, e1, e2⟩ := vs2 e
  obtain ⟨u, rfl⟩ := er_int e1
  obtain ⟨u', rfl⟩ := er_int e2
  obtain ⟨mm, F, r⟩ := hs.fr
  refine range2_rows F (allOf_news (h := s.heap)) fun h' tk t1 u1 v1 e' _ _ k => ?_
  obtain ⟨s1, k1, hn⟩ := St.grown (t := .tmp) (tk := tk) (o := .rng a n) hs k hs.nosize hs.low e' ⟨t1, u1, v1, rfl⟩
  exact hq _ _ _ (h _ hn) s1 k1
theorem cv_int {i : Int} {Φ} (h : Φ (.int i) H) : CV C m H (.type "int") [.int i] Φ := fun vs' e s Q E hs hq => by
  obtain ⟨v1, rfl, e1⟩ := vs1 e
  obtain ⟨u, rfl⟩ := er_int e1
  exact call_int_int (hq _ H s h hs .refl)
theorem cv_intb {b : Bool} {Φ} (h : Φ (.int (if b = true then 1 else 0)) H) : CV C m H (.type "int") [.bool b] Φ := fun vs' e s Q E hs hq => by
  obtain ⟨v1, rfl, e1⟩ := vs1 e
  obtain rfl := er_bool e1
  exact call_int_bool (hq _ H _ h (hs.tok _) .refl)

-- an expression as a statement
noncomputable def noRef : AV → Bool | .ref _ => false | _ => true
theorem ex_expr {e pos Φ} (h : EV C env m m H (eval e env) (fun v H' => noRef v = true ∧ Φ .next m H')) (hi : interactive env = false := by with_unfolding_all rfl) (hw : swapsWith e none pos.line env = pure false := by with_unfolding_all exact rfl_sw) :
    EX C env m H (exec (.Expr e pos) env) Φ := fun hl s Q E hs hq =>
  wpAny_Expr (h s _ E hs (vm0 hl) fun v H' s' ⟨hr, p⟩ hs' k => by
    have := hq .next m H' s' p hs' k
    cases v <;> first | exact this | cases hr) hi hw
end
--T Fw11

/-- stores in order -/
noncomputable def AS (C : Ctx) (env : Env) : Loc → AH → List (Value → Sem Unit) → List AV → (Loc → AH → Prop) → Prop
  | m, H, [], [], Φ => Φ m H
  | m, H, t :: ts, a :: as, Φ => SV C env m H t a (fun m' H' => AS C env m' H' ts as Φ)
  | _, _, _, _, _ => False

section
variable {C : Ctx} {env : Env} {vm m : Loc} {H : AH}
theorem AS.run (hl : env.locals = C.L) : ∀ {ts : List (Value → Sem Unit)} {as : List AV} {m : Loc} {H : AH} {Φ}, AS C env m H ts as Φ → ∀ (vs : List Value) (s : Shared) (Q : Unit → Shared → Prop) (E : Value → Shared → Prop), vs.map er = as → St C m H s →
    (∀ m' H' s', Φ m' H' → St C m' H' s' → Kp C H H' s.heap s'.heap → Q () s') → wpAny (model PG C.w) C.A (assignInOrder ts vs) Q E s
  | [], [], m, H, Φ, h, vs, s, Q, E, e, hs, hq => by
    cases vs with
    | nil => exact PyProof.Rows.assignInOrder_nil (hq m H s h hs .refl)
    | cons => cases e
  | t :: ts, a :: as, m, H, Φ, h, vs, s, Q, E, e, hs, hq => by
    cases vs with
    | nil => cases e
    | cons v r =>
      simp only [List.map_cons, List.cons.injEq] at e
      refine PyProof.Rows.assignInOrder_cons (h hl v s _ E e.1 hs fun m' H' s' p hs' k => ?_)
      exact AS.run hl p r s' Q E e.2 hs' fun m2 H2 s2 p2 hs2 k2 => hq m2 H2 s2 p2 hs2 (k.trans k2)
  | [], _ :: _, _, _, _, h, _, _, _, _, _, _, _ => h.elim
  | _ :: _, [], _, _, _, h, _, _, _, _, _, _, _ => h.elim

theorem sv_name {x : Str} {p a Φ} (h : SV C env m H (storeName env x) a Φ) : SV C env m H (assign (.Name x p) env) a Φ := fun hl v s Q E e hs hq => wpAny_assign_Name (h hl v s Q E e hs hq)
theorem sv_bind {x : Str} {a Φ} (h : SV C env m H (storeName env x) a Φ) : SV C env m H (bindName env x) a Φ := fun hl v s Q E e hs hq => wpAny_bindName (h hl v s Q E e hs hq)
theorem sv_sub {o i : Expr} {p a Φ} (h : EV C env m m H (eval o env) (fun ov H1 => EV C env m m H1 (eval i env) (fun iv H2 => Op3 C env m m H2 setItem ov iv a (fun H3 => Φ m H3)))) : SV C env m H (assign (.Subscript o i p) env) a Φ := fun hl v s Q E e hs hq =>
  kas_sub (h s _ E hs (vm0 hl) fun v1 H1 s1 h1 hs1 k1 => h1 s1 _ E hs1 (vm0 hl) fun v2 H2 s2 h2 hs2 k2 => h2 v1 v2 v rfl rfl e s2 _ E hs2 (vm0 hl) fun H3 s3 h3 hs3 k3 => hq m H3 s3 h3 hs3 (k1.trans (k2.trans k3)))

theorem extBut_keeps {s : Shared} {h' : Heap} (e : Heap.ExtBut s.heap.objs.size s.heap h') : ∀ b x, s.heap.get? b = some x → h'.get? b = some x := fun b x q => e b x (Nat.ne_of_lt (Heap.lt_size q)) q
/-- a, b = value (a tuple of as many) -/
theorem ex_tup {elts k tpos value pos Φ} (h : EV C env m m H (eval value env) (fun v H1 => ∃ a t vs, v = .ref a ∧ H1 a = some (t, .tup vs) ∧ vs.length = (assignEach elts env).length ∧ AS C env m H1 ((assignEach elts env).map (·.2)) vs (fun m' H' => Φ .next m' H')))
    (hstar : (assignEach elts env).findIdx? (·.1) = none := by rfl) (hs : swapsWithSole [.Tuple elts k tpos] value pos.line env = pure false := by with_unfolding_all exact rfl_sw) (hw : swappedStores [.Tuple elts k tpos] value env = pure none := by rfl) :
    EX C env m H (exec (.Assign [.Tuple elts k tpos] value pos) env) Φ := fun hl s Q E hs0 hq =>
  PyProof.Rows.Assign_Tuple (h s _ E hs0 (vm0 hl) fun v H1 s1 h1 hs1 k1 => by
    obtain ⟨a, t, vs, ev, hH, hn, hA⟩ := h1
    obtain rfl := er_ref ev
    obtain ⟨its, n, e, hm, ht⟩ := hs1.tupAt hH
    refine wpAny_assign_Tuple C.hh ht (by rw [← hn, ← hm]; simp) hstar fun h' eb => ?_
    obtain ⟨hs2, k2⟩ := hs1.keeps (tk := s1.toks) (extBut_keeps eb)
    exact AS.run hl hA its _ _ E hm hs2 fun m' H' s' p hs' k => hq .next m' H' s' p hs' (k1.trans (k2.trans k))) hs hw
/-- the same, the stores turned round -/
theorem ex_tupS {elts k tpos value pos Φ} {names : List Str} (h : EV C env m m H (eval value env) (fun v H1 => ∃ a t vs, v = .ref a ∧ H1 a = some (t, .tup vs) ∧ vs.length = names.length ∧ AS C env m H1 (names.reverse.map fun n => bindName env n) vs.reverse (fun m' H' => Φ .next m' H')))
    (hs : swapsWithSole [.Tuple elts k tpos] value pos.line env = pure false := by with_unfolding_all exact rfl_sw) (hw : swappedStores [.Tuple elts k tpos] value env = pure (some names) := by rfl) :
    EX C env m H (exec (.Assign [.Tuple elts k tpos] value pos) env) Φ := fun hl s Q E hs0 hq =>
  PyProof.Rows.Assign_Tuple_swapped (names := names) (h s _ E hs0 (vm0 hl) fun v H1 s1 h1 hs1 k1 => by
    obtain ⟨a, t, vs, ev, hH, hn, hA⟩ := h1
    obtain rfl := er_ref ev
    obtain ⟨its, n, e, hm, ht⟩ := hs1.tupAt hH
    have hln : names.length = its.toArray.size := by rw [← hn, ← hm]; simp
    rw [hln]
    refine wpAny_unpackItems_tuple C.hh ht fun h' eb => ?_
    obtain ⟨hs2, k2⟩ := hs1.keeps (tk := s1.toks) (extBut_keeps eb)
    exact AS.run hl hA its.reverse _ _ E (by rw [List.map_reverse, hm]) hs2 fun m' H' s' p hs' k => hq .next m' H' s' p hs' (k1.trans (k2.trans k))) hs hw
end
theorem bt_list : bootBuiltins "list" = some (.type "list") := by decide +kernel
theorem bt_tuple : bootBuiltins "tuple" = some (.type "tuple") := by decide +kernel
theorem bt_range : bootBuiltins "range" = some (.type "range") := by decide +kernel
theorem bt_int : bootBuiltins "int" = some (.type "int") := by decide +kernel
--T P0
noncomputable def ab (i : Int) : Int := if i < 0 then -i else i
theorem ilook_istore (kvs : List (Int × AV)) (k : Int) (v : AV) (j : Int) : ilook (istore kvs k v) j = if j = k then some v else ilook kvs j := by
  unfold ilook istore
  by_cases h : kvs.any (fun kv => decide (kv.1 = k)) = true
  · rw [if_pos h]
    induction kvs with
    | nil => cases h
    | cons p r ih =>
      simp only [List.map_cons, List.find?_cons]
      by_cases hp : p.1 = k
      · rw [if_pos hp]
        by_cases hj : j = k
        · subst hj; simp [hp]
        · have e1 : ¬ p.1 = j := fun e => hj (e.symm.trans hp)
          simp only [e1, decide_false, hj, if_false]
          have := hp
          clear ih h
          induction r with
          | nil => rfl
          | cons q s ih' =>
            simp only [List.map_cons, List.find?_cons]
            by_cases hq : q.1 = k
            · rw [if_pos hq]
              have e2 : ¬ q.1 = j := fun e => hj (e.symm.trans hq)
              simp only [e2, decide_false]; exact ih'
            · rw [if_neg hq]
              by_cases hqj : q.1 = j
              · simp [hqj]
              · simp only [hqj, decide_false]; exact ih'
      · rw [if_neg hp]
        have h' : r.any (fun kv => decide (kv.1 = k)) = true := by simpa [hp] using h
        by_cases hpj : p.1 = j
        · have : ¬ j = k := fun e => hp (hpj.trans e)
          simp [hpj, this]
        · simp only [hpj, decide_false]; exact ih h'
  · rw [if_neg h]
    rw [List.find?_append]
    have hn : ∀ p ∈ kvs, ¬ p.1 = k := fun p hp e => h (List.any_eq_true.mpr ⟨p, hp, by simp [e]⟩)
    by_cases hj : j = k
    · subst hj
      have : kvs.find? (fun kv => decide (kv.1 = j)) = none := List.find?_eq_none.mpr fun p hp => by simp [hn p hp]
      simp [this]
    · have : ¬ k = j := fun e => hj e.symm
      simp [hj, this]
theorem ilook_idel (kvs : List (Int × AV)) (k : Int) (j : Int) : ilook (idel kvs k) j = if j = k then none else ilook kvs j := by
  unfold ilook idel
  induction kvs with
  | nil => simp
  | cons p r ih =>
    simp only [List.filter_cons]
    by_cases hp : p.1 = k
    · simp only [hp, ne_eq, not_true_eq_false, decide_false, Bool.false_eq_true, if_false, List.find?_cons]
      rw [ih]
      by_cases hj : j = k
      · simp [hj]
      · have : ¬ k = j := fun e => hj e.symm
        simp [hj, this]
    · simp only [ne_eq, hp, not_false_eq_true, decide_true, if_true, List.find?_cons]
      by_cases hpj : p.1 = j
      · have : ¬ j = k := fun e => hp (hpj.trans e)
        simp [hpj, this]
      · simp only [hpj, decide_false]; exact ih
theorem ilook_mem {kvs : List (Int × AV)} {k : Int} {v : AV} (h : ilook kvs k = some v) : (k, v) ∈ kvs := by
  unfold ilook at h
  cases e : kvs.find? (fun kv => decide (kv.1 = k)) with
  | none => rw [e] at h; cases h
  | some p =>
    rw [e] at h
    have h1 := List.mem_of_find?_eq_some e
    have h2 : p.1 = k := by simpa using List.find?_some e
    have h3 : p.2 = v := Option.some.inj h
    rw [← h2, ← h3]; exact h1
/-- keys: within bounds, each once -/
noncomputable def DK (lo hi : Int) (kvs : List (Int × AV)) : Prop := (∀ p ∈ kvs, lo ≤ p.1 ∧ p.1 ≤ hi) ∧ (kvs.map (·.1)).Nodup
theorem nodup_len_aux : ∀ (n : Nat) (lo : Int) (l : List Int), l.Nodup → (∀ x ∈ l, lo ≤ x ∧ x < lo + n) → l.length ≤ n
  | 0, lo, l, _, hb => by
    cases l with
    | nil => exact Nat.le_refl _
    | cons x r => have := hb x (.head _); omega
  | n + 1, lo, l, hn, hb => by
    by_cases h : lo + (n : Int) ∈ l
    · have := nodup_len_aux n lo (l.erase (lo + n)) (hn.erase _) fun x hx => by
        have h1 := (hn.mem_erase_iff).mp hx
        have h2 := hb x h1.2
        refine ⟨h2.1, ?_⟩
        have h3 := h1.1
        push_cast at h2
        omega
      rw [List.length_erase_of_mem h] at this
      omega
    · refine Nat.le_succ_of_le (nodup_len_aux n lo l hn fun x hx => ?_)
      have h2 := hb x hx
      have h3 : x ≠ lo + (n : Int) := fun e => h (e ▸ hx)
      push_cast at h2
      omega
theorem nodup_len {lo hi : Int} {l : List Int} (hn : l.Nodup) (hb : ∀ x ∈ l, lo ≤ x ∧ x ≤ hi) : l.length ≤ (hi + 1 - lo).toNat :=
  nodup_len_aux _ lo l hn fun x hx => by have := hb x hx; omega
theorem DK.len {lo hi : Int} {kvs} (h : DK lo hi kvs) : kvs.length ≤ (hi + 1 - lo).toNat := by
  have := nodup_len (l := kvs.map (·.1)) h.2 (fun x hx => by obtain ⟨p, hp, rfl⟩ := List.mem_map.mp hx; exact h.1 p hp)
  simpa using this
theorem DK.nil {lo hi : Int} : DK lo hi [] := ⟨(by simp), List.nodup_nil⟩
theorem istore_keys (kvs : List (Int × AV)) (k : Int) (v : AV) : (istore kvs k v).map (·.1) = if kvs.any (fun kv => decide (kv.1 = k)) then kvs.map (·.1) else kvs.map (·.1) ++ [k] := by
  unfold istore
  split
  · rw [List.map_map]; apply List.map_congr_left; intro p _; by_cases h : p.1 = k <;> simp [h]
  · simp
theorem DK.istore {lo hi : Int} {kvs} (h : DK lo hi kvs) {k : Int} {v : AV} (h1 : lo ≤ k) (h2 : k ≤ hi) : DK lo hi (istore kvs k v) := by
  refine ⟨fun p hp => ?_, ?_⟩
  · have hk : p.1 ∈ (Mine.istore kvs k v).map (·.1) := List.mem_map_of_mem hp
    rw [istore_keys] at hk
    split at hk
    · obtain ⟨q, hq, e⟩ := List.mem_map.mp hk; rw [← e]; exact h.1 q hq
    · rcases List.mem_append.mp hk with hk | hk
      · obtain ⟨q, hq, e⟩ := List.mem_map.mp hk; rw [← e]; exact h.1 q hq
      · rw [List.mem_singleton.mp hk]; exact ⟨h1, h2⟩
  · rw [istore_keys]
    split
    · exact h.2
    · rename_i hn
      rw [List.nodup_append]
      refine ⟨h.2, by simp, fun a ha b hb e => ?_⟩
      rw [List.mem_singleton.mp hb] at e
      obtain ⟨q, hq, rfl⟩ := List.mem_map.mp ha
      exact hn (List.any_eq_true.mpr ⟨q, hq, by simp [e]⟩)
theorem DK.idel {lo hi : Int} {kvs} (h : DK lo hi kvs) (k : Int) : DK lo hi (idel kvs k) := by
  refine ⟨fun p hp => h.1 p (List.mem_filter.mp hp).1, ?_⟩
  exact List.Nodup.sublist ((List.filter_sublist).map _) h.2
noncomputable def Bools (kn : List (Int × AV)) : Prop := ∀ p ∈ kn, ∃ b, p.2 = .bool b
theorem Bools.look {kn : List (Int × AV)} (h : Bools kn) (k : Int) : ilook kn k = none ∨ ∃ b, ilook kn k = some (.bool b) := by
  cases e : ilook kn k with
  | none => exact .inl rfl
  | some v => obtain ⟨b, hb⟩ := h _ (ilook_mem e); exact .inr ⟨b, by rw [show v = .bool b from hb]⟩
theorem Bools.istore {kvs} (h : Bools kvs) (k : Int) (b : Bool) : Bools (istore kvs k (.bool b)) := fun p hp => by
  unfold Mine.istore at hp
  split at hp
  · obtain ⟨q, hq, rfl⟩ := List.mem_map.mp hp
    split
    · exact ⟨b, rfl⟩
    · exact h q hq
  · rcases List.mem_append.mp hp with hp | hp
    · exact h p hp
    · rw [List.mem_singleton.mp hp]; exact ⟨b, rfl⟩
theorem Bools.idel {kvs} (h : Bools kvs) (k : Int) : Bools (idel kvs k) := fun p hp => h p (List.mem_filter.mp hp).1
--T S1
local macro_rules | `(tactic| walk_at "loc") => `(tactic| first | exact rfl | assumption | (refine Loc.get_ne (by decide) ?_; walk_at "loc"))
set_option compiler.extract_closed false
local macro_rules | `(tactic| walk_at "s") => `(tactic| first
  | with_reducible (first
    | refine ev_int ?_ | refine ev_none ?_ | refine ev_bool ?_ | refine ev_str ?_ | refine ev_bin ?_ | refine ev_un ?_ | refine ev_if ?_ | refine ev_slice ?_ | refine ev_rev ?_ | refine ev_sub ?_ | refine ev_list ?_ | refine ev_tuple ?_ | refine ev_dict0 ?_ | refine ex_nil ?_ | refine ex_ret ?_ | refine ex_ret0 ?_ | refine ex_pass ?_ | refine tv_not ?_ | refine tv_if ?_ | refine tv_and ?_ | refine tv_and_nil ?_ | refine tv_or ?_ | refine tv_or_nil ?_ | refine lv_nil ?_ | refine sv_name ?_ | refine sv_bind ?_ | refine sv_sub ?_ | refine op_add ?_ | refine op_sub ?_ | refine op_lt ?_ | refine op_le ?_ | refine op_gt ?_ | refine op_ge ?_ | refine op_eq ?_ | refine op_ne ?_ | refine op_eqb ?_ | refine tr_bool ?_ | refine tr_int ?_ | refine tr_none ?_ | refine seq_next ?_ | refine seq_ret ?_ | refine fn_ret ?_ | refine fn_next ?_ | refine cv_abs ?_ | refine op_neg ?_ | refine pv_none ?_ | refine pv_some ?_
    | refine ex_seqO (fun _ _ => ?_) | refine ex_ifO (fun _ _ => ?_) | refine ex_assign ?_ | refine ex_setitem ?_ | refine ex_expr ?_ | refine ev_cmp ?_ | refine lv_cons ?_ | refine sv_local ?_ | refine tv_cmp ?_ | refine tv_plain ?_ | refine ev_call_ty (by constructor) ?_ | refine ev_call_fn (by constructor) ?_ | refine ev_call_bi (by constructor) ?_)
  | ((with_reducible show EV _ _ _ _ _ (eval _ _) _); first
    | ((with_reducible show EV _ _ _ _ _ (eval (Expr.Name _ _) _) _); refine' ev_local ?kx ?_; (case kx => walk_at "loc"))
    | ((with_reducible show EV _ _ _ _ _ (eval (Expr.Attribute (Expr.Name _ _) _ _) _) _); refine' ev_self ?kA ?kx ?kl ?kc ?_; (case kA => assumption); (case kx => walk_at "loc"); (case kl => rfl); (case kc => rfl))
    | ((with_reducible show EV _ _ _ _ _ (eval (Expr.Call (Expr.Attribute _ _ _) (_ :: _) _ _) _) _); first
      | refine ev_bmeth (by with_reducible constructor) ?_
      | (refine' ev_selfm ?kA ?kx ?kl ?_ ?k1; (case k1 => with_reducible constructor); (case kA => assumption); (case kx => walk_at "loc"); (case kl => rfl)))
    | ((with_reducible show EV _ _ _ _ _ (eval (Expr.Call (Expr.Attribute _ _ _) [] _ _) _) _); first
      | refine ev_bmeth0 PySem.F.slot_list_pop PySem.F.plainAttrs_list PySem.F.type_list_pop (by decide) ?_
      | (refine' ev_selfm0 ?kA ?kx ?kl ?_ ?k1; (case k1 => with_reducible constructor); (case kA => assumption); (case kx => walk_at "loc"); (case kl => rfl))))
  | ((with_reducible show if true = true then _ else _); refine ite_t ?_)
  | ((with_reducible show if false = true then _ else _); refine ite_f ?_)
  | ((with_reducible show ∀ K : Loc → AH → Prop, _ → _); intro _ _)
  | ((with_reducible show ∀ K : Bool → AH → Prop, _ → _); intro _ _)
  | with_reducible refine opqK (by assumption) ?_
  | with_reducible refine opqT (by assumption) ?_)


noncomputable def saysV (kn : List (Int × AV)) (i : Int) : AV := match ilook kn (ab i) with
  | some (.bool b) => .bool (b == decide (0 < i))
  | _ => .none
theorem says_spec {H : AH} {σ : Sg} {i : Int} {Φ : AV → AH → Prop} (hA : At H σ) (hk : Bools σ.kn) (hΦ : Φ (saysV σ.kn i) H) : Spec 1 90 [.ref σ.x, .int i] H Φ := by
  refine spec_plain (fun w => rfl) (fun w => rfl) (binds2 (n1 := "self") (n2 := "literal") (fun _ _ => rfl) rfl) (by rfl) (by decide) rfl rfl rfl (fun C hr hfe hlt => ?_)
  repeat walk_at "s"
  refine ⟨_, _, _, rfl, hA .known _ _ rfl, rfl, ?_⟩
  repeat walk_at "s"
  refine cv_get1 (hA .known _ _ rfl) ?_
  rcases hk.look (ab i) with e | ⟨b, e⟩
  · rw [show ilook σ.kn (if i < 0 then -i else i) = none from e]
    dsimp only [Option.getD]
    repeat walk_at "s"
    refine op_is_none ?_
    dsimp only [isNone]
    repeat walk_at "s"
    unfold saysV at hΦ; rw [e] at hΦ; exact hΦ
  · rw [show ilook σ.kn (if i < 0 then -i else i) = some (.bool b) from e]
    dsimp only [Option.getD]
    repeat walk_at "s"
    refine op_is_none ?_
    dsimp only [isNone]
    repeat walk_at "s"
    unfold saysV at hΦ; rw [e] at hΦ; exact hΦ
--T S2


namespace Sg
noncomputable def setKn (σ : Sg) (d : List (Int × AV)) : Sg := { σ with kn := d }
noncomputable def setHt (σ : Sg) (d : List (Int × AV)) : Sg := { σ with ht := d }
noncomputable def setCs (σ : Sg) (d : List (Int × AV)) : Sg := { σ with cs := d }
noncomputable def setLk (σ : Sg) (d : List (Int × AV)) : Sg := { σ with lk := d }
noncomputable def setHeats (σ : Sg) (d : List (Int × AV)) : Sg := { σ with heats := d }
noncomputable def setRow (σ : Sg) (d : List Int) : Sg := { σ with row := d }
noncomputable def setBg (σ : Sg) (d : List Nat) : Sg := { σ with bg := d }
noncomputable def setLog (σ : Sg) (d : List AV) : Sg := { σ with log := d }
noncomputable def setSeen (σ : Sg) (d : Nat) : Sg := { σ with seen := d }
noncomputable def setGain (σ : Sg) (d : Int) : Sg := { σ with gain := d }
noncomputable def setClashes (σ : Sg) (d : Int) : Sg := { σ with clashes := d }
noncomputable def setRefuted (σ : Sg) (d : Bool) : Sg := { σ with refuted := d }
noncomputable def setBlamed (σ : Sg) (d : AV) : Sg := { σ with blamed := d }
noncomputable def newBg (σ : Sg) (l : Addr) (d : List Nat) : Sg := { σ with aBg := l, bg := d }
noncomputable def newHeats (σ : Sg) (l : Addr) (d : List (Int × AV)) : Sg := { σ with aHeats := l, heats := d }
end Sg
section
variable (σ : Sg) (u : Tag)
theorem at_kn (d) : (σ.setKn d).at u = if u = .known then some (σ.aKn, .idict d) else σ.at u := by cases u <;> rfl
theorem at_ht (d) : (σ.setHt d).at u = if u = .heights then some (σ.aHt, .idict d) else σ.at u := by cases u <;> rfl
theorem at_cs (d) : (σ.setCs d).at u = if u = .causes then some (σ.aCs, .idict d) else σ.at u := by cases u <;> rfl
theorem at_lk (d) : (σ.setLk d).at u = if u = .liked then some (σ.aLk, .idict d) else σ.at u := by cases u <;> rfl
theorem at_heats (d) : (σ.setHeats d).at u = if u = .heats then some (σ.aHeats, .idict d) else σ.at u := by cases u <;> rfl
theorem at_row (d) : (σ.setRow d).at u = if u = .row then some (σ.aRow, intsO d) else σ.at u := by cases u <;> rfl
theorem at_bg (d) : (σ.setBg d).at u = if u = .begins then some (σ.aBg, natsO d) else σ.at u := by cases u <;> rfl
theorem at_log (d) : (σ.setLog d).at u = if u = .log then some (σ.aLog, .list d) else σ.at u := by cases u <;> rfl
theorem at_seen (d) : (σ.setSeen d).at u = if u = .attrs then some (σ.dx, .attrs (putA "seen" (.int d) σ.fs)) else σ.at u := by cases u <;> rfl
theorem at_gain (d) : (σ.setGain d).at u = if u = .attrs then some (σ.dx, .attrs (putA "gain" (.int d) σ.fs)) else σ.at u := by cases u <;> rfl
theorem at_clashes (d) : (σ.setClashes d).at u = if u = .attrs then some (σ.dx, .attrs (putA "clashes" (.int d) σ.fs)) else σ.at u := by cases u <;> rfl
theorem at_refuted (d) : (σ.setRefuted d).at u = if u = .attrs then some (σ.dx, .attrs (putA "is_refuted" (.bool d) σ.fs)) else σ.at u := by cases u <;> rfl
theorem at_blamed (d) : (σ.setBlamed d).at u = if u = .attrs then some (σ.dx, .attrs (putA "blamed" (d) σ.fs)) else σ.at u := by cases u <;> rfl
theorem at_nbg (l d) : (σ.newBg l d).at u = if u = .begins then some (l, natsO d) else if u = .attrs then some (σ.dx, .attrs (putA "begins" (.ref l) σ.fs)) else σ.at u := by cases u <;> rfl
theorem at_nheats (l d) : (σ.newHeats l d).at u = if u = .heats then some (l, .idict d) else if u = .attrs then some (σ.dx, .attrs (putA "heats" (.ref l) σ.fs)) else σ.at u := by cases u <;> rfl
end

/-- the contract of a deed: the state behind, what is outside stays -/
noncomputable def Deed (n : Nat) (fa : Addr) (args : List AV) (H : AH) (r : AV) (σ' : Sg) : Prop := ∀ Φ : AV → AH → Prop, (∀ H', At H' σ' → Fr0 H H' → Φ r H') → Spec n fa args H Φ

section
variable {C : Ctx} {env : Env} {vm m : Loc} {H H0 : AH} {σ : Sg}
theorem op_set_comp {t d kvs k x} {Φ : AH → Prop} (σ' : Sg) (hA : At H σ) (f : Fr0 H0 H) (hc : σ.at t = some (d, .idict kvs)) (hz : kvs.length ≤ 1048576) (h' : ∀ u, σ'.at u = if u = t then some (d, .idict (istore kvs k x)) else σ.at u) (h : ∀ H', At H' σ' → Fr0 H0 H' → Φ H') (ht : t.out = false := by rfl) :
    Op3 C env vm m H setItem (.ref d) (.int k) x Φ := op_set_dict (hA t d _ hc) hz (h _ (hA.upd hc h') (f.trans (Fr0.comp (hA t d _ hc) ht)))
theorem cv_append_comp {t a vs x} {Φ : AV → AH → Prop} (σ' : Sg) (hA : At H σ) (f : Fr0 H0 H) (hc : σ.at t = some (a, .list vs)) (hz : vs.length ≤ 1048576) (h' : ∀ u, σ'.at u = if u = t then some (a, .list (vs ++ [x])) else σ.at u) (h : ∀ H', At H' σ' → Fr0 H0 H' → Φ .none H') (ht : t.out = false := by rfl) :
    CV C m H (.builtin "list.append") [.ref a, x] Φ := cv_append (hA t a _ hc) hz (h _ (hA.upd hc h') (f.trans (Fr0.comp (hA t a _ hc) ht)))
theorem cv_appendi_comp {t a} {l : List Int} {x : Int} {Φ : AV → AH → Prop} (σ' : Sg) (hA : At H σ) (f : Fr0 H0 H) (hc : σ.at t = some (a, intsO l)) (hz : l.length ≤ 1048576) (h' : ∀ u, σ'.at u = if u = t then some (a, intsO (l ++ [x])) else σ.at u) (h : ∀ H', At H' σ' → Fr0 H0 H' → Φ .none H') (ht : t.out = false := by rfl) :
    CV C m H (.builtin "list.append") [.ref a, .int x] Φ := cv_append_comp σ' hA f hc (by simpa using hz) (fun u => by rw [h' u]; simp [intsO]) h ht
theorem cv_lpopi_comp {t a} {l : List Int} {x : Int} {Φ : AV → AH → Prop} (σ' : Sg) (hA : At H σ) (f : Fr0 H0 H) (hc : σ.at t = some (a, intsO (l ++ [x]))) (hz : l.length ≤ 1000000) (h' : ∀ u, σ'.at u = if u = t then some (a, intsO l) else σ.at u) (h : ∀ H', At H' σ' → Fr0 H0 H' → Φ (.int x) H') (ht : t.out = false := by rfl) :
    CV C m H (.builtin "list.pop") [.ref a] Φ := cv_lpop (vs := l.map .int) (by have := hA t a _ hc; simpa [intsO] using this) (by simpa using hz) (h _ (hA.upd hc h') (f.trans (Fr0.comp (hA t a _ hc) ht)))
theorem cv_dpop1_comp {t d kvs k v} {Φ : AV → AH → Prop} (σ' : Sg) (hA : At H σ) (f : Fr0 H0 H) (hc : σ.at t = some (d, .idict kvs)) (hz : kvs.length ≤ 1048576) (hv : ilook kvs k = some v) (h' : ∀ u, σ'.at u = if u = t then some (d, .idict (idel kvs k)) else σ.at u) (h : ∀ H', At H' σ' → Fr0 H0 H' → Φ v H') (ht : t.out = false := by rfl) :
    CV C m H (.builtin "dict.pop") [.ref d, .int k] Φ := cv_dpop1 (hA t d _ hc) hz hv (h _ (hA.upd hc h') (f.trans (Fr0.comp (hA t d _ hc) ht)))
theorem cv_leni {t a} {l : List Int} {Φ : AV → AH → Prop} (hc : H a = some (t, intsO l)) (hz : l.length ≤ 1048576) (h : Φ (.int l.length) H) : CV C m H (.builtin "len") [.ref a] Φ :=
  cv_len (vs := l.map .int) hc (by rw [List.length_map]; exact hz) (by rw [List.length_map]; exact h)
theorem op_itemi {value slice a t} {l : List Int} {k x : Int} {Φ} (hH : H a = some (t, intsO l)) (h0 : 0 ≤ k) (hx : l[k.toNat]? = some x) (h : Φ (.int x) H) (hk : k < 2 ^ 63)
    (hsub : ∀ u, subscripted slice false (.ref a) (.int k u) = operate [.ref a, .int k u] (getItem (.ref a) (.int k u)) := by intro _; rfl) : Op2 C env vm m H (subscriptTail value slice) (.ref a) (.int k) Φ :=
  op_item_list (vs := l.map .int) hH h0 (by rw [List.getElem?_map, hx]; rfl) h hk hsub
theorem cv_lenn {t a} {l : List Nat} {Φ : AV → AH → Prop} (hc : H a = some (t, natsO l)) (hz : l.length ≤ 1048576) (h : Φ (.int l.length) H) : CV C m H (.builtin "len") [.ref a] Φ :=
  cv_len (vs := l.map fun (n : Nat) => AV.int n) hc (by rw [List.length_map]; exact hz) (by rw [List.length_map]; exact h)
theorem op_itemn {value slice a t} {l : List Nat} {k : Int} {x : Nat} {Φ} (hH : H a = some (t, natsO l)) (h0 : 0 ≤ k) (hx : l[k.toNat]? = some x) (h : Φ (.int x) H) (hk : k < 2 ^ 63)
    (hsub : ∀ u, subscripted slice false (.ref a) (.int k u) = operate [.ref a, .int k u] (getItem (.ref a) (.int k u)) := by intro _; rfl) : Op2 C env vm m H (subscriptTail value slice) (.ref a) (.int k) Φ :=
  op_item_list (vs := l.map fun (n : Nat) => AV.int n) hH h0 (by rw [List.getElem?_map, hx]; rfl) h hk hsub
theorem cv_appendn_comp {t a} {l : List Nat} {x : Nat} {Φ : AV → AH → Prop} (σ' : Sg) (hA : At H σ) (f : Fr0 H0 H) (hc : σ.at t = some (a, natsO l)) (hz : l.length ≤ 1048576) (h' : ∀ u, σ'.at u = if u = t then some (a, natsO (l ++ [x])) else σ.at u) (h : ∀ H', At H' σ' → Fr0 H0 H' → Φ .none H') (ht : t.out = false := by rfl) :
    CV C m H (.builtin "list.append") [.ref a, .int x] Φ := cv_append_comp σ' hA f hc (by simpa using hz) (fun u => by rw [h' u]; simp [natsO]) h ht
/-- a plain field of the search -/
theorem ex_self_f {x xp attr pos' value pos Φ} (h : EV C env m m H (eval value env) (fun a H1 => ∃ σ σ' : Sg, At H1 σ ∧ m x = some (.ref σ.x) ∧ (∀ u, σ'.at u = if u = .attrs then some (σ.dx, .attrs (putA attr a σ.fs)) else σ.at u) ∧ Fr0 H0 H1 ∧ (∀ H', At H' σ' → Fr0 H0 H' → Φ .next m H')))
    (ht : takerIn (KK C.w) 227 attr = some none := by with_reducible first | exact tk_known _ | exact tk_heights _ | exact tk_causes _ | exact tk_row _ | exact tk_begins _ | exact tk_seen _ | exact tk_liked _ | exact tk_rows _ | exact tk_watching _ | exact tk_heats _ | exact tk_gain _ | exact tk_log _ | exact tk_is_refuted _ | exact tk_blamed _ | exact tk_clashes _ | exact tk_conflict_limit _) (hk : env.scope.kind = .function := by rfl) (hloc : env.kindOf x = some .local := by rfl) (hd : (x == ("__debug__" : Str)) = false := by decide)
    (hw : swapsWith value (some (.Attribute (.Name x xp) attr pos')) pos.line env = pure false := by rfl) : EX C env m H (exec (.Assign [.Attribute (.Name x xp) attr pos'] value pos) env) Φ :=
  ex_setattr (h.mono fun a H1 ⟨σ, σ', hA, hx, h', f, hΦ⟩ => ev_local hx ⟨_, _, _, _, _, rfl, hA .inst _ _ rfl, hA .attrs _ _ rfl, by show 16 ≤ 100; decide, ht,
    hΦ _ (hA.upd rfl h') (f.trans (Fr0.comp (hA .attrs _ _ rfl) rfl))⟩ hk hloc hd) hw
/-- a field of the search gets a new thing -/
theorem ex_self_new {x xp attr pos' value pos Φ} (t : Tag) (h : EV C env m m H (eval value env) (fun a H1 => ∃ l o' t', ∃ σ σ' : Sg, a = .ref l ∧ H1 l = some (t', o') ∧ t'.out = true ∧ At H1 σ ∧ m x = some (.ref σ.x) ∧
      (∀ u, σ'.at u = if u = t then some (l, o') else if u = .attrs then some (σ.dx, .attrs (putA attr (.ref l) σ.fs)) else σ.at u) ∧ (∀ H', At H' σ' → (∀ b, b ≠ l → ∀ t o, H1 b = some (t, o) → t.out = true → H' b = some (t, o)) → Φ .next m H')))
    (hta : t ≠ .attrs := by decide) (ht : takerIn (KK C.w) 227 attr = some none := by with_reducible first | exact tk_known _ | exact tk_heights _ | exact tk_causes _ | exact tk_row _ | exact tk_begins _ | exact tk_seen _ | exact tk_liked _ | exact tk_rows _ | exact tk_watching _ | exact tk_heats _ | exact tk_gain _ | exact tk_log _ | exact tk_is_refuted _ | exact tk_blamed _ | exact tk_clashes _ | exact tk_conflict_limit _) (hk : env.scope.kind = .function := by rfl) (hloc : env.kindOf x = some .local := by rfl) (hd : (x == ("__debug__" : Str)) = false := by decide)
    (hw : swapsWith value (some (.Attribute (.Name x xp) attr pos')) pos.line env = pure false := by rfl) : EX C env m H (exec (.Assign [.Attribute (.Name x xp) attr pos'] value pos) env) Φ := fun hl s Q E hs hq =>
  plainObj_wpAny_Assign_Attribute (h s _ E hs (vm0 hl) fun v H1 s1 h1 hs1 k1 => by
    refine opqG (fun goalP goalH => ?_)
    obtain ⟨l, o', t', σ, σ', ev, hH, ho, hA, hx, h', hΦ⟩ := h1
    all_goals first | (refine goalH ?_; clear goalH goalP) | skip
    refine ev_local (Φ := fun w H2 => w = .ref σ.x ∧ H2 = H1) hx ⟨rfl, rfl⟩ hk hloc hd s1 _ E hs1 (vm0 hl) fun ov H2 s2 h2 hs2 k2 => ?_
    refine opqG (fun goalP goalH => ?_)
    obtain ⟨e2, rfl⟩ := h2
    all_goals first | (refine goalH ?_; clear goalH goalP) | skip
    refine opqG (fun goalP goalH => ?_)
    obtain rfl := er_ref e2
    all_goals first | (refine goalH ?_; clear goalH goalP) | skip
    refine uv_setattr (env := env) (vm := m) (Φ := fun H3 => H3 = H2.set σ.dx (.attrs, .attrs (putA attr (.ref l) σ.fs))) (hA .inst _ _ rfl) (hA .attrs _ _ rfl) (by show 16 ≤ 100; decide) rfl ht v ev s2 _ E hs2 (vm0 hl) fun H3 s3 h3 hs3 k3 => ?_
    subst h3
    have hd' := hA .attrs _ _ rfl
    have hl' : (H2.set σ.dx (.attrs, .attrs (putA attr (.ref l) σ.fs))) l = some (t', o') := AH.set_tag hd' hH (by rintro rfl; cases ho)
    refine opqG (fun goalP goalH => ?_)
    obtain ⟨s4, k4⟩ := hs3.retag (t' := t) hl'
    all_goals first | (refine goalH ?_; clear goalH goalP) | skip
    have hA4 : At ((H2.set σ.dx (.attrs, .attrs (putA attr (.ref l) σ.fs))).set l (t, o')) σ' := fun u b p e => by
      rw [h'] at e
      by_cases q : u = t
      · subst q; rw [if_pos rfl] at e; cases e; exact AH.set_self
      · rw [if_neg q] at e
        by_cases q2 : u = .attrs
        · subst q2; rw [if_pos rfl] at e; cases e
          rw [AH.set_ne (by rintro rfl; rw [hH] at hd'; cases hd'; cases ho)]; exact AH.set_self
        · rw [if_neg q2] at e
          have hb := hA _ _ _ e
          rw [AH.set_ne (by rintro rfl; rw [hH] at hb; cases hb; rw [Sg.at_out ho] at e; cases e)]
          exact AH.set_tag hd' hb q2
    refine hq .next m _ s3 (hΦ _ hA4 fun b hb t o e ho => ?_) s4 (k1.trans (k2.trans (k3.trans k4)))
    rw [AH.set_ne hb]
    exact AH.set_tag hd' e (by rintro rfl; cases ho)) hw
end

theorem let_spec {H : AH} {σ : Sg} {i : Int} {c : AV} (hA : At H σ) (h1 : σ.kn.length ≤ 1048576) (h2 : σ.ht.length ≤ 1048576) (h3 : σ.cs.length ≤ 1048576) (h4 : σ.row.length ≤ 1048576) (h5 : σ.bg.length ≤ 1048576) :
    Deed 1 97 [.ref σ.x, .int i, c] H .none ((((σ.setKn (istore σ.kn (ab i) (.bool (decide (0 < i))))).setHt (istore σ.ht (ab i) (.int σ.bg.length))).setCs (istore σ.cs (ab i) c)).setRow (σ.row ++ [i])) := fun Φ hΦ => by
  refine spec_plain (fun w => rfl) (fun w => rfl) (binds3 (n1 := "self") (n2 := "literal") (n3 := "cause") (fun _ _ _ => rfl) rfl) (by rfl) (by decide) rfl rfl rfl (fun C hr hfe hlt => ?_)
  have f : Fr0 H H := .refl
  repeat walk_at "s"
  refine op_set_comp (σ.setKn (istore σ.kn (ab i) (.bool (decide (0 < i))))) hA f (t := .known) rfl h1 (at_kn σ · _) ?_
  clear hA f; intro H1 hA f
  repeat walk_at "s"
  refine cv_len (vs := σ.bg.map fun (n : Nat) => AV.int n) (hA .begins _ _ rfl) (by rw [List.length_map]; exact h5) ?_
  rw [List.length_map]
  repeat walk_at "s"
  refine op_set_comp (kvs := σ.ht) ((σ.setKn (istore σ.kn (ab i) (.bool (decide (0 < i))))).setHt (istore σ.ht (ab i) (.int σ.bg.length))) hA f (t := .heights) rfl h2 (at_ht _ · _) ?_
  clear hA f; intro H2 hA f
  repeat walk_at "s"
  refine op_set_comp (kvs := σ.cs) (((σ.setKn (istore σ.kn (ab i) (.bool (decide (0 < i))))).setHt (istore σ.ht (ab i) (.int σ.bg.length))).setCs (istore σ.cs (ab i) c)) hA f (t := .causes) rfl h3 (at_cs _ · _) ?_
  clear hA f; intro H3 hA f
  repeat walk_at "s"
  refine ⟨_, _, _, rfl, hA .row _ _ rfl, rfl, ?_⟩
  repeat walk_at "s"
  refine cv_appendi_comp (l := σ.row) ((((σ.setKn (istore σ.kn (ab i) (.bool (decide (0 < i))))).setHt (istore σ.ht (ab i) (.int σ.bg.length))).setCs (istore σ.cs (ab i) c)).setRow (σ.row ++ [i])) hA f (t := .row) rfl h4 (at_row _ · _) ?_
  clear hA f; intro H4 hA f
  refine ⟨rfl, ?_⟩
  repeat walk_at "s"
  exact hΦ _ hA f
--T P1
theorem ab_pos {v : Int} (h : 1 ≤ v) : ab v = v := by unfold ab; split <;> lia
theorem ab_neg {v : Int} (h : 1 ≤ v) : ab (-v) = v := by unfold ab; split <;> omega
theorem ab_n (v : Int) : ab (-v) = ab v := by unfold ab; split <;> split <;> lia
theorem ab_eq {a b : Int} (h : ab a = ab b) : a = b ∨ a = -b := by unfold ab at h; split at h <;> split at h <;> lia
theorem ab_ge (v : Int) : 0 ≤ ab v := by unfold ab; split <;> lia
theorem ab_zero {v : Int} (h : 1 ≤ ab v) : v ≠ 0 := by rintro rfl; revert h; decide

noncomputable def KnRow (row : List Int) (kn : List (Int × AV)) : Prop := ∀ v, 1 ≤ v → ilook kn v = if v ∈ row then some (.bool true) else if -v ∈ row then some (.bool false) else none
theorem KnRow.pop {row : List Int} {x : Int} {kn} (h : KnRow (row ++ [x]) kn) (nd : ((row ++ [x]).map ab).Nodup) : KnRow row (idel kn (ab x)) := fun v hv => by
  rw [ilook_idel]
  have hx : ab x ∉ row.map ab := by
    intro hm
    rw [List.map_append, List.nodup_append] at nd
    exact nd.2.2 _ hm _ (by simp) rfl
  by_cases e : v = ab x
  · rw [if_pos e]
    have h1 : v ∉ row := fun hm => hx (by rw [← e, ← ab_pos hv]; exact List.mem_map_of_mem hm)
    have h2 : -v ∉ row := fun hm => hx (by rw [← e, ← ab_neg hv]; exact List.mem_map_of_mem hm)
    rw [if_neg h1, if_neg h2]
  · rw [if_neg e, h v hv]
    have h1 : (v ∈ row ++ [x]) = (v ∈ row) := by
      apply propext; rw [List.mem_append, List.mem_singleton]
      exact ⟨fun q => q.elim id fun q => absurd (by rw [← q, ab_pos hv]) e, .inl⟩
    have h2 : (-v ∈ row ++ [x]) = (-v ∈ row) := by
      apply propext; rw [List.mem_append, List.mem_singleton]
      exact ⟨fun q => q.elim id fun q => absurd (by rw [← q, ab_neg hv]) e, .inl⟩
    simp only [h1, h2]
theorem KnRow.push {row : List Int} {x : Int} {kn} (h : KnRow row kn) (hx : 1 ≤ ab x) (hn : ab x ∉ row.map ab) : KnRow (row ++ [x]) (istore kn (ab x) (.bool (decide (0 < x)))) := fun v hv => by
  rw [ilook_istore]
  by_cases e : v = ab x
  · rw [if_pos e]
    have h1 : v ∉ row := fun hm => hn (by rw [← e, ← ab_pos hv]; exact List.mem_map_of_mem hm)
    have h2 : -v ∉ row := fun hm => hn (by rw [← e, ← ab_neg hv]; exact List.mem_map_of_mem hm)
    simp only [List.mem_append, List.mem_singleton, h1, h2, false_or]
    unfold ab at e
    split at e
    · rename_i hlt
      rw [if_neg (by (clear hx hn hv h1 h2; lia)), if_pos (by (clear hx hn hv h1 h2 hlt; lia)), decide_eq_false (by (clear hx hn hv h1 h2 e; lia))]
    · rename_i hlt
      rw [if_pos e, decide_eq_true (by (clear hx hn h1 h2 hlt; lia))]
  · rw [if_neg e, h v hv]
    have h1 : (v ∈ row ++ [x]) = (v ∈ row) := by
      apply propext; rw [List.mem_append, List.mem_singleton]
      exact ⟨fun q => q.elim id fun q => absurd (by rw [← q, ab_pos hv]) e, .inl⟩
    have h2 : (-v ∈ row ++ [x]) = (-v ∈ row) := by
      apply propext; rw [List.mem_append, List.mem_singleton]
      exact ⟨fun q => q.elim id fun q => absurd (by rw [← q, ab_neg hv]) e, .inl⟩
    simp only [h1, h2]
theorem nd_neg {row : List Int} (nd : (row.map ab).Nodup) {x : Int} (h0 : x ≠ 0) (hm : x ∈ row) : -x ∉ row := fun q => by
  obtain ⟨i, hi⟩ := List.getElem?_of_mem hm
  obtain ⟨j, hj⟩ := List.getElem?_of_mem q
  have e1 : (row.map ab)[i]? = some (ab x) := by rw [List.getElem?_map, hi]; rfl
  have e2 : (row.map ab)[j]? = some (ab x) := by rw [List.getElem?_map, hj]; exact congrArg some (ab_n x)
  have li : i < (row.map ab).length := (List.getElem?_eq_some_iff.mp e1).1
  have := (List.getElem?_inj li nd).mp (e1.trans e2.symm)
  subst this
  rw [hi] at hj
  have := Option.some.inj hj
  lia
theorem KnRow.of_mem {row : List Int} {kn} (h : KnRow row kn) (nd : (row.map ab).Nodup) {x : Int} (hx : 1 ≤ ab x) (hm : x ∈ row) : ilook kn (ab x) = some (.bool (decide (0 < x))) := by
  rw [h (ab x) hx]
  by_cases hlt : x < 0
  · have e : ab x = -x := by unfold ab; rw [if_pos hlt]
    rw [e, if_neg (nd_neg nd (by lia) hm), Int.neg_neg, if_pos hm, decide_eq_false (by lia)]
  · have e : ab x = x := by unfold ab; rw [if_neg hlt]
    rw [e, if_pos hm, decide_eq_true (by omega)]

noncomputable def cnt (bg : List Nat) (p : Nat) : Nat := bg.countP (· ≤ p)
theorem cnt_append (a b : List Nat) (p : Nat) : cnt (a ++ b) p = cnt a p + cnt b p := by simp [cnt]
theorem cnt_le (bg : List Nat) (p : Nat) : cnt bg p ≤ bg.length := List.countP_le_length
theorem cnt_mono (bg : List Nat) {p q : Nat} (h : p ≤ q) : cnt bg p ≤ cnt bg q := List.countP_mono_left fun x _ hx => by simp at hx ⊢; lia
theorem cnt_zero {bg : List Nat} {p : Nat} (h : ∀ b ∈ bg, p < b) : cnt bg p = 0 := by
  unfold cnt; rw [List.countP_eq_zero]; intro b hb; have := h b hb; simp; omega
theorem cnt_all {bg : List Nat} {p : Nat} (h : ∀ b ∈ bg, b ≤ p) : cnt bg p = bg.length := by
  unfold cnt; rw [List.countP_eq_length]; intro b hb; simpa using h b hb
theorem bg_split {bg : List Nat} {h b : Nat} (s : bg.Pairwise (· < ·)) (e : bg[h]? = some b) : (∀ c ∈ bg.take h, c < b) ∧ (∀ c ∈ bg.drop h, b ≤ c) ∧ bg = bg.take h ++ bg.drop h ∧ bg.drop h = b :: bg.drop (h + 1) := by
  obtain ⟨hl, he⟩ := List.getElem?_eq_some_iff.mp e
  have hd : bg.drop h = b :: bg.drop (h + 1) := by rw [List.drop_eq_getElem_cons hl, he]
  have hs : bg = bg.take h ++ bg.drop h := (List.take_append_drop h bg).symm
  rw [hs, List.pairwise_append] at s
  refine ⟨fun c hc => s.2.2 c hc b (by rw [hd]; exact .head _), fun c hc => ?_, hs, hd⟩
  rw [hd] at hc s
  rcases List.mem_cons.mp hc with rfl | hc
  · exact Nat.le_refl _
  · exact Nat.le_of_lt ((List.pairwise_cons.mp s.2.1).1 c hc)
theorem cnt_take {bg : List Nat} {h b p : Nat} (s : bg.Pairwise (· < ·)) (e : bg[h]? = some b) (hp : p < b) : cnt (bg.take h) p = cnt bg p := by
  obtain ⟨h1, h2, h3, _⟩ := bg_split s e
  conv => rhs; rw [h3, cnt_append]
  rw [cnt_zero (fun c hc => Nat.lt_of_lt_of_le hp (h2 c hc)), Nat.add_zero]
theorem cnt_at {bg : List Nat} {h b : Nat} (s : bg.Pairwise (· < ·)) (e : bg[h]? = some b) : cnt (bg.take h) b = h := by
  obtain ⟨h1, _⟩ := bg_split s e
  rw [cnt_all (fun c hc => Nat.le_of_lt (h1 c hc)), List.length_take]
  have := (List.getElem?_eq_some_iff.mp e).1
  lia
/-- a position at or behind bg[h] has a height over h -/
theorem cnt_ge {bg : List Nat} {h b p : Nat} (s : bg.Pairwise (· < ·)) (e : bg[h]? = some b) (hp : b ≤ p) : h < cnt bg p := by
  obtain ⟨h1, h2, h3, h4⟩ := bg_split s e
  rw [h3, cnt_append, h4, cnt_all (fun c hc => Nat.le_trans (Nat.le_of_lt (h1 c hc)) hp), List.length_take]
  have := (List.getElem?_eq_some_iff.mp e).1
  have : 1 ≤ cnt (b :: bg.drop (h + 1)) p := by unfold cnt; simp [hp]
  lia
/-- a position below bg[h] has a height up to h -/
theorem cnt_lt {bg : List Nat} {h b p : Nat} (s : bg.Pairwise (· < ·)) (e : bg[h]? = some b) (hp : p < b) : cnt bg p ≤ h := by
  rw [← cnt_take s e hp]
  have := cnt_le (bg.take h) p
  rw [List.length_take] at this
  lia

noncomputable def HtRow (row : List Int) (bg : List Nat) (ht : List (Int × AV)) : Prop := ∀ p l, row[p]? = some l → ilook ht (ab l) = some (.int (cnt bg p))

structure Heat (hs : List (Int × AV)) : Prop where
  dk : DK 1 4 hs
  all : ∀ v, 1 ≤ v → v ≤ 4 → ∃ i : Int, ilook hs v = some (.int i)
  nums : ∀ p ∈ hs, ∃ i : Int, p.2 = .int i

/-- the links within a search -/
structure Lk (σ : Sg) : Prop where
  rng : ∀ l ∈ σ.row, 1 ≤ ab l ∧ ab l ≤ 4
  nd : (σ.row.map ab).Nodup
  kn : KnRow σ.row σ.kn
  ht : HtRow σ.row σ.bg σ.ht
  cs : ∀ l ∈ σ.row, ilook σ.cs (ab l) = some .none ∨ ∃ n : Nat, ilook σ.cs (ab l) = some (.int n)
  dkn : DK 1 4 σ.kn
  bkn : Bools σ.kn
  dht : DK 1 4 σ.ht
  dcs : DK 1 4 σ.cs
  dlk : DK 1 4 σ.lk
  blk : Bools σ.lk
  heat : Heat σ.heats
  bgs : σ.bg.Pairwise (· < ·)
  bgl : ∀ b ∈ σ.bg, b < σ.row.length ∧ b ≤ σ.seen
  sl : σ.seen ≤ σ.row.length

theorem row_len {row : List Int} (rng : ∀ l ∈ row, 1 ≤ ab l ∧ ab l ≤ 4) (nd : (row.map ab).Nodup) : row.length ≤ 4 := by
  have := nodup_len (lo := 1) (hi := 4) nd (fun x hx => by obtain ⟨l, hl, rfl⟩ := List.mem_map.mp hx; exact rng l hl)
  simpa using this
theorem Lk.rowLen {σ : Sg} (h : Lk σ) : σ.row.length ≤ 4 := row_len h.rng h.nd
theorem incr_len : ∀ {bg : List Nat} {n : Nat}, bg.Pairwise (· < ·) → (∀ b ∈ bg, b < n) → bg.length ≤ n := fun {bg n} h hb => by
  have := nodup_len (lo := 0) (hi := (n : Int) - 1) (l := bg.map (fun (n : Nat) => (n : Int))) (by
    rw [List.Nodup, List.pairwise_map]; exact h.imp (by intro a b; lia)) (fun x hx => by obtain ⟨l, hl, rfl⟩ := List.mem_map.mp hx; have := hb l hl; lia)
  rw [List.length_map] at this
  lia
theorem Lk.bgLen {σ : Sg} (h : Lk σ) : σ.bg.length ≤ σ.row.length := incr_len h.bgs fun b hb => (h.bgl b hb).1

noncomputable def Sg.back (σ : Sg) (l : Addr) (b h : Nat) (kn lk : List (Int × AV)) : Sg := { σ with row := σ.row.take b, kn := kn, lk := lk, aBg := l, bg := σ.bg.take h, seen := b }

/-- Lk by its parts: the row, kn, ht, cs, lk, bg, seen may change -/
theorem Lk.of {σ σ' : Sg} (L : Lk σ) {row kn ht cs lk heats bg seen} (e1 : σ'.row = row) (e2 : σ'.kn = kn) (e3 : σ'.ht = ht) (e4 : σ'.cs = cs) (e5 : σ'.lk = lk) (e6 : σ'.heats = heats) (e7 : σ'.bg = bg) (e8 : σ'.seen = seen)
    (rng : ∀ l ∈ row, 1 ≤ ab l ∧ ab l ≤ 4)
    (nd : (row.map ab).Nodup)
    (hkn : KnRow row kn)
    (hht : HtRow row bg ht)
    (hcs : ∀ l ∈ row, ilook cs (ab l) = some .none ∨ ∃ n : Nat, ilook cs (ab l) = some (.int n))
    (dkn : DK 1 4 kn)
    (bkn : Bools kn)
    (dht : DK 1 4 ht)
    (dcs : DK 1 4 cs)
    (dlk : DK 1 4 lk)
    (blk : Bools lk)
    (heat : Heat heats)
    (bgs : bg.Pairwise (· < ·))
    (bgl : ∀ b ∈ bg, b < row.length ∧ b ≤ seen)
    (sl : seen ≤ row.length) : Lk σ' := by
  subst e1 e2 e3 e4 e5 e6 e7 e8
  exact ⟨rng, nd, hkn, hht, hcs, dkn, bkn, dht, dcs, dlk, blk, heat, bgs, bgl, sl⟩
theorem Lk.back {σ : Sg} (L : Lk σ) {l h b kn lk} (e : σ.bg[h]? = some b) (k : KnRow (σ.row.take b) kn) (d1 : DK 1 4 kn) (b1 : Bools kn) (d2 : DK 1 4 lk) (b2 : Bools lk) : Lk (σ.back l b h kn lk) := by
  have hb := L.bgl b (List.mem_of_getElem? e)
  refine L.of (row := σ.row.take b) (kn := kn) (ht := σ.ht) (cs := σ.cs) (lk := lk) (heats := σ.heats) (bg := σ.bg.take h) (seen := b) rfl rfl rfl rfl rfl rfl rfl rfl
    (fun l hl => L.rng l (List.mem_of_mem_take hl)) ?_ k (fun p l hl => ?_) (fun l hl => L.cs l (List.mem_of_mem_take hl)) d1 b1 L.dht L.dcs d2 b2 L.heat ?_ (fun c hc => ?_) ?_
  · rw [List.map_take]; exact L.nd.sublist (List.take_sublist ..)
  · have hp : p < b := by
      apply Nat.lt_of_not_le; intro q
      rw [List.getElem?_take_eq_none q] at hl; cases hl
    rw [List.getElem?_take_of_lt hp] at hl
    rw [cnt_take L.bgs e hp]; exact L.ht p l hl
  · exact L.bgs.sublist (List.take_sublist ..)
  · have := (bg_split L.bgs e).1 c hc
    rw [List.length_take]; lia
  · rw [List.length_take]; lia

noncomputable def Sg.letS (σ : Sg) (i : Int) (c : AV) : Sg := { σ with kn := istore σ.kn (ab i) (.bool (decide (0 < i))), ht := istore σ.ht (ab i) (.int σ.bg.length), cs := istore σ.cs (ab i) c, row := σ.row ++ [i] }
theorem letS_eq (σ : Sg) (i : Int) (c : AV) : ((((σ.setKn (istore σ.kn (ab i) (.bool (decide (0 < i))))).setHt (istore σ.ht (ab i) (.int σ.bg.length))).setCs (istore σ.cs (ab i) c)).setRow (σ.row ++ [i])) = σ.letS i c := by cases σ; rfl
theorem let_specS {H : AH} {σ : Sg} {i : Int} {c : AV} (hA : At H σ) (h1 : σ.kn.length ≤ 1048576) (h2 : σ.ht.length ≤ 1048576) (h3 : σ.cs.length ≤ 1048576) (h4 : σ.row.length ≤ 1048576) (h5 : σ.bg.length ≤ 1048576) :
    Deed 1 97 [.ref σ.x, .int i, c] H .none (σ.letS i c) := letS_eq σ i c ▸ let_spec hA h1 h2 h3 h4 h5
theorem Lk.letS {σ : Sg} (L : Lk σ) {i : Int} {c : AV} (h1 : 1 ≤ ab i) (h2 : ab i ≤ 4) (hn : ab i ∉ σ.row.map ab) (hc : c = .none ∨ ∃ n : Nat, c = .int n) : Lk (σ.letS i c) := by
  refine L.of (row := σ.row ++ [i]) (kn := istore σ.kn (ab i) (.bool (decide (0 < i)))) (ht := istore σ.ht (ab i) (.int σ.bg.length)) (cs := istore σ.cs (ab i) c) (lk := σ.lk) (heats := σ.heats) (bg := σ.bg) (seen := σ.seen) rfl rfl rfl rfl rfl rfl rfl rfl
    (fun l hl => ?_) ?_ (L.kn.push h1 hn) (fun p l hl => ?_) (fun l hl => ?_) (L.dkn.istore h1 h2) (L.bkn.istore _ _) (L.dht.istore h1 h2) (L.dcs.istore h1 h2) L.dlk L.blk L.heat L.bgs (fun b hb => ?_) ?_
  · rcases List.mem_append.mp hl with hl | hl
    · exact L.rng l hl
    · rw [List.mem_singleton.mp hl]; exact ⟨h1, h2⟩
  · rw [List.map_append, List.nodup_append]
    exact ⟨L.nd, by simp, fun a ha b hb e => by rw [show b = ab i by simpa using hb] at e; exact hn (e ▸ ha)⟩
  · rw [ilook_istore]
    by_cases hp : p < σ.row.length
    · rw [List.getElem?_append_left hp] at hl
      rw [if_neg (fun e => hn (by rw [← e]; exact List.mem_map_of_mem (List.mem_of_getElem? hl)))]
      exact L.ht p l hl
    · have hp' : p = σ.row.length := by
        have := (List.getElem?_eq_some_iff.mp hl).1
        rw [List.length_append, List.length_singleton] at this; (clear h1 h2 hn hc; lia)
      subst hp'
      have : l = i := by simpa using hl.symm
      subst this
      rw [if_pos rfl, cnt_all (fun b hb => Nat.le_of_lt (L.bgl b hb).1)]
  · rw [ilook_istore]
    split
    · rcases hc with rfl | ⟨n, rfl⟩
      · exact .inl rfl
      · exact .inr ⟨n, rfl⟩
    · rename_i hne
      rcases List.mem_append.mp hl with hl | hl
      · exact L.cs l hl
      · exact absurd (by rw [List.mem_singleton.mp hl]) hne
  · have := L.bgl b hb
    refine ⟨?_, this.2⟩
    rw [List.length_append]; (clear h1 h2 hn hc; lia)
  · have := L.sl
    rw [List.length_append]; (clear h1 h2 hn hc; lia)
--T S3


theorem back_to_spec {H : AH} {σ : Sg} {h : Nat} (hA : At H σ) (L : Lk σ) (Φ : AV → AH → Prop)
    (h0 : σ.bg.length ≤ h → Φ .none H) (h1 : ∀ b : Nat, σ.bg[h]? = some b → ∀ l kn lk H', KnRow (σ.row.take b) kn → DK 1 4 kn → Bools kn → DK 1 4 lk → Bools lk → At H' (σ.back l b h kn lk) → Fr0 H H' → Φ .none H') : Spec 1 104 [.ref σ.x, .int h] H Φ := by
  refine spec_plain (fun w => rfl) (fun w => rfl) (binds2 (n1 := "self") (n2 := "height") (fun _ _ => rfl) rfl) (by rfl) (by decide) rfl rfl rfl (fun C hroom hfe hlt => ?_)
  generalize hm : (fun x => List.lookup x _ : Loc) = m
  have ms : m (PySem.Str.ofString "self") = some (.ref σ.x) := by rw [← hm]; rfl
  have mh : m (PySem.Str.ofString "height") = some (.int h) := by rw [← hm]; rfl
  clear hm
  have hr := L.rowLen
  have hbl := L.bgLen
  repeat walk_at "s"
  refine cv_lenn (l := σ.bg) (hA .begins _ _ rfl) (by (clear h0 hroom; lia)) ?_
  repeat walk_at "s"
  refine ite_split (fun hlt' => ?_) (fun hlt' => ?_)
  · have hlt2 : h < σ.bg.length := by have := of_decide_eq_true hlt'; (clear h0 hroom hr hbl; omega)
    refine opqG (fun goalP goalH => ?_)
    obtain ⟨b, hbg⟩ : ∃ b, σ.bg[h]? = some b := ⟨_, List.getElem?_eq_getElem hlt2⟩
    all_goals first | (refine goalH ?_; clear goalH goalP) | skip
    have hbr := (L.bgl b (List.mem_of_getElem? hbg)).1
    repeat walk_at "s"
    refine ex_whileO (fun n m' H' => m' (PySem.Str.ofString "self") = some (.ref σ.x) ∧ m' (PySem.Str.ofString "height") = some (.int h) ∧ ∃ k kn lk, At H' (((σ.setRow (σ.row.take k)).setKn kn).setLk lk) ∧ Fr0 H H' ∧ n = k - b ∧ b ≤ k ∧ k ≤ σ.row.length ∧ KnRow (σ.row.take k) kn ∧ DK 1 4 kn ∧ Bools kn ∧ DK 1 4 lk ∧ Bools lk) (σ.row.length - b)
      ⟨ms, mh, σ.row.length, σ.kn, σ.lk, by rw [List.take_length]; exact hA, .refl, rfl, Nat.le_of_lt hbr, Nat.le_refl _, by rw [List.take_length]; exact L.kn, L.dkn, L.bkn, L.dlk, L.blk⟩ ?_
    intro n m' H' goalQ
    refine opqG (fun goalP goalH => ?_)
    obtain ⟨ms', mh', k, kn, lk, hA', f, rfl, hbk, hkr, kr, d1, b1, d2, b2⟩ := goalQ
    all_goals first | (refine goalH ?_; clear goalH goalP) | skip
    clear hA
    repeat walk_at "s"
    refine cv_leni (l := σ.row.take k) (hA' .row _ _ rfl) (by simp; (clear h0 hroom hbl hlt2 hbr hbk; lia)) ?_
    repeat walk_at "s"
    refine op_itemn (l := σ.bg) (hA' .begins _ _ rfl) (by (clear h0 hroom hr hbl hlt2 hbr hbk hkr; lia)) (by simpa using hbg) ?_ (by (clear h0 hroom hbr hbk hkr; lia))
    repeat walk_at "s"
    have hlk : (σ.row.take k).length = k := by simp; (clear h0 hroom hr hbl hlt2 hbr hbk; lia)
    refine ite_split (fun hgt => ?_) (fun hle => ?_)
    · have hkb : b < k := by have := of_decide_eq_true hgt; rw [hlk] at this; (clear h0 hroom hr hbl hlt2 hbr hbk hkr; omega)
      obtain ⟨j, rfl⟩ : ∃ j, k = j + 1 := ⟨k - 1, by (clear h0 hroom hr hbl hlt2 hbr hbk hkr; omega)⟩
      refine opqG (fun goalP goalH => ?_)
      obtain ⟨x, hx⟩ : ∃ x, σ.row[j]? = some x := ⟨σ.row[j], by rw [List.getElem?_eq_getElem]⟩
      all_goals first | (refine goalH ?_; clear goalH goalP) | skip
      have htk : σ.row.take (j + 1) = σ.row.take j ++ [x] := by rw [List.take_add_one, hx]; rfl
      have hxm : x ∈ σ.row := List.mem_of_getElem? hx
      have nd' : ((σ.row.take j ++ [x]).map ab).Nodup := by rw [← htk, List.map_take]; exact L.nd.sublist (List.take_sublist ..)
      rw [htk] at kr
      repeat walk_at "s"
      refine ⟨_, _, _, rfl, hA' .row _ _ rfl, rfl, ?_⟩
      refine cv_lpopi_comp (l := σ.row.take j) (x := x) (((σ.setRow (σ.row.take j)).setKn kn).setLk lk) hA' f (t := .row) (by rw [← htk]; rfl) (by simp; (clear h0 hroom hbl hlt2 hbr hbk hkb; lia)) (fun u => by cases u <;> rfl) ?_
      clear hA' f; intro H2 hA f
      repeat walk_at "s"
      refine ⟨_, _, _, rfl, hA .known _ _ rfl, rfl, ?_⟩
      repeat walk_at "s"
      refine cv_dpop1_comp (kvs := kn) (((σ.setRow (σ.row.take j)).setKn (idel kn (ab x))).setLk lk) hA f (t := .known) rfl (by have := d1.len; (clear h0 hroom hr hbl hlt2 hbr hbk hkr hlk hkb; lia)) (kr.of_mem nd' (L.rng x hxm).1 (by simp)) (fun u => by cases u <;> rfl) ?_
      clear hA f; intro H3 hA f
      repeat walk_at "s"
      refine op_set_comp (kvs := lk) (((σ.setRow (σ.row.take j)).setKn (idel kn (ab x))).setLk (istore lk (ab x) (.bool (decide (0 < x))))) hA f (t := .liked) rfl (by have := d2.len; (clear h0 hroom hr hbl hlt2 hbr hbk hkr hlk hkb; lia)) (fun u => by cases u <;> rfl) ?_
      clear hA f; intro H4 hA f
      repeat walk_at "s"
      refine ⟨j - b, by (clear h0 hroom hr hbl hlt2 hbr hbk hkr; omega), ?_, ?_, j, _, _, hA, f, rfl, by (clear h0 hroom hr hbl hlt2 hbr hbk hkr; omega), by (clear h0 hroom hr hbl hlt2 hbr hbk hkb; lia), kr.pop nd', d1.idel _, b1.idel _, d2.istore (L.rng x hxm).1 (L.rng x hxm).2, b2.istore _ _⟩
      · walk_at "loc"
      · walk_at "loc"
    · have hkb : k = b := by have := of_decide_eq_false hle; rw [hlk] at this; (clear h0 hroom hr hbl hlt2 hbr hkr; lia)
      subst hkb
      repeat walk_at "s"
      refine ex_self_new .begins ?_
      refine ev_slice ?_
      repeat walk_at "s"
      refine ⟨_, rfl, _, _, σ.bg.map fun (n : Nat) => AV.int n, rfl, hA' .begins _ _ rfl, by rw [List.length_map]; (clear h0 hroom hlt2 hkr hlk hbr hbk; lia), fun l hl => ?_⟩
      rw [pickA_to, ← List.map_take]
      refine ⟨l, _, _, _, (((σ.setRow (σ.row.take k)).setKn kn).setLk lk).newBg l (σ.bg.take h), rfl, AH.set_self, rfl, hA'.out (.inl hl), ms', fun u => by cases u <;> rfl, fun H3 hA f2 => ?_⟩
      have f3 : Fr0 H H3 := fun b t o e ho => f2 b (by rintro rfl; have := f _ _ _ e ho; rw [hl] at this; cases this) t o (AH.set_new hl (f _ _ _ e ho)) ho
      clear f hA' f2
      repeat walk_at "s"
      refine ex_self_f (H0 := H) ?_
      repeat walk_at "s"
      refine cv_leni (l := σ.row.take k) (hA .row _ _ rfl) (by simp; (clear h0 hroom hbl hlt2 hkr hbk; lia)) ?_
      rw [hlk]
      refine ⟨_, σ.back l k h kn lk, hA, ms', fun u => by cases u <;> rfl, f3, fun H4 hA f => ?_⟩
      repeat walk_at "s"
      exact h1 k hbg l kn lk H4 kr d1 b1 d2 b2 hA f
  · repeat walk_at "s"
    exact h0 (by have := of_decide_eq_false hlt'; (clear h0 hroom hr hbl; omega))
--T S4


/-! rows and watch lists -/
namespace Sg
noncomputable def addRow (σ : Sg) (l : Addr) (r : List Int) : Sg := { σ with rows := σ.rows ++ [(l, r)] }
noncomputable def putRow (σ : Sg) (n : Nat) (a : Addr) (r : List Int) : Sg := { σ with rows := σ.rows.set n (a, r) }
noncomputable def setWt (σ : Sg) (wt : List (Int × Addr × List Nat)) : Sg := { σ with wt := wt }
end Sg
noncomputable def wkv (wt : List (Int × Addr × List Nat)) : List (Int × AV) := wt.map fun q => (q.1, .ref q.2.1)
noncomputable def wset (wt : List (Int × Addr × List Nat)) (l : Int) (ns : List Nat) : List (Int × Addr × List Nat) := wt.map fun q => if q.1 = l then (q.1, q.2.1, ns) else q
noncomputable def wdel (wt : List (Int × Addr × List Nat)) (l : Int) : List (Int × Addr × List Nat) := wt.filter fun q => q.1 ≠ l
noncomputable def wls (wt : List (Int × Addr × List Nat)) (l : Int) : List Nat := ((wlook wt l).map (·.2)).getD []

theorem ilook_wkv (wt) (k : Int) : ilook (wkv wt) k = (wlook wt k).map fun q => AV.ref q.1 := by
  unfold ilook wkv wlook
  induction wt with
  | nil => rfl
  | cons p r ih =>
    simp only [List.map_cons, List.find?_cons]
    by_cases h : p.1 = k
    · simp [h]
    · simp only [h, decide_false]; exact ih
theorem istore_wkv {wt} {k : Int} {a ns} (h : wlook wt k = none) : istore (wkv wt) k (.ref a) = wkv (wt ++ [(k, a, ns)]) := by
  have hn : ∀ p ∈ wt, p.1 ≠ k := by
    intro p hp e
    unfold wlook at h
    rw [Option.map_eq_none_iff, List.find?_eq_none] at h
    exact h p hp (by simp [e])
  unfold istore wkv
  rw [if_neg]
  · simp
  · intro q
    obtain ⟨p, hp, e⟩ := List.any_eq_true.mp q
    obtain ⟨r, hr, rfl⟩ := List.mem_map.mp hp
    exact hn r hr (by simpa using e)
theorem idel_wkv (wt) (k : Int) : idel (wkv wt) k = wkv (wdel wt k) := by
  unfold idel wkv wdel
  rw [List.filter_map]; rfl
theorem wlook_wset (wt) (l k : Int) (ns) : wlook (wset wt l ns) k = if k = l then (wlook wt l).map (fun q => (q.1, ns)) else wlook wt k := by
  unfold wlook wset
  induction wt with
  | nil => simp
  | cons p r ih =>
    simp only [List.map_cons, List.find?_cons]
    by_cases h : p.1 = l
    · simp only [h, if_true]
      by_cases hk : k = l
      · subst hk; simp
      · have e1 : ¬ l = k := fun e => hk e.symm
        simp only [e1, decide_false, hk, if_false] at ih ⊢
        exact ih
    · simp only [h, if_false, decide_false]
      by_cases hk : p.1 = k
      · have : ¬ k = l := fun e => h (hk.trans e)
        simp [hk, this]
      · simp only [hk, decide_false]; exact ih
theorem wkv_wset (wt) (l : Int) (ns) : wkv (wset wt l ns) = wkv wt := by
  unfold wkv wset
  rw [List.map_map]; apply List.map_congr_left; intro q _
  show ((if q.1 = l then (q.1, q.2.1, ns) else q).1, AV.ref (if q.1 = l then (q.1, q.2.1, ns) else q).2.1) = (q.1, AV.ref q.2.1)
  split <;> rfl
theorem wlook_app {wt} {k : Int} {a ns} (h : wlook wt k = none) (j : Int) : wlook (wt ++ [(k, a, ns)]) j = if j = k then some (a, ns) else wlook wt j := by
  unfold wlook at h ⊢
  rw [List.find?_append]
  by_cases hj : j = k
  · subst hj
    rw [Option.map_eq_none_iff] at h
    rw [h]; simp
  · have : ¬ k = j := fun e => hj e.symm
    simp [hj, this]
theorem wlook_wdel (wt) (l k : Int) : wlook (wdel wt l) k = if k = l then none else wlook wt k := by
  unfold wlook wdel
  induction wt with
  | nil => simp
  | cons p r ih =>
    simp only [List.filter_cons]
    by_cases hp : p.1 = l
    · simp only [hp, ne_eq, not_true_eq_false, decide_false, Bool.false_eq_true, if_false, List.find?_cons]
      rw [ih]
      by_cases hj : k = l
      · simp [hj]
      · have : ¬ l = k := fun e => hj e.symm
        simp [hj, this]
    · simp only [ne_eq, hp, not_false_eq_true, decide_true, if_true, List.find?_cons]
      by_cases hpj : p.1 = k
      · have : ¬ k = l := fun e => hp (hpj.trans e)
        simp [hpj, this]
      · simp only [hpj, decide_false]; exact ih
section
variable (σ : Sg) (u : Tag)
theorem at_wt0 {wt} : (σ.setWt wt).at u = match u with | .watching => some (σ.aWt, .idict (wkv wt)) | .watch l => (wlook wt l).map fun q => (q.1, natsO q.2) | u => σ.at u := by cases u <;> rfl
theorem at_wset {l a ns ns'} (h : wlook σ.wt l = some (a, ns)) : (σ.setWt (wset σ.wt l ns')).at u = if u = .watch l then some (a, natsO ns') else σ.at u := by
  rw [at_wt0]
  cases u with
  | watching => rw [if_neg (by intro q; cases q), wkv_wset]; rfl
  | watch k =>
    show (wlook (wset σ.wt l ns') k).map _ = _
    rw [wlook_wset]
    by_cases e : k = l
    · subst e; rw [if_pos rfl, if_pos rfl, h]; rfl
    · rw [if_neg e, if_neg (by intro q; injection q; contradiction)]; rfl
  | _ => rfl
theorem at_wnew {l a ns} (h : wlook σ.wt l = none) : (σ.setWt (σ.wt ++ [(l, a, ns)])).at u = if u = .watch l then some (a, natsO ns) else if u = .watching then some (σ.aWt, .idict (istore (wkv σ.wt) l (.ref a))) else σ.at u := by
  rw [at_wt0]
  cases u with
  | watching => rw [if_neg (by intro q; cases q), if_pos rfl, istore_wkv h]
  | watch k =>
    show (wlook (σ.wt ++ [(l, a, ns)]) k).map _ = _
    rw [wlook_app h]
    by_cases e : k = l
    · subst e; rw [if_pos rfl, if_pos rfl]; rfl
    · rw [if_neg e, if_neg (by intro q; injection q; contradiction)]; rfl
  | _ => rfl
theorem at_wdel {l} : (σ.setWt (wdel σ.wt l)).at u = if u = .watch l then none else if u = .watching then some (σ.aWt, .idict (idel (wkv σ.wt) l)) else σ.at u := by
  rw [at_wt0]
  cases u with
  | watching => rw [if_neg (by intro q; cases q), if_pos rfl, idel_wkv]
  | watch k =>
    show (wlook (wdel σ.wt l) k).map _ = _
    rw [wlook_wdel]
    by_cases e : k = l
    · subst e; rw [if_pos rfl, if_pos rfl]; rfl
    · rw [if_neg e, if_neg (by intro q; injection q; contradiction)]; rfl
  | _ => rfl
theorem at_addRow {l r} : (σ.addRow l r).at u = if u = .clause σ.rows.length then some (l, intsO r) else if u = .rows then some (σ.aRows, .list ((σ.rows.map fun q => AV.ref q.1) ++ [.ref l])) else σ.at u := by
  cases u with
  | clause i =>
    show ((σ.rows ++ [(l, r)])[i]?).map _ = _
    by_cases e : i = σ.rows.length
    · subst e; simp
    · rw [if_neg (by intro q; injection q; contradiction), if_neg (by intro q; cases q)]
      show _ = (σ.rows[i]?).map _
      by_cases q : i < σ.rows.length
      · rw [List.getElem?_append_left q]
      · rw [List.getElem?_eq_none (by simp; lia), List.getElem?_eq_none (by omega)]
  | rows => rw [if_neg (by intro q; cases q), if_pos rfl]; show some (_, AO.list ((σ.rows ++ [(l, r)]).map _)) = _; rw [List.map_append]; rfl
  | _ => rfl
theorem at_putRow {n a r r'} (h : σ.rows[n]? = some (a, r)) : (σ.putRow n a r').at u = if u = .clause n then some (a, intsO r') else σ.at u := by
  have hl := (List.getElem?_eq_some_iff.mp h).1
  cases u with
  | clause i =>
    show ((σ.rows.set n (a, r'))[i]?).map _ = _
    rw [List.getElem?_set]
    by_cases e : n = i
    · subst e; rw [if_pos rfl, if_pos rfl, if_pos hl]; rfl
    · rw [if_neg e, if_neg (by intro q; injection q with q; exact e q.symm)]; rfl
  | rows =>
    rw [if_neg (by intro q; cases q)]
    show some (_, AO.list ((σ.rows.set n (a, r')).map _)) = some (_, AO.list (σ.rows.map _))
    rw [List.map_set]
    have : (σ.rows.map fun r => AV.ref r.1).set n (AV.ref a) = σ.rows.map fun r => AV.ref r.1 := by
      apply List.ext_getElem?
      intro i
      rw [List.getElem?_set]
      split
      · rename_i e; subst e; rw [List.getElem?_map, h, if_pos (by simpa using hl)]; rfl
      · rfl
    rw [this]; rfl
  | _ => rfl
end
/-- nothing from outside stands at l -/
noncomputable def NotOut (H : AH) (l : Addr) : Prop := ∀ t o, H l = some (t, o) → t.out = false
theorem NotOut.none {H : AH} {l} (h : H l = none) : NotOut H l := fun t o e => by rw [h] at e; cases e
theorem Fr0.fresh {H0 H : AH} {l} (f : Fr0 H0 H) (h : H l = none) : NotOut H0 l := fun t o e => by
  cases ho : t.out with
  | false => rfl
  | true => have := f _ _ _ e ho; rw [h] at this; cases this
theorem Fr0.adopt {H0 H : AH} {l x} (f : Fr0 H0 H) (h : NotOut H0 l) : Fr0 H0 (H.set l x) := fun b t o e ho => by
  rw [AH.set_ne]
  · exact f _ _ _ e ho
  · rintro rfl; rw [h _ _ e] at ho; cases ho
/-- a new thing becomes a component -/
theorem At.adopt {H : AH} {σ σ' : Sg} {t u : Tag} {a l : Addr} {o o' o1 : AO} {t0 p0} (h : At H σ) (hl : H l = some (t0, p0)) (ho : t0.out = true) (hc : σ.at u = some (a, o)) (h' : ∀ w, σ'.at w = if w = t then some (l, o') else if w = u then some (a, o1) else σ.at w) :
    At ((H.set a (u, o1)).set l (t, o')) σ' := fun w b p e => by
  rw [h'] at e
  have hal : a ≠ l := by
    rintro rfl
    have := h _ _ _ hc
    rw [hl] at this; cases this
    rw [Sg.at_out ho] at hc; cases hc
  by_cases q : w = t
  · subst q; rw [if_pos rfl] at e; cases e; exact AH.set_self
  · rw [if_neg q] at e
    by_cases q2 : w = u
    · subst q2; rw [if_pos rfl] at e; cases e
      rw [AH.set_ne hal]; exact AH.set_self
    · rw [if_neg q2] at e
      have hb := h _ _ _ e
      have hbl : b ≠ l := by rintro rfl; rw [hl] at hb; cases hb; rw [Sg.at_out ho] at e; cases e
      rw [AH.set_ne hbl]
      exact AH.set_tag (h _ _ _ hc) hb q2
theorem CV.retag {C : Ctx} {m : Loc} {H : AH} {f args Φ a t t' o} (hH : H a = some (t, o)) (h : CV C m (H.set a (t', o)) f args Φ) : CV C m H f args Φ := fun vs e s Q E hs hq => by
  obtain ⟨s1, k1⟩ := hs.retag (t' := t') hH
  exact h vs e s Q E s1 fun v H' s' p hs' k => hq v H' s' p hs' (k1.trans k)
theorem CV.post {C : Ctx} {m : Loc} {H : AH} {f args Φ} (h : CV C m H f args (fun v H1 => ∃ a t t' o, H1 a = some (t, o) ∧ Φ v (H1.set a (t', o)))) : CV C m H f args Φ := fun vs e s Q E hs hq =>
  h vs e s Q E hs fun v H1 s1 ⟨a, t, t', o, hH, hΦ⟩ hs1 k => by
    obtain ⟨s2, k2⟩ := hs1.retag (t' := t') hH
    exact hq v _ s1 hΦ s2 (k.trans k2)

section
variable {C : Ctx} {env : Env} {vm m : Loc} {H H0 : AH} {σ : Sg}
/-- rows.append(l) -/
theorem cv_append_row {l : Addr} {r : List Int} {t0 : Tag} {Φ : AV → AH → Prop} (hA : At H σ) (f : Fr0 H0 H) (hl : H l = some (t0, intsO r)) (ho : t0.out = true) (no : NotOut H0 l) (hz : σ.rows.length ≤ 1048576) (h : ∀ H', At H' (σ.addRow l r) → Fr0 H0 H' → Φ .none H') :
    CV C m H (.builtin "list.append") [.ref σ.aRows, .ref l] Φ := by
  have hr := hA .rows _ _ rfl
  have ht0 : Tag.rows ≠ t0 := by rintro rfl; cases ho
  have hal : l ≠ σ.aRows := by rintro rfl; rw [hl] at hr; exact ht0 (congrArg Prod.fst (Option.some.inj hr)).symm
  refine CV.post (cv_append hr (by simpa using hz) ⟨l, t0, .clause σ.rows.length, _, by rw [AH.set_ne hal]; exact hl, ?_⟩)
  exact h _ (hA.adopt hl ho (t := .clause σ.rows.length) rfl (at_addRow σ · )) (Fr0.adopt (f.trans (Fr0.comp hr rfl)) no)
/-- watching.setdefault(k, []) -/
theorem cv_sd_watch {l : Addr} {k : Int} {t0 : Tag} {Φ : AV → AH → Prop} (hA : At H σ) (f : Fr0 H0 H) (hl : H l = some (t0, .list [])) (ho : t0.out = true) (no : NotOut H0 l) (hz : σ.wt.length ≤ 1048576)
    (h : ∀ H' σ' a, At H' σ' → Fr0 H0 H' → (∃ wt, σ' = σ.setWt wt ∧ (∀ j, wls wt j = wls σ.wt j) ∧ wlook wt k = some (a, wls σ.wt k) ∧ (wt = σ.wt ∨ wlook σ.wt k = none ∧ wt = σ.wt ++ [(k, l, [])])) → Φ (.ref a) H') :
    CV C m H (.builtin "dict.setdefault") [.ref σ.aWt, .int k, .ref l] Φ := by
  have hr := hA .watching _ _ rfl
  have hal : l ≠ σ.aWt := by rintro rfl; rw [hl] at hr; cases hr
  cases hk : wlook σ.wt k with
  | some q =>
    have hq : ilook (wkv σ.wt) k = some (.ref q.1) := by rw [ilook_wkv, hk]; rfl
    refine cv_setdefault (kvs := wkv σ.wt) hr (by simpa [wkv] using hz) (fun v hv => ?_) (fun hn => by rw [hq] at hn; cases hn)
    rw [hq] at hv; cases hv
    exact h H σ _ hA f ⟨σ.wt, rfl, fun _ => rfl, by rw [hk]; unfold wls; rw [hk]; rfl, .inl rfl⟩
  | none =>
    have hq : ilook (wkv σ.wt) k = none := by rw [ilook_wkv, hk]; rfl
    refine CV.post (cv_setdefault (kvs := wkv σ.wt) hr (by simpa [wkv] using hz) (fun v hv => by rw [hq] at hv; cases hv) (fun hn => ⟨l, t0, .watch k, _, by rw [AH.set_ne hal]; exact hl, ?_⟩))
    refine h _ (σ.setWt (σ.wt ++ [(k, l, [])])) l (hA.adopt hl ho (t := .watch k) (o' := natsO []) rfl (at_wnew σ · hk)) (Fr0.adopt (f.trans (Fr0.comp hr rfl)) no) ⟨_, rfl, fun j => ?_, ?_, .inr ⟨hk, rfl⟩⟩
    · unfold wls; rw [wlook_app hk]
      split
      · rename_i e; subst e; rw [hk]; rfl
      · rfl
    · rw [wlook_app hk, if_pos rfl]; unfold wls; rw [hk]; rfl
end
--T S5


theorem refute_spec {H : AH} {σ : Sg} (hA : At H σ) (hz : σ.log.length ≤ 1048576) (Φ : AV → AH → Prop) (h : ∀ H' l, At H' ((σ.setRefuted true).setLog (σ.log ++ [.ref l])) → Fr0 H H' → Φ .none H') : Spec 1 137 [.ref σ.x] H Φ := by
  refine spec_plain (fun w => rfl) (fun w => rfl) (binds1 (n1 := "self") (fun _ => rfl) rfl) (by rfl) (by decide) rfl rfl rfl (fun C hr hfe hlt => ?_)
  have f : Fr0 H H := .refl
  repeat walk_at "s"
  refine ex_self_f (H0 := H) ?_
  repeat walk_at "s"
  refine ⟨σ, σ.setRefuted true, hA, by walk_at "loc", (at_refuted σ · _), f, fun H1 hA f => ?_⟩
  repeat walk_at "s"
  refine ⟨_, _, _, rfl, hA .log _ _ rfl, rfl, ?_⟩
  repeat walk_at "s"
  refine ⟨by simp, fun l hl => ?_⟩
  have hA' := hA.out (x := (.tmp, .tup [])) (.inl hl)
  have f' := f.trans (Fr0.new (x := (.tmp, .tup [])) hl)
  clear hA f
  repeat walk_at "s"
  refine cv_append_comp (vs := σ.log) ((σ.setRefuted true).setLog (σ.log ++ [.ref l])) hA' f' (t := .log) rfl hz (at_log _ · _) ?_
  intro H2 hA f
  refine ⟨rfl, ?_⟩
  repeat walk_at "s"
  exact h _ l hA f

theorem value_spec {H : AH} {σ : Sg} {v : Int} (hA : At H σ) (Φ : AV → AH → Prop) (h : Φ ((ilook σ.kn v).getD (.bool false)) H) : Spec 1 217 [.ref σ.x, .int v] H Φ := by
  refine spec_plain (fun w => rfl) (fun w => rfl) (binds2 (n1 := "self") (n2 := "v") (fun _ _ => rfl) rfl) (by rfl) (by decide) rfl rfl rfl (fun C hr hfe hlt => ?_)
  repeat walk_at "s"
  refine ⟨_, _, _, rfl, hA .known _ _ rfl, rfl, ?_⟩
  repeat walk_at "s"
  refine cv_get2 (hA .known _ _ rfl) ?_
  repeat walk_at "s"
  exact h
theorem height_of_spec {H : AH} {σ : Sg} {v : Int} {i : AV} (hA : At H σ) (hv : ilook σ.ht (ab v) = some i) (Φ : AV → AH → Prop) (h : Φ i H) : Spec 1 177 [.ref σ.x, .int v] H Φ := by
  refine spec_plain (fun w => rfl) (fun w => rfl) (binds2 (n1 := "self") (n2 := "literal") (fun _ _ => rfl) rfl) (by rfl) (by decide) rfl rfl rfl (fun C hr hfe hlt => ?_)
  repeat walk_at "s"
  refine op_item_dict (hA .heights _ _ rfl) hv ?_
  repeat walk_at "s"
  exact h
theorem keep_spec {H : AH} {σ : Sg} {a : Addr} {x y : Int} {rest : List Int} {t : Tag} (hA : At H σ) (hl : H a = some (t, intsO (x :: y :: rest))) (ho : t.out = true) (hxy : x ≠ y) (hx : -4 ≤ x ∧ x ≤ 4) (hy : -4 ≤ y ∧ y ≤ 4)
    (dk : DK (-4) 4 (wkv σ.wt)) (hz : rest.length ≤ 100000) (hz1 : σ.rows.length ≤ 1000000) (hz2 : ∀ l, (wls σ.wt l).length ≤ 1000000) (Φ : AV → AH → Prop)
    (h : ∀ H' l wt, At H' ((σ.addRow l (x :: y :: rest)).setWt wt) → Fr0 H H' → DK (-4) 4 (wkv wt) → (∀ j, wls wt j = if j = x ∨ j = y then wls σ.wt j ++ [σ.rows.length] else wls σ.wt j) → Φ (.int σ.rows.length) H') : Spec 1 144 [.ref σ.x, .ref a] H Φ := by
  refine spec_plain (fun w => rfl) (fun w => rfl) (binds2 (n1 := "self") (n2 := "literals") (fun _ _ => rfl) rfl) (by rfl) (by decide) rfl rfl rfl (fun C hr hfe hlt => ?_)
  generalize hm : (fun x => List.lookup x _ : Loc) = m
  have ms : m (PySem.Str.ofString "self") = some (.ref σ.x) := by rw [← hm]; rfl
  have ml : m (PySem.Str.ofString "literals") = some (.ref a) := by rw [← hm]; rfl
  clear hm
  have f : Fr0 H H := .refl
  repeat walk_at "s"
  refine ⟨_, _, _, rfl, hA .rows _ _ rfl, rfl, ?_⟩
  repeat walk_at "s"
  refine cv_list hl (by simp; (clear hxy hx hy hz1 hr; lia)) (fun l hl1 => ?_)
  have hA' := hA.out (x := (.tmp, intsO (x :: y :: rest))) (.inl hl1)
  have f' := f.trans (Fr0.new (x := (.tmp, intsO (x :: y :: rest))) hl1)
  repeat walk_at "s"
  refine cv_append_row hA' f' AH.set_self rfl (.none hl1) (by (clear hxy hx hy hz hr; lia)) (fun H1 hA1 f1 => ?_)
  clear f hA' f'
  refine ⟨rfl, ?_⟩
  repeat walk_at "s"
  refine ex_forO ?_
  repeat walk_at "s"
  refine ⟨2, rfl, _, _, (x :: y :: rest).map .int, rfl, f1 _ _ _ hl ho, by simp; (clear hxy hx hy hz1 hr; lia), fun l2 hl2 => ?_⟩
  have e2 : pickA ((x :: y :: rest).map .int) none (some 2) = [.int x, .int y] := (pickA_to _ 2).trans rfl
  rw [e2]
  have hA2 := hA1.out (x := (.tmp, .list [.int x, .int y])) (.inl hl2)
  have f2 := f1.trans (Fr0.new (x := (.tmp, .list [.int x, .int y])) hl2)
  refine ⟨_, _, src_list AH.set_self, fun i m' H' => m' (PySem.Str.ofString "self") = some (.ref σ.x) ∧ ∃ wt, At H' ((σ.addRow l (x :: y :: rest)).setWt wt) ∧ Fr0 H H' ∧ Fr0 (H1.set l2 (.tmp, .list [.int x, .int y])) H' ∧ DK (-4) 4 (wkv wt) ∧
    (∀ j, wls wt j = if (j = x ∧ 1 ≤ i) ∨ (j = y ∧ 2 ≤ i) then wls σ.wt j ++ [σ.rows.length] else wls σ.wt j), ⟨ms, σ.wt, hA2, f2, .refl, dk, fun j => by rw [if_neg (by (clear hxy hx hy hz hz1 hr; lia))]⟩, fun i m' H' ⟨_, _, _, _, g, _⟩ => ⟨_, g _ _ _ AH.set_self rfl⟩, fun i v hv m' H' ⟨ms', wt, hA, f, g, dk', hw⟩ => ?_, fun m' H' ⟨ms', wt, hA, f, g, dk', hw⟩ => ?_⟩
  · obtain ⟨k, rfl, hk4, hi, hkn, hkw⟩ : ∃ k, v = .int k ∧ (-4 ≤ k ∧ k ≤ 4) ∧ i < 2 ∧ ¬ ((k = x ∧ 1 ≤ i) ∨ (k = y ∧ 2 ≤ i)) ∧ ∀ j, ((j = x ∧ 1 ≤ i + 1) ∨ (j = y ∧ 2 ≤ i + 1)) ↔ (j = k ∨ ((j = x ∧ 1 ≤ i) ∨ (j = y ∧ 2 ≤ i))) := by
      match i, hv with
      | 0, hv => exact ⟨x, by simpa using hv.symm, hx, by (clear hxy hx hy hz hz1 hr; lia), by (clear hxy hx hy hz hz1 hr; lia), by (clear hxy hx hy hz hz1 hr; lia)⟩
      | 1, hv => exact ⟨y, by simpa using hv.symm, hy, by (clear hxy hx hy hz hz1 hr; lia), by (clear hx hy hz hz1 hr; lia), by (clear hxy hx hy hz hz1 hr; lia)⟩
      | i + 2, hv => simp at hv
    clear hA1 f1 hA2 f2
    repeat walk_at "s"
    refine ⟨_, _, _, rfl, hA .watching _ _ rfl, rfl, ?_⟩
    repeat walk_at "s"
    refine ⟨by simp, fun l3 hl3 => ?_⟩
    have hA3 := hA.out (x := (.tmp, .list [])) (.inl hl3)
    have f3 : Fr0 H' (H'.set l3 (.tmp, .list [])) := Fr0.new hl3
    have hwt4 : wt.length ≤ 1048576 := by have := dk'.len; simp [wkv] at this; (clear hxy hx hy hz hz1 hr hk4 hi hkn; lia)
    repeat walk_at "s"
    refine cv_sd_watch (σ := (σ.addRow l (x :: y :: rest)).setWt wt) (k := k) hA3 f3 AH.set_self rfl (.none hl3) hwt4 (fun H4 σ4 a4 hA4 f4 ⟨wt4, e4, w4, q4, c4⟩ => ?_)
    subst e4
    have hA5 : At H4 ((σ.addRow l (x :: y :: rest)).setWt wt4) := hA4
    clear hA hA3 hA4 f3
    have hwk : wls wt k = wls σ.wt k := by rw [hw, if_neg hkn]
    have q5 : wlook wt4 k = some (a4, wls wt k) := q4
    have hla : H4 a4 = some (.watch k, natsO (wls wt k)) := hA5 (.watch k) _ _ (by show (wlook wt4 k).map _ = _; rw [q5]; rfl)
    refine ⟨_, _, _, rfl, hla, rfl, ?_⟩
    repeat walk_at "s"
    refine cv_len (vs := (σ.addRow l (x :: y :: rest)).rows.map fun q => .ref q.1) (hA5 .rows _ _ rfl) (by simp [Sg.addRow]; (clear hxy hx hy hz hr hk4 hi hkn hwt4 c4; lia)) ?_
    repeat walk_at "s"
    have e5 : ((List.map (fun q => AV.ref q.1) (σ.addRow l (x :: y :: rest)).rows).length : Int) - 1 = (σ.rows.length : Nat) := by simp [Sg.addRow]
    rw [e5]
    refine cv_appendn_comp (l := wls wt k) ((σ.addRow l (x :: y :: rest)).setWt (wset wt4 k (wls wt k ++ [σ.rows.length]))) hA5 f4 (t := .watch k) (by show (wlook wt4 k).map _ = _; rw [q5]; rfl) (by rw [hwk]; have := hz2 k; (clear hxy hx hy hz hz1 hr hk4 hi hkn hwt4 c4 e5; lia)) (fun u => ?_) ?_
    · exact at_wset ((σ.addRow l (x :: y :: rest)).setWt wt4) u q5
    intro H6 hA6 f6
    refine ⟨rfl, ?_⟩
    repeat walk_at "s"
    refine ⟨by walk_at "loc", _, hA6, f.trans f6, g.trans f6, ?_, fun j => ?_⟩
    · rw [wkv_wset]
      rcases c4 with e | ⟨hn, e⟩
      · rw [e]; exact dk'
      · rw [e]
        have := istore_wkv (wt := wt) (k := k) (a := l3) (ns := []) hn
        show DK (-4) 4 (wkv (wt ++ [(k, l3, [])]))
        rw [← this]; exact dk'.istore hk4.1 hk4.2
    · have e1 : wls (wset wt4 k (wls wt k ++ [σ.rows.length])) j = if j = k then wls wt k ++ [σ.rows.length] else wls wt j := by
        have := w4 j
        unfold wls at this ⊢
        rw [wlook_wset]
        split
        · rw [q5]; rfl
        · exact this
      rw [e1]
      by_cases hj : j = k
      · subst hj
        rw [if_pos rfl, if_pos ((hkw j).mpr (.inl rfl)), hwk]
      · rw [if_neg hj, hw]
        by_cases hjj : (j = x ∧ 1 ≤ i) ∨ (j = y ∧ 2 ≤ i)
        · rw [if_pos hjj, if_pos ((hkw j).mpr (.inr hjj))]
        · rw [if_neg hjj, if_neg (fun q => ((hkw j).mp q).elim hj hjj)]
  · repeat walk_at "s"
    refine cv_len (vs := (σ.addRow l (x :: y :: rest)).rows.map fun q => .ref q.1) (hA .rows _ _ rfl) (by simp [Sg.addRow]; (clear hxy hx hy hz hr; lia)) ?_
    repeat walk_at "s"
    have e5 : ((List.map (fun q => AV.ref q.1) (σ.addRow l (x :: y :: rest)).rows).length : Int) - 1 = (σ.rows.length : Nat) := by simp [Sg.addRow]
    rw [e5]
    refine h H' l wt hA f dk' fun j => ?_
    rw [hw]
    by_cases hj : j = x ∨ j = y
    · rw [if_pos hj, if_pos (by simp; exact hj)]
    · rw [if_neg hj, if_neg (by simp; exact not_or.mp hj)]
--T Fw12
section
variable {C : Ctx} {env : Env} {vm m : Loc} {H H0 : AH} {σ : Sg}
theorem op_neb {a b : Bool} {Φ} (h : Φ (.bool (!(a == b))) H) : Op2 C env vm m H (compareOp .NotEq) (.bool a) (.bool b) Φ :=
  Op2.pure h fun v1 v2 s Q E e1 e2 hq => by obtain rfl := er_bool e1; obtain rfl := er_bool e2; exact EqBoolInt.of_rcne (SeqAt.RcNeAt.bool_bool a b) (hq _ s.toks rfl)
theorem op_ne_nb {b : Bool} {Φ} (h : Φ (.bool true) H) : Op2 C env vm m H (compareOp .NotEq) .none (.bool b) Φ :=
  Op2.pure h fun v1 v2 s Q E e1 e2 hq => by obtain rfl := er_none e1; obtain rfl := er_bool e2; exact EqNone.ne_none_bool (hq _ s.toks rfl)
theorem op_seti_comp {t a} {l : List Int} {k x : Int} {Φ : AH → Prop} (σ' : Sg) (hA : At H σ) (f : Fr0 H0 H) (hc : σ.at t = some (a, intsO l)) (h0 : 0 ≤ k) (h1 : k < l.length) (hz : l.length ≤ 1048576) (h' : ∀ u, σ'.at u = if u = t then some (a, intsO (l.set k.toNat x)) else σ.at u) (h : ∀ H', At H' σ' → Fr0 H0 H' → Φ H') (ht : t.out = false := by rfl) :
    Op3 C env vm m H setItem (.ref a) (.int k) (.int x) Φ := op_set_list (hA t a _ hc) h0 h1 hz (h _ (hA.upd hc h') (f.trans (Fr0.comp (hA t a _ hc) ht)))
theorem op_fdiv {a b : Int} {Φ} (hb : 0 < b) (hok : b < 1073741824) (h : Φ (.int (a.fdiv b)) H) : Op2 C env vm m H (binaryOp .FloorDiv) (.int a) (.int b) Φ :=
  Op2.pure h fun v1 v2 s Q E e1 e2 hq => by obtain ⟨t, rfl⟩ := er_int e1; obtain ⟨u, rfl⟩ := er_int e2; exact floordiv_int (by lia) (hq _ _ rfl) (.inl (PyProof.noPylong_small (by omega)))
theorem as_cons {e : Expr} {es : List Expr} {a as Φ} (h : SV C env m H (assign e env) a (fun m1 H1 => AS C env m1 H1 ((assignEach es env).map (·.2)) as Φ)) (he : (assignEach (e :: es) env).map (·.2) = assign e env :: (assignEach es env).map (·.2) := by rfl) :
    AS C env m H ((assignEach (e :: es) env).map (·.2)) (a :: as) Φ := by rw [he]; exact h
theorem as_nil {Φ : Loc → AH → Prop} (h : Φ m H) (he : (assignEach [] env).map (·.2) = [] := by rfl) : AS C env m H ((assignEach [] env).map (·.2)) [] Φ := by rw [he]; exact h
theorem as_b {n : Str} {ns : List (Value → Sem Unit)} {a as Φ} (h : SV C env m H (bindName env n) a (fun m1 H1 => AS C env m1 H1 ns as Φ)) : AS C env m H (bindName env n :: ns) (a :: as) Φ := h
theorem as_b0 {Φ : Loc → AH → Prop} (h : Φ m H) : AS C env m H [] [] Φ := h
theorem ex_join {b : Bool} {t1 t2 : Sem Flow} {K : Loc → AH → Prop} {Φ : AFl → Loc → AH → Prop} (P : Loc → AH → Prop) (h1 : b = true → EX C env m H t1 (seqP P Φ)) (h2 : b = false → EX C env m H t2 (seqP P Φ)) (h : ∀ m' H', P m' H' → K m' H') :
    if b = true then EX C env m H t1 (seqP K Φ) else EX C env m H t2 (seqP K Φ) :=
  ite_split (fun e => (h1 e).mono fun f m' H' p => by cases f <;> first | exact h _ _ p | exact p) (fun e => (h2 e).mono fun f m' H' p => by cases f <;> first | exact h _ _ p | exact p)
end
/-- truth of a literal by the row -/
noncomputable def tv (row : List Int) (l : Int) : Option Bool := if l ∈ row then some true else if -l ∈ row then some false else none
noncomputable def avo : Option Bool → AV | none => .none | some b => .bool b
theorem says_tv {σ : Sg} (L : Lk σ) {l : Int} (hl : 1 ≤ ab l) : saysV σ.kn l = avo (tv σ.row l) := by
  unfold saysV
  rw [L.kn (ab l) hl]
  unfold tv
  by_cases h : l < 0
  · have e : ab l = -l := by unfold ab; rw [if_pos h]
    rw [e, Int.neg_neg]
    have h0 : l ≠ 0 := by lia
    by_cases h1 : -l ∈ σ.row
    · have h2 : l ∉ σ.row := by have := nd_neg L.nd (x := -l) (by (clear h h0; omega)) h1; rwa [Int.neg_neg] at this
      rw [if_pos h1, if_neg h2, if_pos h1, decide_eq_false (by (clear h h0 h2; lia))]; rfl
    · rw [if_neg h1]
      by_cases h2 : l ∈ σ.row
      · rw [if_pos h2, if_pos h2, decide_eq_false (by (clear h h0 h1; lia))]; rfl
      · rw [if_neg h2, if_neg h2, if_neg h1]; rfl
  · have e : ab l = l := by unfold ab; rw [if_neg h]
    have h0 : 0 < l := by unfold ab at hl; rw [if_neg h] at hl; lia
    rw [e]
    by_cases h1 : l ∈ σ.row
    · rw [if_pos h1, if_pos h1, decide_eq_true h0]; rfl
    · rw [if_neg h1, if_neg h1]
      by_cases h2 : -l ∈ σ.row
      · rw [if_pos h2, if_pos h2, decide_eq_true h0]; rfl
      · rw [if_neg h2, if_neg h2]; rfl
section
variable {C : Ctx} {env : Env} {vm m : Loc} {H H0 : AH} {σ : Sg}
theorem op_eq_avo {o : Option Bool} {b : Bool} {Φ} (h : Φ (.bool (o == some b)) H) : Op2 C env vm m H (compareOp .Eq) (avo o) (.bool b) Φ := by
  cases o with
  | none => exact op_eq_nb (by simpa using h)
  | some c => exact op_eqb (by simpa using h)
theorem op_ne_avo {o : Option Bool} {b : Bool} {Φ} (h : Φ (.bool (o != some b)) H) : Op2 C env vm m H (compareOp .NotEq) (avo o) (.bool b) Φ := by
  cases o with
  | none => exact op_ne_nb h
  | some c => exact op_neb (by revert h; cases b <;> cases c <;> exact id)
theorem op_is_avo {o : Option Bool} {Φ} (h : Φ (.bool o.isNone) H) : Op2 C env vm m H (compareOp .Is) (avo o) .none Φ := by
  cases o with
  | none => exact op_is_none (a := .none) h
  | some c => exact op_is_none (a := .bool c) h
/-- a call of says -/
theorem cv_says {i : Int} {Φ : AV → AH → Prop} (hA : At H σ) (L : Lk σ) (hi : 1 ≤ ab i) (hr : 1 ≤ C.room) (h : Φ (avo (tv σ.row i)) H) : CV C m H (.ref 90) [.ref σ.x, .int i] Φ :=
  says_spec hA L.bkn (by rw [says_tv L hi]; exact h) C m hr
theorem Lk.putRow {n a r} (L : Lk σ) : Lk (σ.putRow n a r) := L.of rfl rfl rfl rfl rfl rfl rfl rfl L.rng L.nd L.kn L.ht L.cs L.dkn L.bkn L.dht L.dcs L.dlk L.blk L.heat L.bgs L.bgl L.sl
theorem Lk.setWt {wt} (L : Lk σ) : Lk (σ.setWt wt) := L.of rfl rfl rfl rfl rfl rfl rfl rfl L.rng L.nd L.kn L.ht L.cs L.dkn L.bkn L.dht L.dcs L.dlk L.blk L.heat L.bgs L.bgl L.sl
theorem Lk.addRow {l r} (L : Lk σ) : Lk (σ.addRow l r) := L.of rfl rfl rfl rfl rfl rfl rfl rfl L.rng L.nd L.kn L.ht L.cs L.dkn L.bkn L.dht L.dcs L.dlk L.blk L.heat L.bgs L.bgl L.sl
end
theorem rng_len (a b : Int) : (rngItems a b).length = (b - a).toNat := by simp [rngItems]
theorem rng_get {a b : Int} {i : Nat} {v : AV} (h : (rngItems a b)[i]? = some v) : i < (b - a).toNat ∧ v = .int (a + i) := by
  have hi : i < (b - a).toNat := by rw [← rng_len]; exact (List.getElem?_eq_some_iff.mp h).1
  refine ⟨hi, ?_⟩
  unfold rngItems at h
  rw [List.getElem?_map, List.getElem?_range hi] at h
  exact (Option.some.inj h).symm
local macro_rules | `(tactic| walk_at "s") => `(tactic| first
  | ((with_reducible show AS _ _ _ _ (List.map _ (assignEach (_ :: _) _)) (_ :: _) _); refine as_cons ?_)
  | ((with_reducible show AS _ _ _ _ (List.map _ (assignEach [] _)) [] _); refine as_nil ?_)
  | with_reducible refine as_b ?_
  | with_reducible refine as_b0 ?_)
--T S6


/-- some[1], some[k] = some[k], lost -/
noncomputable def hmSet (z lost : Int) (rest : List Int) (k : Nat) (u : Int) : List Int := z :: u :: rest.set k lost
theorem has_moved_spec {H : AH} {σ : Sg} {n : Nat} {a : Addr} {x y z lost : Int} {rest : List Int} (hA : At H σ) (L : Lk σ) (hn : σ.rows[n]? = some (a, x :: y :: rest)) (hz : (x = lost ∧ z = y) ∨ (x ≠ lost ∧ z = x ∧ y = lost))
    (hr : ∀ l ∈ x :: y :: rest, 1 ≤ ab l ∧ ab l ≤ 4) (hrl : rest.length ≤ 100) (dk : DK (-4) 4 (wkv σ.wt)) (hrows : σ.rows.length ≤ 1000000) (hz2 : ∀ l, (wls σ.wt l).length ≤ 1000000) (Φ : AV → AH → Prop)
    (h0 : ∀ H', At H' (σ.putRow n a (z :: lost :: rest)) → Fr0 H H' → (z ∈ σ.row ∨ ∀ l ∈ rest, tv σ.row l = some false) → Φ (.bool false) H')
    (h1 : ∀ H' wt (k : Nat) u, At H' ((σ.putRow n a (hmSet z lost rest k u)).setWt wt) → Fr0 H H' → rest[k]? = some u → z ∉ σ.row → tv σ.row u ≠ some false → DK (-4) 4 (wkv wt) → (∀ j, wls wt j = if j = u then wls σ.wt j ++ [n] else wls σ.wt j) → (∀ j b ns, wlook σ.wt j = some (b, ns) → ∃ ns', wlook wt j = some (b, ns')) → Φ (.bool true) H') : Spec 2 158 [.ref σ.x, .int n, .int lost] H Φ := by
  refine spec_plain (fun w => rfl) (fun w => rfl) (binds3 (n1 := "self") (n2 := "number") (n3 := "lost") (fun _ _ _ => rfl) rfl) (by rfl) (by decide) rfl rfl rfl (fun C hroom hfe hlt => ?_)
  generalize hm : (fun x => List.lookup x _ : Loc) = m
  have ms : m (PySem.Str.ofString "self") = some (.ref σ.x) := by rw [← hm]; rfl
  have mn : m (PySem.Str.ofString "number") = some (.int n) := by rw [← hm]; rfl
  have ml : m (PySem.Str.ofString "lost") = some (.int lost) := by rw [← hm]; rfl
  clear hm
  have f : Fr0 H H := .refl
  have hnl : n < σ.rows.length := (List.getElem?_eq_some_iff.mp hn).1
  repeat walk_at "s"
  refine op_item_list (x := .ref a) (hA .rows _ _ rfl) (by (clear hz hrl hrows hroom hnl; lia)) (by simp [hn]) ?_ (by (clear hz hrl hroom; lia))
  repeat walk_at "s"
  have hc0 : σ.at (.clause n) = some (a, intsO (x :: y :: rest)) := by show (σ.rows[n]?).map _ = _; rw [hn]; rfl
  refine op_itemi (l := x :: y :: rest) (hA (.clause n) _ _ hc0) (by (clear hz hrl hrows hroom hnl; lia)) rfl ?_ (by (clear hz hrl hrows hroom hnl; lia))
  repeat walk_at "s"
  refine ex_join (fun m' H' => Fr0 H H' ∧ At H' (σ.putRow n a (z :: lost :: rest)) ∧ m' (PySem.Str.ofString "self") = some (.ref σ.x) ∧ m' (PySem.Str.ofString "number") = some (.int n) ∧ m' (PySem.Str.ofString "lost") = some (.int lost) ∧ m' (PySem.Str.ofString "some") = some (.ref a)) (fun he => ?_) (fun he => ?_) ?_
  · have he' : x = lost := by simpa using he
    obtain ⟨rfl, rfl⟩ : x = lost ∧ z = y := by rcases hz with h | h; exact h; exact absurd he' h.1
    repeat walk_at "s"
    refine ex_tup ?_
    repeat walk_at "s"
    refine op_itemi (l := x :: z :: rest) (hA (.clause n) _ _ hc0) (by (clear hrl hrows hroom hnl he' hz; lia)) rfl ?_ (by (clear hrl hrows hroom hnl he' hz; lia))
    repeat walk_at "s"
    refine ⟨by simp, fun l hl => ?_⟩
    have hA1 := hA.out (x := (.tmp, .tup [.int z, .int x])) (.inl hl)
    have f1 := f.trans (Fr0.new (x := (.tmp, .tup [.int z, .int x])) hl)
    refine ⟨l, _, _, rfl, AH.set_self, rfl, ?_⟩
    clear hA f
    repeat walk_at "s"
    refine op_seti_comp (l := x :: z :: rest) (σ.putRow n a (z :: z :: rest)) hA1 f1 (t := .clause n) hc0 (by (clear hrl hrows hroom hnl he' hz; lia)) (by simp; (clear hrows hroom hnl he' hz; lia)) (by simp; (clear hrows hroom hnl he' hz; lia)) (fun u => at_putRow σ u hn) (fun H2 hA2 f2 => ?_)
    clear hA1 f1
    repeat walk_at "s"
    have hn2 : (σ.putRow n a (z :: z :: rest)).rows[n]? = some (a, z :: z :: rest) := by show (σ.rows.set n _)[n]? = _; rw [List.getElem?_set_self hnl]
    refine op_seti_comp (l := z :: z :: rest) ((σ.putRow n a (z :: z :: rest)).putRow n a (z :: x :: rest)) hA2 f2 (t := .clause n) (by show ((σ.putRow n a (z :: z :: rest)).rows[n]?).map _ = _; rw [hn2]; rfl) (by (clear hrl hrows hroom hnl he' hz; lia)) (by simp; (clear hrows hroom hnl he' hz; lia)) (by simp; (clear hrows hroom hnl he' hz; lia)) (fun u => at_putRow (σ.putRow n a (z :: z :: rest)) u hn2) (fun H3 hA3 f3 => ?_)
    repeat walk_at "s"
    refine ⟨f3, ?_, by walk_at "loc", by walk_at "loc", by walk_at "loc", by walk_at "loc"⟩
    have e : (σ.putRow n a (z :: z :: rest)).putRow n a (z :: x :: rest) = σ.putRow n a (z :: x :: rest) := by
      unfold Sg.putRow
      rw [List.set_set]
    rw [← e]; exact hA3
  · have he' : x ≠ lost := by simpa using he
    obtain ⟨rfl, rfl⟩ : z = x ∧ y = lost := by rcases hz with h | h; exact absurd h.1 he'; exact h.2
    repeat walk_at "s"
    refine ⟨f, ?_, by walk_at "loc", by walk_at "loc", by walk_at "loc", by walk_at "loc"⟩
    have e : σ.putRow n a (z :: y :: rest) = σ := by
      unfold Sg.putRow
      have : σ.rows.set n (a, z :: y :: rest) = σ.rows := by
        apply List.ext_getElem?; intro i; rw [List.getElem?_set]; split
        · rename_i e; subst e; rw [hn]
        · rfl
      rw [this]
    rw [e]; exact hA
  rintro m1 H1 ⟨f1, hA1, ms1, mn1, ml1, mo1⟩
  clear hA
  repeat walk_at "s"
  have L1 : Lk (σ.putRow n a (z :: lost :: rest)) := L.putRow
  have hn1 : (σ.putRow n a (z :: lost :: rest)).rows[n]? = some (a, z :: lost :: rest) := by show (σ.rows.set n _)[n]? = _; rw [List.getElem?_set_self hnl]
  have hc1 : (σ.putRow n a (z :: lost :: rest)).at (.clause n) = some (a, intsO (z :: lost :: rest)) := by show ((σ.putRow n a (z :: lost :: rest)).rows[n]?).map _ = _; rw [hn1]; rfl
  have hrz : 1 ≤ ab z := by rcases hz with ⟨_, rfl⟩ | ⟨_, rfl, _⟩; exact (hr _ (by simp)).1; exact (hr _ (by simp)).1
  have hrr : ∀ l ∈ rest, 1 ≤ ab l ∧ ab l ≤ 4 := fun l hl => hr l (by simp [hl])
  refine op_itemi (l := z :: lost :: rest) (hA1 (.clause n) _ _ hc1) (by (clear hz hrl hrows hroom hnl hrz; lia)) rfl ?_ (by (clear hz hrl hrows hroom hnl hrz; lia))
  repeat walk_at "s"
  refine cv_says hA1 L1 hrz (by (clear hz hrl hrows hnl hrz; omega)) ?_
  repeat walk_at "s"
  refine op_eq_avo ?_
  repeat walk_at "s"
  refine ex_join (fun m' H' => z ∉ σ.row ∧ m' = m1 ∧ H' = H1) (fun he => ?_) (fun he => ?_) ?_
  · repeat walk_at "s"
    refine h0 _ hA1 f1 (.inl ?_)
    have he1 : tv σ.row z = some true := beq_iff_eq.mp (show (tv σ.row z == some true) = true from he)
    unfold tv at he1
    split at he1
    · assumption
    · split at he1 <;> cases he1
  · repeat walk_at "s"
    refine ⟨fun hm => ?_, rfl, rfl⟩
    have he1 : tv σ.row z ≠ some true := beq_eq_false_iff_ne.mp (show (tv σ.row z == some true) = false from he)
    unfold tv at he1
    rw [if_pos hm] at he1; exact he1 rfl
  rintro m2 H2 ⟨hzn, rfl, rfl⟩
  repeat walk_at "s"
  refine ex_forO ?_
  repeat walk_at "s"
  refine cv_leni (l := z :: lost :: rest) (hA1 (.clause n) _ _ hc1) (by simp; (clear hz hrows hroom hnl hrz hzn; lia)) ?_
  repeat walk_at "s"
  refine cv_range2 (fun l hl => ?_)
  have hA3 := hA1.out (x := (.tmp, .rng 2 (((z :: lost :: rest).length : Nat) : Int))) (.inl hl)
  have f3 := f1.trans (Fr0.new (x := (.tmp, .rng 2 (((z :: lost :: rest).length : Nat) : Int))) hl)
  repeat walk_at "s"
  have hlen : (z :: lost :: rest).length = rest.length + 2 := rfl
  have hrl : ∀ k, k < rest.length → (z :: lost :: rest)[(k + 2)]? = rest[k]? := fun k _ => rfl
  refine ⟨_, _, src_rng AH.set_self (small_one (by (clear hz hrows hroom hnl hrz hzn hlen; lia)) (by (clear hz hrows hroom hnl hrz hzn hlen; lia)) (by (clear hz hrows hroom hnl hrz hzn; lia)) (by (clear hz hrows hroom hnl hrz hzn; lia))), fun i m' H' => H' = H2.set l (.tmp, .rng 2 (((z :: lost :: rest).length : Nat) : Int)) ∧ m' (PySem.Str.ofString "self") = some (.ref σ.x) ∧ m' (PySem.Str.ofString "number") = some (.int n) ∧ m' (PySem.Str.ofString "lost") = some (.int lost) ∧ m' (PySem.Str.ofString "some") = some (.ref a) ∧ i ≤ rest.length ∧ ∀ q ∈ rest.take i, tv σ.row q = some false,
    ⟨rfl, ms1, mn1, ml1, mo1, by (clear hz hrows hroom hnl hrz hzn; lia), by simp⟩, fun _ _ _ _ => trivial, fun i v hv m' H' ⟨eH, ms', mn', ml', mo', hi, hq⟩ => ?_, fun m' H' ⟨eH, ms', mn', ml', mo', hi, hq⟩ => ?_⟩
  · subst eH
    obtain ⟨hir0, rfl⟩ := rng_get hv
    have hir : i < rest.length := by (clear hz hrows hroom hnl hrz hzn; omega)
    have hix : (2 + (i : Int)).toNat = i + 2 := by (clear hz hrows hroom hnl hrz hzn hlen hi hir0 hir; lia)
    obtain ⟨u, hu⟩ : ∃ u, rest[i]? = some u := ⟨rest[i], by rw [List.getElem?_eq_getElem]⟩
    have hum : u ∈ rest := List.mem_of_getElem? hu
    have hgu : (z :: lost :: rest)[i + 2]? = some u := hu
    clear hA1
    repeat walk_at "s"
    refine op_itemi (l := z :: lost :: rest) (hA3 (.clause n) _ _ hc1) (by (clear hz hrows hroom hnl hrz hzn hlen hi hir0 hir; lia)) (by rw [hix]; exact hgu) ?_ (by (clear hz hrows hroom hnl hrz hzn hi hir0; lia))
    repeat walk_at "s"
    refine cv_says hA3 L1 (hrr u hum).1 (by (clear hz hrows hnl hrz hzn hlen hi hir0 hir hix; omega)) ?_
    repeat walk_at "s"
    refine op_ne_avo ?_
    repeat walk_at "s"
    refine ite_split (fun he => ?_) (fun he => ?_)
    · have he1 : tv σ.row u ≠ some false := by
        have : (tv σ.row u != some false) = true := he
        simpa using this
      repeat walk_at "s"
      refine ex_tup ?_
      repeat walk_at "s"
      refine op_itemi (l := z :: lost :: rest) (hA3 (.clause n) _ _ hc1) (by (clear hz hrows hroom hnl hrz hzn hlen hi hir0 hir; lia)) (by rw [hix]; exact hgu) ?_ (by (clear hz hrows hroom hnl hrz hzn hi hir0; lia))
      repeat walk_at "s"
      refine ⟨by simp, fun l5 hl5 => ?_⟩
      have hA5 := hA3.out (x := (.tmp, .tup [.int u, .int lost])) (.inl hl5)
      have f5 := f3.trans (Fr0.new (x := (.tmp, .tup [.int u, .int lost])) hl5)
      refine ⟨l5, _, _, rfl, AH.set_self, rfl, ?_⟩
      clear hA3 f3
      repeat walk_at "s"
      refine op_seti_comp (l := z :: lost :: rest) (σ.putRow n a (z :: u :: rest)) hA5 f5 (t := .clause n) hc1 (by (clear hz hrows hroom hnl hrz hzn hlen hi hir0 hir hix; lia)) (by simp; (clear hz hrows hroom hnl hrz hzn hi hir0 hir hix; lia)) (by simp; (clear hz hrows hroom hnl hrz hzn hi hir0 hir hix; lia)) (fun w => ?_) (fun H6 hA6 f6 => ?_)
      · have e : (σ.putRow n a (z :: lost :: rest)).putRow n a (z :: u :: rest) = σ.putRow n a (z :: u :: rest) := by
          unfold Sg.putRow; rw [List.set_set]
        rw [← e]; exact at_putRow (σ.putRow n a (z :: lost :: rest)) w hn1
      clear hA5 f5
      repeat walk_at "s"
      have hn6 : (σ.putRow n a (z :: u :: rest)).rows[n]? = some (a, z :: u :: rest) := by show (σ.rows.set n _)[n]? = _; rw [List.getElem?_set_self hnl]
      refine op_seti_comp (l := z :: u :: rest) (σ.putRow n a (hmSet z lost rest i u)) hA6 f6 (t := .clause n) (by show ((σ.putRow n a (z :: u :: rest)).rows[n]?).map _ = _; rw [hn6]; rfl) (by (clear hz hrows hroom hnl hrz hzn hlen hi hir0 hir; lia)) (by simp; (clear hz hrows hroom hnl hrz hzn hi hir0; lia)) (by simp; (clear hz hrows hroom hnl hrz hzn hi hir0 hir hix; lia)) (fun w => ?_) (fun H7 hA7 f7 => ?_)
      · have e : (σ.putRow n a (z :: u :: rest)).putRow n a (hmSet z lost rest i u) = σ.putRow n a (hmSet z lost rest i u) := by
          unfold Sg.putRow; rw [List.set_set]
        rw [← e, hix]; exact at_putRow (σ.putRow n a (z :: u :: rest)) w hn6
      clear hA6 f6
      have hn7 : (σ.putRow n a (hmSet z lost rest i u)).rows[n]? = some (a, hmSet z lost rest i u) := by show (σ.rows.set n _)[n]? = _; rw [List.getElem?_set_self hnl]
      repeat walk_at "s"
      refine ⟨_, _, _, rfl, hA7 .watching _ _ rfl, rfl, ?_⟩
      repeat walk_at "s"
      refine op_itemi (l := hmSet z lost rest i u) (hA7 (.clause n) _ _ (by show ((σ.putRow n a (hmSet z lost rest i u)).rows[n]?).map _ = _; rw [hn7]; rfl)) (by (clear hz hrows hroom hnl hrz hzn hlen hi hir0 hir hix; lia)) rfl ?_ (by (clear hz hrows hroom hnl hrz hzn hlen hi hir0 hir hix; lia))
      repeat walk_at "s"
      refine ⟨by simp, fun l8 hl8 => ?_⟩
      have hA8 := hA7.out (x := (.tmp, .list [])) (.inl hl8)
      have f8 := Fr0.new (x := (.tmp, .list [])) hl8
      have hwt4 : σ.wt.length ≤ 1048576 := by have := dk.len; simp [wkv] at this; (clear hz hrows hroom hnl hrz hzn hlen hi hir0 hir hix; lia)
      repeat walk_at "s"
      refine cv_sd_watch (k := u) hA8 f8 AH.set_self rfl (.none hl8) hwt4 (fun H9 σ9 a9 hA9 f9 ⟨wt9, e9, w9, q9, c9⟩ => ?_)
      subst e9
      clear hA7 hA8 f8
      have q9' : wlook wt9 u = some (a9, wls σ.wt u) := q9
      have w9' : ∀ j, wls wt9 j = wls σ.wt j := w9
      have hla : H9 a9 = some (.watch u, natsO (wls σ.wt u)) := hA9 (.watch u) _ _ (by show (wlook wt9 u).map _ = _; rw [q9']; rfl)
      refine ⟨_, _, _, rfl, hla, rfl, ?_⟩
      repeat walk_at "s"
      refine cv_appendn_comp (l := wls σ.wt u) (x := n) ((σ.putRow n a (hmSet z lost rest i u)).setWt (wset wt9 u (wls σ.wt u ++ [n]))) hA9 f9 (t := .watch u) (by show (wlook wt9 u).map _ = _; rw [q9']; rfl) (by have := hz2 u; (clear hz hrows hroom hnl hrz hzn hlen hi hir0 hir hix hwt4 c9; lia)) (fun w => ?_) ?_
      · exact at_wset ((σ.putRow n a (hmSet z lost rest i u)).setWt wt9) w q9'
      intro H10 hA10 f10
      refine ⟨rfl, ?_⟩
      repeat walk_at "s"
      refine h1 _ _ i u hA10 (f7.trans f10) hu hzn he1 ?_ (fun j => ?_) fun j b ns hj => ?_
      · rw [wkv_wset]
        rcases c9 with e | ⟨hn', e⟩
        · rw [e]; exact dk
        · rw [e]
          have := istore_wkv (wt := σ.wt) (k := u) (a := l8) (ns := []) hn'
          show DK (-4) 4 (wkv (σ.wt ++ [(u, l8, [])]))
          rw [← this]
          have hu4 := hrr u hum
          unfold ab at hu4
          exact dk.istore (by split at hu4 <;> lia) (by split at hu4 <;> lia)
      · have := w9' j
        unfold wls at this ⊢
        rw [wlook_wset]
        split
        · rename_i e; subst e; rw [q9']; rfl
        · exact this
      · rw [wlook_wset]
        have e9 : wlook wt9 j = some (b, ns) := by
          rcases c9 with e | ⟨hn', e⟩
          · rw [e]; exact hj
          · have hju : j ≠ u := by rintro rfl; rw [show wlook σ.wt j = none from hn'] at hj; cases hj
            rw [e]
            show wlook (σ.wt ++ [(u, l8, [])]) j = _
            rw [wlook_app (wt := σ.wt) hn', if_neg hju]; exact hj
        split
        · rename_i e; subst e; rw [e9]; exact ⟨_, rfl⟩
        · exact ⟨_, e9⟩
    · have he1 : tv σ.row u = some false := by
        have : (tv σ.row u != some false) = false := he
        simpa using this
      repeat walk_at "s"
      refine ⟨rfl, by walk_at "loc", by walk_at "loc", by walk_at "loc", by walk_at "loc", by (clear hz hrows hroom hnl hrz hzn hi hir0; lia), fun q hqm => ?_⟩
      rw [List.take_add_one, hu] at hqm
      rcases List.mem_append.mp hqm with h | h
      · exact hq q h
      · rw [show q = u by simpa using h]; exact he1
  · subst eH
    repeat walk_at "s"
    refine h0 _ hA3 f3 (.inr fun q hq' => hq q ?_)
    have : (rngItems 2 (((z :: lost :: rest).length : Nat) : Int)).length = rest.length := by rw [rng_len]; (clear hz hrows hroom hnl hrz hzn hi; lia)
    rw [this, List.take_of_length_le (Nat.le_refl _)]; exact hq'
--T P2

noncomputable def lit (M : Int → Bool) (l : Int) : Bool := if 0 < l then M l else !(M (-l))
noncomputable def Sat (M : Int → Bool) (c : List Int) : Prop := ∃ l ∈ c, lit M l = true
noncomputable def Ent (G : List (List Int)) (c : List Int) : Prop := ∀ M, (∀ g ∈ G, Sat M g) → Sat M c
theorem lit_neg {M : Int → Bool} {l : Int} (h : l ≠ 0) : lit M (-l) = !(lit M l) := by
  unfold lit
  by_cases h1 : 0 < l
  · rw [if_pos h1, if_neg (by lia), Int.neg_neg]
  · rw [if_neg h1, if_pos (by lia), Bool.not_not]
theorem Ent.get {G l} (h : Ent G [l]) {M} (hM : ∀ g ∈ G, Sat M g) : lit M l = true := by
  obtain ⟨x, hx, e⟩ := h M hM
  rw [List.mem_singleton] at hx; subst hx; exact e
theorem Ent.unit {G r l} (h : Ent G r) (h0 : ∀ x ∈ r, x ≠ 0) (hf : ∀ x ∈ r, x ≠ l → Ent G [-x]) : Ent G [l] := fun M hM => by
  obtain ⟨x, hx, e⟩ := h M hM
  by_cases hxl : x = l
  · subst hxl; exact ⟨x, by simp, e⟩
  · have := (hf x hx hxl).get hM
    rw [lit_neg (h0 x hx), e] at this; cases this
theorem Ent.none {G r} (h : Ent G r) (h0 : ∀ x ∈ r, x ≠ 0) (hf : ∀ x ∈ r, Ent G [-x]) : Ent G [] := fun M hM => by
  obtain ⟨x, hx, e⟩ := h M hM
  have := (hf x hx).get hM
  rw [lit_neg (h0 x hx), e] at this; cases this

noncomputable def RowOk (r : List Int) : Prop := 2 ≤ r.length ∧ (∀ l ∈ r, 1 ≤ ab l ∧ ab l ≤ 4) ∧ (r.map ab).Nodup
theorem RowOk.len {r} (h : RowOk r) : r.length ≤ 4 := row_len h.2.1 h.2.2
theorem RowOk.ne {r} (h : RowOk r) : ∀ x ∈ r, x ≠ 0 := fun x hx => ab_zero (h.2.1 x hx).1
noncomputable def Wd (r : List Int) (l : Int) : Prop := r[0]? = some l ∨ r[1]? = some l
theorem Wd.mem {r l} (h : Wd r l) : l ∈ r := h.elim List.mem_of_getElem? List.mem_of_getElem?
theorem wd_cons {x y : Int} {rest : List Int} {l : Int} : Wd (x :: y :: rest) l ↔ l = x ∨ l = y := by
  unfold Wd; simp only [List.getElem?_cons_zero, List.getElem?_cons_succ, Option.some.injEq]
  exact ⟨fun h => h.elim (fun h => .inl h.symm) (fun h => .inr h.symm), fun h => h.elim (fun h => .inl h.symm) (fun h => .inr h.symm)⟩
noncomputable def Wm (R : List (List Int)) (W : Int → List Nat) : Prop := ∀ l, (W l).Nodup ∧ ∀ n, n ∈ W l ↔ ∃ r, R[n]? = some r ∧ Wd r l
noncomputable def Wi (row : List Int) (bg : List Nat) (R : List (List Int)) (s c : Nat) (ex : Nat → Int → Prop) : Prop :=
  ∀ n r l p, R[n]? = some r → Wd r l → row[p]? = some (-l) → p < s → cnt bg p < c → ¬ ex n l → ∃ l' q, Wd r l' ∧ row[q]? = some l' ∧ cnt bg q ≤ cnt bg p
noncomputable def Rs (row : List Int) (bg : List Nat) (R : List (List Int)) (cs : List (Int × AV)) : Prop :=
  ∀ p l, row[p]? = some l → (ilook cs (ab l) = some .none → cnt bg p = 0 ∨ p ∈ bg) ∧
    ∀ n : Nat, ilook cs (ab l) = some (.int n) → ∃ r, R[n]? = some r ∧ l ∈ r ∧ ∀ l' ∈ r, l' ≠ l → ∃ q, q < p ∧ row[q]? = some (-l')
noncomputable def Ek0 (G : List (List Int)) (row : List Int) (bg : List Nat) : Prop := ∀ p l, row[p]? = some l → cnt bg p = 0 → Ent G [l]
noncomputable def Cov (G : List (List Int)) (row : List Int) (bg : List Nat) (R : List (List Int)) : Prop :=
  ∀ g ∈ G, (∃ l, l ∈ g ∧ -l ∈ g) ∨ (∃ l ∈ g, ∃ p, row[p]? = some l ∧ cnt bg p = 0) ∨ (∃ r ∈ R, ∀ l ∈ r, l ∈ g)

noncomputable def Sg.R (σ : Sg) : List (List Int) := σ.rows.map (·.2)
theorem R_get {σ : Sg} {n : Nat} {r : List Int} : σ.R[n]? = some r ↔ ∃ a, σ.rows[n]? = some (a, r) := by
  unfold Sg.R
  rw [List.getElem?_map]
  cases σ.rows[n]? with
  | none => simp
  | some q => obtain ⟨a, b⟩ := q; simp
theorem R_put (σ : Sg) (n a r) : (σ.putRow n a r).R = σ.R.set n r := by unfold Sg.R Sg.putRow; rw [List.map_set]
theorem R_add (σ : Sg) (l r) : (σ.addRow l r).R = σ.R ++ [r] := by unfold Sg.R Sg.addRow; rw [List.map_append]; rfl

/-- the invariant of the search; f: the watch lists, ex: what is excused -/
structure Iw (G : List (List Int)) (c : Nat) (σ : Sg) (f : Int → List Nat) (ex : Nat → Int → Prop) : Prop where
  L : Lk σ
  ro : ∀ r ∈ σ.R, RowOk r
  wm : Wm σ.R f
  dk : DK (-4) 4 (wkv σ.wt)
  wi : Wi σ.row σ.bg σ.R σ.seen c ex
  rs : Rs σ.row σ.bg σ.R σ.cs
  er : ∀ r ∈ σ.R, Ent G r
  e0 : Ek0 G σ.row σ.bg
  cv : Cov G σ.row σ.bg σ.R

/-- Iw by its parts -/
theorem Iw.of {G c} {σ' : Sg} {f ex} {row : List Int} {bg : List Nat} {rows : List (Addr × List Int)} {seen : Nat} {cs wt} (e1 : σ'.row = row) (e2 : σ'.bg = bg) (e3 : σ'.rows = rows) (e4 : σ'.seen = seen) (e5 : σ'.cs = cs) (e6 : σ'.wt = wt)
    (L : Lk σ') (ro : ∀ r ∈ rows.map (·.2), RowOk r) (wm : Wm (rows.map (·.2)) f) (dk : DK (-4) 4 (wkv wt)) (wi : Wi row bg (rows.map (·.2)) seen c ex) (rs : Rs row bg (rows.map (·.2)) cs) (er : ∀ r ∈ rows.map (·.2), Ent G r) (e0 : Ek0 G row bg) (cv : Cov G row bg (rows.map (·.2))) : Iw G c σ' f ex := by
  subst e1 e2 e3 e4 e5 e6
  exact ⟨L, ro, wm, dk, wi, rs, er, e0, cv⟩
theorem set_get {R : List (List Int)} {n m : Nat} {r' r : List Int} (h : (R.set n r')[m]? = some r) : (m = n ∧ r = r') ∨ (m ≠ n ∧ R[m]? = some r) := by
  rw [List.getElem?_set] at h
  split at h
  · rename_i e
    split at h
    · exact .inl ⟨e.symm, (Option.some.inj h).symm⟩
    · cases h
  · rename_i e
    exact .inr ⟨fun q => e q.symm, h⟩
theorem set_self {R : List (List Int)} {n : Nat} {r r' : List Int} (h : R[n]? = some r) : (R.set n r')[n]? = some r' := by
  rw [List.getElem?_set_self (List.getElem?_eq_some_iff.mp h).1]
theorem set_other {R : List (List Int)} {n m : Nat} {r' : List Int} (h : m ≠ n) : (R.set n r')[m]? = R[m]? := by rw [List.getElem?_set, if_neg (fun e => h e.symm)]
theorem mem_set {R : List (List Int)} {n : Nat} {r' r : List Int} (h : r ∈ R.set n r') : r = r' ∨ r ∈ R := (List.mem_or_eq_of_mem_set h).symm

/-- a row changes its order and its watched ones -/
theorem Iw.put {G c σ f ex n a r r'} (I : Iw G c σ f ex) (hn : σ.rows[n]? = some (a, r)) (hm : ∀ l, l ∈ r' ↔ l ∈ r) (hok : RowOk r') {f'} (wm : Wm (σ.R.set n r') f')
    {ex'} (wi : Wi σ.row σ.bg (σ.R.set n r') σ.seen c ex') : Iw G c (σ.putRow n a r') f' ex' := by
  have hR : σ.R[n]? = some r := R_get.mpr ⟨a, hn⟩
  have eR : (σ.rows.set n (a, r')).map (·.2) = σ.R.set n r' := R_put σ n a r'
  refine Iw.of (row := σ.row) (bg := σ.bg) (rows := σ.rows.set n (a, r')) (seen := σ.seen) (cs := σ.cs) (wt := σ.wt) rfl rfl rfl rfl rfl rfl I.L.putRow ?_ ?_ I.dk ?_ ?_ ?_ I.e0 ?_
  · rw [eR]; intro q hq; rcases mem_set hq with rfl | hq; exact hok; exact I.ro q hq
  · rw [eR]; exact wm
  · rw [eR]; exact wi
  · rw [eR]; intro p l hp
    refine ⟨(I.rs p l hp).1, fun m hm' => ?_⟩
    obtain ⟨q, hq, h1, h2⟩ := (I.rs p l hp).2 m hm'
    by_cases e : m = n
    · subst e
      rw [hR] at hq; cases hq
      exact ⟨r', set_self hR, (hm l).mpr h1, fun l' hl' hne => h2 l' ((hm l').mp hl') hne⟩
    · exact ⟨q, by rw [set_other e]; exact hq, h1, h2⟩
  · rw [eR]; intro q hq
    rcases mem_set hq with rfl | hq
    · intro M hM
      obtain ⟨l, hl, e⟩ := I.er r (List.mem_of_getElem? hR) M hM
      exact ⟨l, (hm l).mpr hl, e⟩
    · exact I.er q hq
  · rw [eR]; intro g hg
    rcases I.cv g hg with h | h | ⟨q, hq, hs⟩
    · exact .inl h
    · exact .inr (.inl h)
    · refine .inr (.inr ?_)
      obtain ⟨m, hm'⟩ := List.getElem?_of_mem hq
      by_cases e : m = n
      · subst e
        rw [hR] at hm'; cases hm'
        exact ⟨r', List.mem_of_getElem? (set_self hR), fun l hl => hs l ((hm l).mp hl)⟩
      · exact ⟨q, List.mem_of_getElem? (by rw [set_other e]; exact hm'), hs⟩
/-- the watched ones stay the same -/
theorem Iw.perm {G c σ f ex n a r r'} (I : Iw G c σ f ex) (hn : σ.rows[n]? = some (a, r)) (hm : ∀ l, l ∈ r' ↔ l ∈ r) (hok : RowOk r') (hw : ∀ l, Wd r' l ↔ Wd r l) : Iw G c (σ.putRow n a r') f ex := by
  have hR : σ.R[n]? = some r := R_get.mpr ⟨a, hn⟩
  refine I.put hn hm hok (fun l => ⟨(I.wm l).1, fun m => ?_⟩) (fun m q l p hq hw' hp hs hc hx => ?_)
  · rw [(I.wm l).2 m]
    constructor
    · rintro ⟨q, hq, h⟩
      by_cases e : m = n
      · subst e; rw [hR] at hq; cases hq; exact ⟨r', set_self hR, (hw l).mpr h⟩
      · exact ⟨q, by rw [set_other e]; exact hq, h⟩
    · rintro ⟨q, hq, h⟩
      rcases set_get hq with ⟨rfl, rfl⟩ | ⟨e, hq⟩
      · exact ⟨r, hR, (hw l).mp h⟩
      · exact ⟨q, hq, h⟩
  · rcases set_get hq with ⟨rfl, rfl⟩ | ⟨e, hq⟩
    · obtain ⟨l', q', h1, h2, h3⟩ := I.wi m r l p hR ((hw l).mp hw') hp hs hc hx
      exact ⟨l', q', (hw l').mpr h1, h2, h3⟩
    · exact I.wi m q l p hq hw' hp hs hc hx
/-- other watch lists -/
theorem Iw.wt {G c σ f ex wt} (I : Iw G c σ f ex) (dk : DK (-4) 4 (wkv wt)) : Iw G c (σ.setWt wt) f ex := Iw.of (row := σ.row) (bg := σ.bg) (rows := σ.rows) (seen := σ.seen) (cs := σ.cs) (wt := wt) rfl rfl rfl rfl rfl rfl I.L.setWt I.ro I.wm dk I.wi I.rs I.er I.e0 I.cv
theorem Iw.fn {G c σ f f' ex} (I : Iw G c σ f ex) (h : ∀ l, f' l = f l) : Iw G c σ f' ex := by
  have : f' = f := funext h
  rw [this]; exact I
theorem Iw.exc {G c σ f ex ex'} (I : Iw G c σ f ex) (h : ∀ n r l p, σ.R[n]? = some r → Wd r l → σ.row[p]? = some (-l) → p < σ.seen → cnt σ.bg p < c → ¬ ex' n l → ex n l → ∃ l' q, Wd r l' ∧ σ.row[q]? = some l' ∧ cnt σ.bg q ≤ cnt σ.bg p) : Iw G c σ f ex' :=
  ⟨I.L, I.ro, I.wm, I.dk, fun n r l p h1 h2 h3 h4 h5 h6 => (Classical.em (ex n l)).elim (h n r l p h1 h2 h3 h4 h5 h6) (I.wi n r l p h1 h2 h3 h4 h5), I.rs, I.er, I.e0, I.cv⟩
/-- the lists of watchers are short -/
theorem Iw.wlen {G c σ f ex} (I : Iw G c σ f ex) (l : Int) : (f l).length ≤ σ.rows.length := by
  have h1 : ∀ n ∈ f l, n < σ.rows.length := fun n hn => by
    obtain ⟨r, hr, _⟩ := ((I.wm l).2 n).mp hn
    obtain ⟨a, ha⟩ := R_get.mp hr
    exact (List.getElem?_eq_some_iff.mp ha).1
  have := nodup_len (lo := 0) (hi := (σ.rows.length : Int) - 1) (l := (f l).map (fun (n : Nat) => (n : Int))) (by
    rw [List.Nodup, List.pairwise_map]; exact (I.wm l).1.imp (by intro a b h; lia)) (fun x hx => by obtain ⟨n, hn, rfl⟩ := List.mem_map.mp hx; have := h1 n hn; lia)
  rw [List.length_map] at this
  lia
theorem cnt_top {σ : Sg} (L : Lk σ) {p : Nat} (hp : σ.seen ≤ p) : cnt σ.bg p = σ.bg.length := cnt_all fun b hb => Nat.le_trans (L.bgl b hb).2 hp
theorem get_app {row : List Int} {i x : Int} {p : Nat} (h : (row ++ [i])[p]? = some x) : (p < row.length ∧ row[p]? = some x) ∨ (p = row.length ∧ x = i) := by
  by_cases hp : p < row.length
  · rw [List.getElem?_append_left hp] at h; exact .inl ⟨hp, h⟩
  · have hl := (List.getElem?_eq_some_iff.mp h).1
    rw [List.length_append, List.length_singleton] at hl
    have : p = row.length := by lia
    subst this
    refine .inr ⟨rfl, ?_⟩
    simpa using h.symm
theorem app_get {row : List Int} {i x : Int} {p : Nat} (h : row[p]? = some x) : (row ++ [i])[p]? = some x := by
  rw [List.getElem?_append_left (List.getElem?_eq_some_iff.mp h).1]; exact h
/-- a literal is let, with a row as its cause or as a fact of height 0, or as a choice -/
theorem Iw.letS {G c σ f ex} (I : Iw G c σ f ex) {i : Int} {cv : AV} (h1 : 1 ≤ ab i) (h2 : ab i ≤ 4) (hn : ab i ∉ σ.row.map ab)
    (hc : (cv = .none ∧ (σ.bg = [] ∨ σ.row.length ∈ σ.bg)) ∨ ∃ (n : Nat) (r : List Int), cv = .int n ∧ σ.R[n]? = some r ∧ i ∈ r ∧ ∀ l ∈ r, l ≠ i → -l ∈ σ.row)
    (he : σ.bg = [] → Ent G [i]) (Lb : ∀ b ∈ σ.bg, b < σ.row.length) : Iw G c (σ.letS i cv) f ex := by
  have e0 : cnt σ.bg σ.row.length = σ.bg.length := cnt_all fun b hb => Nat.le_of_lt (Lb b hb)
  refine Iw.of (row := σ.row ++ [i]) (bg := σ.bg) (rows := σ.rows) (seen := σ.seen) (cs := istore σ.cs (ab i) cv) (wt := σ.wt) rfl rfl rfl rfl rfl rfl (I.L.letS h1 h2 hn (hc.elim (fun h => .inl h.1) fun ⟨n, _, h, _⟩ => .inr ⟨n, h⟩)) I.ro I.wm I.dk (fun n r l p hr hw hp hs hcn hx => ?_) (fun p l hp => ?_) I.er (fun p l hp h0 => ?_) (fun g hg => ?_)
  · rcases get_app hp with ⟨_, hp''⟩ | ⟨e, _⟩
    · obtain ⟨l', q, a1, a2, a3⟩ := I.wi n r l p hr hw hp'' hs hcn hx
      exact ⟨l', q, a1, app_get a2, a3⟩
    · have := I.L.sl
      (clear h1 h2 hn hc he e0 hcn hx; omega)
  · rw [ilook_istore]
    rcases get_app hp with ⟨hlt, hp'⟩ | ⟨rfl, rfl⟩
    · have hne : ab l ≠ ab i := fun e => hn (by rw [← e]; exact List.mem_map_of_mem (List.mem_of_getElem? hp'))
      rw [if_neg hne]
      refine ⟨(I.rs p l hp').1, fun n hn' => ?_⟩
      obtain ⟨r, a1, a2, a3⟩ := (I.rs p l hp').2 n hn'
      refine ⟨r, a1, a2, fun l' b1 b2 => ?_⟩
      obtain ⟨q, b3, b4⟩ := a3 l' b1 b2
      exact ⟨q, b3, app_get b4⟩
    · rw [if_pos rfl]
      rcases hc with ⟨rfl, h⟩ | ⟨n, r, rfl, a1, a2, a3⟩
      · refine ⟨fun _ => ?_, fun n hn' => by cases hn'⟩
        rcases h with h | h
        · left; rw [h]; rfl
        · exact .inr h
      · refine ⟨fun q => by (cases q), fun m hm => ?_⟩
        have : m = n := by
          have := Option.some.inj hm
          injection this with this
          (clear e0 h1 h2 hn he; lia)
        subst this
        refine ⟨r, a1, a2, fun l' b1 b2 => ?_⟩
        obtain ⟨q, hq⟩ := List.getElem?_of_mem (a3 l' b1 b2)
        exact ⟨q, (List.getElem?_eq_some_iff.mp hq).1, app_get hq⟩
  · rcases get_app hp with ⟨hlt, hp'⟩ | ⟨rfl, rfl⟩
    · exact I.e0 p l hp' h0
    · refine he ?_
      have h0' := h0
      rw [e0] at h0'
      exact List.eq_nil_of_length_eq_zero h0'
  · rcases I.cv g hg with h | ⟨l, hl, p, hp, h0⟩ | h
    · exact .inl h
    · exact .inr (.inl ⟨l, hl, p, app_get hp, h0⟩)
    · exact .inr (.inr h)
--T Fw13
section
variable {C : Ctx} {env : Env} {vm m : Loc} {H H0 : AH} {σ : Sg}
theorem cv_extend {a b t u vs ws Φ} (ha : H a = some (t, .list vs)) (hb : H b = some (u, .list ws)) (hz : vs.length + ws.length ≤ 1048576) (h : Φ .none (H.set a (t, .list (vs ++ ws)))) :
    CV C m H (.builtin "list.extend") [.ref a, .ref b] Φ := fun vs' e s Q E hs hq => by
  obtain ⟨v1, v2, rfl, e1, e2⟩ := vs2 e
  obtain rfl := er_ref e1
  obtain rfl := er_ref e2
  obtain ⟨its, n, e, hm, hmem, hl⟩ := hs.listAt ha
  obtain ⟨its2, n2, e', hm2, hmem2, hl2⟩ := hs.listAt hb
  have l1 : its.length = vs.length := by rw [← hm, List.length_map]
  have l2 : its2.length = ws.length := by rw [← hm2, List.length_map]
  have hsz : its.toArray.size + its2.toArray.size ≤ sizeLine := by simp only [List.size_toArray]; have := sizeLine_big; lia
  refine call_meets PySem.F.slot_list_extend ⟨_, e, rfl⟩ PySem.F.entry_list_extend (PySem.F.args_list_extend_2 _ _) (PySem.AutoSeq1.list_extend_list_list_0 a its.toArray n b its2.toArray n2 (extend_door hsz) (Nat.le_trans (Nat.le_add_right _ _) hsz) (Nat.le_succ_of_le hsz)) ⟨e, e', ?_⟩
  have ho' := Heap.get?_update_self (h := s.heap) (f := Obj.mapSeq fun x => x ++ its2.toArray) e (by rw [show listOf its.toArray n = { cls := .type "list", data := .seq its.toArray n } from rfl, mapSeq_app]; rfl)
  rw [show listOf its.toArray n = { cls := .type "list", data := .seq its.toArray n } from rfl, mapSeq_app] at ho'
  obtain ⟨s1, k1⟩ := hs.sameBut (t' := t) (tk := s.toks) ha (Heap.SameBut.update ..) ho' (o' := .list (vs ++ ws)) ⟨its ++ its2, (if (its.toArray ++ its2.toArray).size == its.toArray.size then n else n + 1), by rw [List.append_toArray], by rw [List.map_append, hm, hm2]⟩
  exact hq _ _ _ h s1 k1
theorem wdel_none {wt} {l : Int} (h : wlook wt l = none) : wdel wt l = wt := by
  unfold wdel
  rw [List.filter_eq_self]
  intro q hq
  unfold wlook at h
  rw [Option.map_eq_none_iff, List.find?_eq_none] at h
  simpa using h q hq
theorem wdel_dk {wt} {l : Int} (h : DK (-4) 4 (wkv wt)) : DK (-4) 4 (wkv (wdel wt l)) := by rw [← idel_wkv]; exact h.idel l
/-- watching.pop(lost, []) -/
theorem cv_pop_watch {l : Addr} {k : Int} {Φ : AV → AH → Prop} (hA : At H σ) (f : Fr0 H0 H) (hl : H l = some (.tmp, .list [])) (hz : σ.wt.length ≤ 1048576)
    (h : ∀ H' a, At H' (σ.setWt (wdel σ.wt k)) → Fr0 H0 H' → H' a = some (.tmp, natsO (wls σ.wt k)) → NotOut H0 a ∨ a = l → Φ (.ref a) H') :
    CV C m H (.builtin "dict.pop") [.ref σ.aWt, .int k, .ref l] Φ := by
  have hr := hA .watching _ _ rfl
  cases hk : wlook σ.wt k with
  | none =>
    have hq : ilook (wkv σ.wt) k = none := by rw [ilook_wkv, hk]; rfl
    refine cv_dpop (kvs := wkv σ.wt) hr (by simpa [wkv] using hz) (fun v hv => by rw [hq] at hv; cases hv) (fun _ => ?_)
    refine h H l ?_ f (by rw [hl]; unfold wls; rw [hk]; rfl) (.inr rfl)
    rw [wdel_none hk]; exact hA
  | some q =>
    obtain ⟨a, ns⟩ := q
    have hq : ilook (wkv σ.wt) k = some (.ref a) := by rw [ilook_wkv, hk]; rfl
    have ha : H a = some (.watch k, natsO ns) := hA (.watch k) _ _ (by show (wlook σ.wt k).map _ = _; rw [hk]; rfl)
    have haw : a ≠ σ.aWt := by rintro rfl; rw [hr] at ha; cases ha
    refine CV.post (cv_dpop (kvs := wkv σ.wt) hr (by simpa [wkv] using hz) (fun v hv => ?_) (fun hn => by rw [hq] at hn; cases hn))
    rw [hq] at hv; cases hv
    refine ⟨a, .watch k, .tmp, _, by rw [AH.set_ne haw]; exact ha, ?_⟩
    have f1 := f.trans (Fr0.comp (x := (.watching, .idict (idel (wkv σ.wt) k))) hr rfl)
    refine h _ a (fun u b p e => ?_) ?_ (by rw [AH.set_self]; unfold wls; rw [hk]; rfl) (.inl fun t o e => ?_)
    · rw [at_wdel] at e
      by_cases q1 : u = .watch k
      · rw [if_pos q1] at e; cases e
      · rw [if_neg q1] at e
        by_cases q2 : u = .watching
        · rw [if_pos q2] at e; cases e
          rw [AH.set_ne (Ne.symm haw)]; subst q2; exact AH.set_self
        · rw [if_neg q2] at e
          have hb := hA _ _ _ e
          rw [AH.set_ne (by rintro rfl; rw [ha] at hb; cases hb; exact q1 rfl)]
          exact AH.set_tag hr hb q2
    · refine Fr0.adopt f1 fun t o e => ?_
      cases ho : t.out with
      | false => rfl
      | true => have := f _ _ _ e ho; rw [ha] at this; cases this; cases ho
    · cases ho : t.out with
      | false => rfl
      | true => have := f _ _ _ e ho; rw [ha] at this; cases this; cases ho
/-- watching[lost] = stay -/
theorem op_set_watch {l : Addr} {k : Int} {Φ : AH → Prop} (hA : At H σ) (f : Fr0 H0 H) (hl : H l = some (.tmp, .list [])) (no : NotOut H0 l) (hz : σ.wt.length ≤ 1048576) (hk : wlook σ.wt k = none)
    (h : ∀ H', At H' (σ.setWt (σ.wt ++ [(k, l, [])])) → Fr0 H0 H' → Φ H') : Op3 C env vm m H setItem (.ref σ.aWt) (.int k) (.ref l) Φ := fun v1 v2 v3 e1 e2 e3 s Q E hs hv hq => by
  have hr := hA .watching _ _ rfl
  have hal : l ≠ σ.aWt := by rintro rfl; rw [hl] at hr; cases hr
  refine op_set_dict (kvs := wkv σ.wt) (x := .ref l) (Φ := fun H1 => H1 = H.set σ.aWt (.watching, .idict (istore (wkv σ.wt) k (.ref l)))) hr (by simpa [wkv] using hz) rfl v1 v2 v3 e1 e2 e3 s Q E hs hv fun H1 s1 h1 hs1 k1 => ?_
  subst h1
  obtain ⟨s2, k2⟩ := hs1.retag (a := l) (t' := .watch k) (by rw [AH.set_ne hal]; exact hl)
  exact hq _ s1 (h _ (hA.adopt hl rfl (t := .watch k) (o' := natsO []) rfl (at_wnew σ · hk)) (Fr0.adopt (f.trans (Fr0.comp hr rfl)) no)) s2 (k1.trans k2)
/-- extend by a list of numbers -/
theorem cv_extendn_comp {t a b u} {l l2 : List Nat} {Φ : AV → AH → Prop} (σ' : Sg) (hA : At H σ) (f : Fr0 H0 H) (hc : σ.at t = some (a, natsO l)) (hb : H b = some (u, natsO l2)) (hz : l.length + l2.length ≤ 1048576) (h' : ∀ u, σ'.at u = if u = t then some (a, natsO (l ++ l2)) else σ.at u) (h : ∀ H', At H' σ' → Fr0 H0 H' → Φ .none H') (ht : t.out = false := by rfl) :
    CV C m H (.builtin "list.extend") [.ref a, .ref b] Φ := cv_extend (hA t a _ hc) hb (by simpa using hz) (h _ (hA.upd hc (fun u => by rw [h' u]; simp [natsO])) (f.trans (Fr0.comp (hA t a _ hc) ht)))
theorem wls_wset {wt} {l : Int} {ns a q} (h : wlook wt l = some (a, q)) (j : Int) : wls (wset wt l ns) j = if j = l then ns else wls wt j := by
  unfold wls; rw [wlook_wset]
  split
  · rw [h]; rfl
  · rfl
theorem wset_dk {wt} {l : Int} {ns} (h : DK (-4) 4 (wkv wt)) : DK (-4) 4 (wkv (wset wt l ns)) := by rw [wkv_wset]; exact h
end
--T P3
noncomputable def Fo (W : Int → List Nat) (lost : Int) (pend : List Nat) : Int → List Nat := fun l => if l = lost then W l ++ pend else W l
noncomputable def Xo (lost : Int) (pend : List Nat) : Nat → Int → Prop := fun n l => l = lost ∧ n ∈ pend
noncomputable def No : Nat → Int → Prop := fun _ _ => False

theorem RowOk.perm {r r' : List Int} (h : RowOk r) (p : r'.Perm r) : RowOk r' :=
  ⟨by rw [p.length_eq]; exact h.1, fun l hl => h.2.1 l (p.mem_iff.mp hl), ((p.map ab).nodup_iff).mpr h.2.2⟩
theorem hm_perm {z lost u : Int} {rest : List Int} {i : Nat} (h : rest[i]? = some u) : (hmSet z lost rest i u).Perm (z :: lost :: rest) := by
  obtain ⟨hl, he⟩ := List.getElem?_eq_some_iff.mp h
  unfold hmSet
  refine .cons z ?_
  rw [List.set_eq_take_append_cons_drop, if_pos hl]
  have e : rest = rest.take i ++ u :: rest.drop (i + 1) := by rw [← he, ← List.drop_eq_getElem_cons hl, List.take_append_drop]
  have e2 : (lost :: rest).Perm (lost :: (rest.take i ++ u :: rest.drop (i + 1))) := by rw [← e]
  refine List.Perm.trans ?_ e2.symm
  refine (List.Perm.cons u List.perm_middle).trans ?_
  refine (List.Perm.swap lost u _).trans ?_
  exact .cons lost List.perm_middle.symm
theorem swap_perm {x y z lost : Int} {rest : List Int} (hz : (x = lost ∧ z = y) ∨ (x ≠ lost ∧ z = x ∧ y = lost)) : (z :: lost :: rest).Perm (x :: y :: rest) := by
  rcases hz with ⟨rfl, rfl⟩ | ⟨_, rfl, rfl⟩
  · exact .swap _ _ _
  · exact .refl _
theorem swap_wd {x y z lost : Int} {rest : List Int} (hz : (x = lost ∧ z = y) ∨ (x ≠ lost ∧ z = x ∧ y = lost)) (l : Int) : Wd (z :: lost :: rest) l ↔ Wd (x :: y :: rest) l := by
  rw [wd_cons, wd_cons]
  rcases hz with ⟨rfl, rfl⟩ | ⟨_, rfl, rfl⟩
  · exact Or.comm
  · exact Iff.rfl

theorem pos_inj {row : List Int} (nd : (row.map ab).Nodup) {p q : Nat} {l : Int} (hp : row[p]? = some l) (hq : row[q]? = some l) : p = q := by
  have e1 : (row.map ab)[p]? = some (ab l) := by rw [List.getElem?_map, hp]; rfl
  have e2 : (row.map ab)[q]? = some (ab l) := by rw [List.getElem?_map, hq]; rfl
  exact (List.getElem?_inj (List.getElem?_eq_some_iff.mp e1).1 nd).mp (e1.trans e2.symm)
theorem not_both {row : List Int} (nd : (row.map ab).Nodup) {l : Int} (h0 : l ≠ 0) (h1 : l ∈ row) (h2 : -l ∈ row) : False := nd_neg nd h0 h1 h2

theorem wls_new {wt} {lost : Int} {st : Addr} (j : Int) : wls (wdel wt lost ++ [(lost, st, [])]) j = if j = lost then [] else wls wt j := by
  have hn : wlook (wdel wt lost) lost = none := by rw [wlook_wdel, if_pos rfl]
  unfold wls
  rw [wlook_app hn, wlook_wdel]
  by_cases h : j = lost
  · rw [if_pos h, if_pos h]; rfl
  · rw [if_neg h, if_neg h, if_neg h]

/-- the next literal is taken up -/
theorem Iw.start {G σ lost st} (I : Iw G (σ.bg.length + 1) σ (wls σ.wt) No) (hs : σ.row[σ.seen]? = some (-lost)) (dk : DK (-4) 4 (wkv (wdel σ.wt lost ++ [(lost, st, [])]))) :
    Iw G (σ.bg.length + 1) ((σ.setSeen (σ.seen + 1)).setWt (wdel σ.wt lost ++ [(lost, st, [])])) (Fo (wls (wdel σ.wt lost ++ [(lost, st, [])])) lost (wls σ.wt lost)) (Xo lost (wls σ.wt lost)) := by
  have L := I.L
  have hlt := (List.getElem?_eq_some_iff.mp hs).1
  have L' : Lk (σ.setSeen (σ.seen + 1)) := L.of rfl rfl rfl rfl rfl rfl rfl rfl L.rng L.nd L.kn L.ht L.cs L.dkn L.bkn L.dht L.dcs L.dlk L.blk L.heat L.bgs (fun b hb => ⟨(L.bgl b hb).1, Nat.le_succ_of_le (L.bgl b hb).2⟩) hlt
  have eF : ∀ l, Fo (wls (wdel σ.wt lost ++ [(lost, st, [])])) lost (wls σ.wt lost) l = wls σ.wt l := fun l => by
    unfold Fo
    rw [wls_new]
    by_cases h : l = lost
    · rw [if_pos h, if_pos h, h]; rfl
    · rw [if_neg h, if_neg h]
  refine Iw.fn (Iw.of (row := σ.row) (bg := σ.bg) (rows := σ.rows) (seen := σ.seen + 1) (cs := σ.cs) (wt := wdel σ.wt lost ++ [(lost, st, [])]) rfl rfl rfl rfl rfl rfl L'.setWt I.ro I.wm dk (fun n r l p hr hw hp hs' hc hx => ?_) I.rs I.er I.e0 I.cv) eF
  have hs'' : p < σ.seen + 1 := hs'
  by_cases hp' : p < σ.seen
  · exact I.wi n r l p hr hw hp hp' hc id
  · have : p = σ.seen := by (clear hlt hc hx hs''; lia)
    subst this
    have hp'' : σ.row[σ.seen]? = some (-l) := hp
    rw [hs] at hp''
    have : l = lost := by have := Option.some.inj hp''; (clear hlt hx hs' hc hs'' hp'; lia)
    subst this
    exact absurd ⟨rfl, ((I.wm l).2 n).mpr ⟨r, hr, hw⟩⟩ hx
/-- the other watched one is true -/
theorem Iw.okTrue {G c σ f lost} {n : Nat} {pend r z} {s : Nat} (I : Iw G c σ f (Xo lost (n :: pend))) (hr : σ.R[n]? = some r) (hz : Wd r z) (hq : z ∈ σ.row) (hp : σ.row[s]? = some (-lost)) (hb : ∀ b ∈ σ.bg, b ≤ s) : Iw G c σ f (Xo lost pend) := by
  refine I.exc fun m r' l p h1 h2 h3 h4 h5 h6 h7 => ?_
  obtain ⟨rfl, hm⟩ := h7
  rcases List.mem_cons.mp hm with rfl | hm
  · rw [hr] at h1; cases h1
    have : p = s := pos_inj I.L.nd h3 hp
    subst this
    obtain ⟨q, hq'⟩ := List.getElem?_of_mem hq
    refine ⟨z, q, hz, hq', ?_⟩
    rw [cnt_all hb]; exact cnt_le _ _
  · exact absurd ⟨rfl, hm⟩ h6
/-- a clash: what is excused is of the last height -/
theorem Iw.clash {G σ f lost pend} {s : Nat} (I : Iw G (σ.bg.length + 1) σ f (Xo lost pend)) (hp : σ.row[s]? = some (-lost)) (hb : ∀ b ∈ σ.bg, b ≤ s) : Iw G σ.bg.length σ f No :=
  ⟨I.L, I.ro, I.wm, I.dk, fun n r l p h1 h2 h3 h4 h5 _ => I.wi n r l p h1 h2 h3 h4 (by lia) fun ⟨e, _⟩ => by
    subst e
    have : p = s := pos_inj I.L.nd h3 hp
    subst this
    rw [cnt_all hb] at h5
    lia, I.rs, I.er, I.e0, I.cv⟩
theorem Iw.done {G c σ f lost} (I : Iw G c σ f (Xo lost [])) : Iw G c σ f No := I.exc fun _ _ _ _ _ _ _ _ _ _ ⟨_, h⟩ => by cases h
/-- the watch is moved -/
theorem Iw.move {G c σ lost} {n : Nat} {pend a x y z} {rest : List Int} {i : Nat} {u : Int} {s : Nat} {wt'} (I : Iw G c σ (Fo (wls σ.wt) lost (n :: pend)) (Xo lost (n :: pend))) (hn : σ.rows[n]? = some (a, x :: y :: rest)) (hz : (x = lost ∧ z = y) ∨ (x ≠ lost ∧ z = x ∧ y = lost))
    (hu : rest[i]? = some u) (hut : tv σ.row u ≠ some false) (hzn : z ∉ σ.row) (hp : σ.row[s]? = some (-lost)) (dk : DK (-4) 4 (wkv wt')) (hw' : ∀ j, wls wt' j = if j = u then wls σ.wt j ++ [n] else wls σ.wt j) :
    Iw G c ((σ.putRow n a (hmSet z lost rest i u)).setWt wt') (Fo (wls wt') lost pend) (Xo lost pend) := by
  have hR : σ.R[n]? = some (x :: y :: rest) := R_get.mpr ⟨a, hn⟩
  have ok := I.ro _ (List.mem_of_getElem? hR)
  have pm := (hm_perm (z := z) (lost := lost) hu).trans (swap_perm (rest := rest) hz)
  have ok' := ok.perm pm
  have nd3 : (ab z :: ab lost :: rest.map ab).Nodup := by have := (ok.perm (swap_perm (rest := rest) hz)).2.2; simpa using this
  have hum : u ∈ rest := List.mem_of_getElem? hu
  have huz : u ≠ z := by
    rintro rfl
    exact (List.nodup_cons.mp nd3).1 (List.mem_cons_of_mem _ (List.mem_map_of_mem hum))
  have hul : u ≠ lost := by
    rintro rfl
    exact (List.nodup_cons.mp (List.nodup_cons.mp nd3).2).1 (List.mem_map_of_mem hum)
  have hzl : z ≠ lost := by
    rintro rfl
    exact (List.nodup_cons.mp nd3).1 (.head _)
  have hlm : lost ≠ 0 := ok.ne lost ((swap_perm (rest := rest) hz).mem_iff.mp (by simp))
  have hum' : u ∈ x :: y :: rest := by simp [hum]
  have wd1 : ∀ l, Wd (x :: y :: rest) l ↔ l = z ∨ l = lost := fun l => (swap_wd (rest := rest) hz l).symm.trans wd_cons
  have wd2 : ∀ l, Wd (hmSet z lost rest i u) l ↔ l = z ∨ l = u := fun l => wd_cons
  refine Iw.wt (I.put hn (fun l => pm.mem_iff) ok' (fun l => ⟨?_, fun m => ?_⟩) (fun m r l p h1 h2 h3 h4 h5 h6 => ?_)) dk
  · have nd0 := (I.wm l).1
    unfold Fo at nd0 ⊢
    rw [hw']
    by_cases hl : l = lost
    · rw [if_pos hl] at nd0 ⊢
      rw [if_neg (fun e => hul (e.symm.trans hl))]
      exact nd0.sublist (List.Sublist.append_left (List.sublist_cons_self _ _) _)
    · rw [if_neg hl] at nd0 ⊢
      by_cases hlu : l = u
      · rw [if_pos hlu, List.nodup_append]
        refine ⟨nd0, by simp, fun b hb d hd e => ?_⟩
        have : d = n := by simpa using hd
        subst this; subst e
        have := ((I.wm l).2 b).mp (by unfold Fo; rw [if_neg hl]; exact hb)
        obtain ⟨r, hr, hwd⟩ := this
        rw [hR] at hr; cases hr
        rcases (wd1 l).mp hwd with e | e
        · exact huz (hlu.symm.trans e)
        · exact hl e
      · rw [if_neg hlu]; exact nd0
  · have key : m ≠ n → (m ∈ Fo (wls wt') lost pend l ↔ m ∈ Fo (wls σ.wt) lost (n :: pend) l) := fun hmn => by
      unfold Fo
      rw [hw']
      by_cases hl : l = lost
      · rw [if_pos hl, if_pos hl, if_neg (fun e => hul (e.symm.trans hl))]
        simp [hmn]
      · rw [if_neg hl, if_neg hl]
        by_cases hlu : l = u
        · rw [if_pos hlu]; simp [hmn]
        · rw [if_neg hlu]
    by_cases hmn : m = n
    · subst hmn
      have old := (I.wm l).2 m
      constructor
      · intro hm
        refine ⟨_, set_self hR, (wd2 l).mpr ?_⟩
        unfold Fo at hm
        rw [hw'] at hm
        by_cases hl : l = lost
        · rw [if_pos hl, if_neg (fun e => hul (e.symm.trans hl))] at hm
          exfalso
          have nd0 := (I.wm l).1
          unfold Fo at nd0
          rw [if_pos hl, List.nodup_append] at nd0
          rcases List.mem_append.mp hm with h | h
          · exact nd0.2.2 m h m (.head _) rfl
          · exact (List.nodup_cons.mp nd0.2.1).1 h
        · rw [if_neg hl] at hm
          by_cases hlu : l = u
          · exact .inr hlu
          · rw [if_neg hlu] at hm
            obtain ⟨r, hr, hwd⟩ := old.mp (by unfold Fo; rw [if_neg hl]; exact hm)
            rw [hR] at hr; cases hr
            rcases (wd1 l).mp hwd with e | e
            · exact .inl e
            · exact absurd e hl
      · rintro ⟨r, hr, hwd⟩
        rw [set_self hR] at hr; cases hr
        unfold Fo
        rw [hw']
        rcases (wd2 l).mp hwd with e | e
        · rw [if_neg (fun q => hzl (e.symm.trans q)), if_neg (fun q => huz (q.symm.trans e))]
          have := old.mpr ⟨_, hR, (wd1 l).mpr (.inl e)⟩
          unfold Fo at this
          rw [if_neg (fun q => hzl (e.symm.trans q))] at this
          exact this
        · rw [if_neg (fun q => hul (e.symm.trans q)), if_pos e]
          simp
    · rw [key hmn, (I.wm l).2 m, set_other hmn]
  · rcases set_get h1 with ⟨rfl, rfl⟩ | ⟨hmn, h1'⟩
    · exfalso
      rcases (wd2 l).mp h2 with e | e
      · subst e
        obtain ⟨l', q, b1, b2, b3⟩ := I.wi m _ l p hR ((wd1 l).mpr (.inl rfl)) h3 h4 h5 (fun ⟨e, _⟩ => hzl e)
        rcases (wd1 l').mp b1 with e | e
        · subst e; exact hzn (List.mem_of_getElem? b2)
        · subst e; exact not_both I.L.nd hlm (List.mem_of_getElem? b2) (List.mem_of_getElem? hp)
      · subst e
        refine hut ?_
        unfold tv
        have hm3 : -l ∈ σ.row := List.mem_of_getElem? h3
        rw [if_neg (fun q => not_both I.L.nd (ok.ne l hum') q hm3), if_pos hm3]
    · exact I.wi m r l p h1' h2 h3 h4 h5 fun ⟨e, hm⟩ => (List.mem_cons.mp hm).elim hmn fun hm => h6 ⟨e, hm⟩
theorem tv_false {row : List Int} {l : Int} (h : tv row l = some false) : -l ∈ row := by
  unfold tv at h
  split at h
  · cases h
  · split at h
    · assumption
    · cases h
theorem tv_true {row : List Int} {l : Int} (h : tv row l = some true) : l ∈ row := by
  unfold tv at h
  split at h
  · assumption
  · split at h <;> cases h
theorem tv_none {row : List Int} {l : Int} (h : tv row l = none) : l ∉ row ∧ -l ∉ row := by
  unfold tv at h
  split at h
  · cases h
  · split at h
    · cases h
    · exact ⟨by assumption, by assumption⟩
theorem tv_none_ab {row : List Int} {l : Int} (h : tv row l = none) : ab l ∉ row.map ab := fun hm => by
  obtain ⟨x, hx, e⟩ := List.mem_map.mp hm
  obtain ⟨h1, h2⟩ := tv_none h
  rcases ab_eq e with rfl | rfl
  · exact h1 hx
  · exact h2 hx
/-- the row that a watcher names -/
theorem Iw.row {G c σ f ex} (I : Iw G c σ f ex) {n : Nat} {lost : Int} (h : n ∈ f lost) : ∃ a x y z rest, σ.rows[n]? = some (a, x :: y :: rest) ∧ ((x = lost ∧ z = y) ∨ (x ≠ lost ∧ z = x ∧ y = lost)) ∧ RowOk (x :: y :: rest) ∧ rest.length ≤ 2 := by
  obtain ⟨r, hr, hw⟩ := ((I.wm lost).2 n).mp h
  obtain ⟨a, ha⟩ := R_get.mp hr
  have ok := I.ro r (List.mem_of_getElem? hr)
  have hl := ok.len
  have h2 := ok.1
  match r, h2 with
  | x :: y :: rest, _ =>
    have hl' : rest.length ≤ 2 := by simp only [List.length_cons] at hl; lia
    by_cases hx : x = lost
    · exact ⟨a, x, y, y, rest, ha, .inl ⟨hx, rfl⟩, ok, hl'⟩
    · exact ⟨a, x, y, x, rest, ha, .inr ⟨hx, rfl, ((wd_cons.mp hw).resolve_left (fun e => hx e.symm)).symm⟩, ok, hl'⟩
theorem mem_drop_get {ns : List Nat} {i n : Nat} (h : ns[i]? = some n) : ns.drop i = n :: ns.drop (i + 1) := by
  obtain ⟨hl, he⟩ := List.getElem?_eq_some_iff.mp h
  rw [List.drop_eq_getElem_cons hl, he]
--T S7


/-- what spread leaves as it is -/
structure Fx (σ σ' : Sg) : Prop where
  x : σ'.x = σ.x
  bg : σ'.bg = σ.bg
  lk : σ'.lk = σ.lk
  heats : σ'.heats = σ.heats
  gain : σ'.gain = σ.gain
  log : σ'.log = σ.log
  refuted : σ'.refuted = σ.refuted
  clashes : σ'.clashes = σ.clashes
  rows : σ'.rows.length = σ.rows.length
  row : σ.row <+: σ'.row
theorem Fx.refl {σ : Sg} : Fx σ σ := ⟨rfl, rfl, rfl, rfl, rfl, rfl, rfl, rfl, rfl, List.prefix_refl _⟩
theorem Fx.trans {a b c : Sg} (h : Fx a b) (k : Fx b c) : Fx a c := ⟨k.x.trans h.x, k.bg.trans h.bg, k.lk.trans h.lk, k.heats.trans h.heats, k.gain.trans h.gain, k.log.trans h.log, k.refuted.trans h.refuted, k.clashes.trans h.clashes, k.rows.trans h.rows, h.row.trans k.row⟩
theorem pre_get {a b : List Int} (h : a <+: b) {p : Nat} {x : Int} (e : a[p]? = some x) : b[p]? = some x := by
  obtain ⟨t, rfl⟩ := h
  rw [List.getElem?_append_left (List.getElem?_eq_some_iff.mp e).1]; exact e
/-- a clash at row n -/
noncomputable def Clash (σ : Sg) (n : Nat) : Prop := ∃ row, σ.R[n]? = some row ∧ (∀ l ∈ row, -l ∈ σ.row) ∧ ∃ l, l ∈ row ∧ ∃ p : Nat, σ.row[p]? = some (-l) ∧ cnt σ.bg p = σ.bg.length

noncomputable def Spr (G : List (List Int)) (σ : Sg) (r : Int) : Prop := (r = -1 ∧ Iw G (σ.bg.length + 1) σ (wls σ.wt) No ∧ σ.seen = σ.row.length) ∨ (∃ n : Nat, r = n ∧ Iw G σ.bg.length σ (wls σ.wt) No ∧ Clash σ n)

theorem spread_spec {H : AH} {σ : Sg} {G} (hA : At H σ) (I : Iw G (σ.bg.length + 1) σ (wls σ.wt) No) (hR : σ.rows.length ≤ 100000) (Φ : AV → AH → Prop)
    (h : ∀ H' σ' r, At H' σ' → Fr0 H H' → Fx σ σ' → Spr G σ' r → Φ (.int r) H') : Spec 3 151 [.ref σ.x] H Φ := by
  refine spec_plain (fun w => rfl) (fun w => rfl) (binds1 (n1 := "self") (fun _ => rfl) rfl) (by rfl) (by decide) rfl rfl rfl (fun C hroom hfe hlt => ?_)
  generalize hm : (fun x => List.lookup x _ : Loc) = m
  have ms : m (PySem.Str.ofString "self") = some (.ref σ.x) := by rw [← hm]; rfl
  clear hm
  have hrl := I.L.rowLen
  repeat walk_at "s"
  refine ex_whileO (fun k m' H' => ∃ σ1, m' (PySem.Str.ofString "self") = some (.ref σ1.x) ∧ At H' σ1 ∧ Fr0 H H' ∧ Fx σ σ1 ∧ Iw G (σ1.bg.length + 1) σ1 (wls σ1.wt) No ∧ k = 5 - σ1.seen) (5 - σ.seen)
    ⟨σ, ms, hA, .refl, .refl, I, rfl⟩ ?_
  rintro k m' H' ⟨σ1, ms', hA1, f, fx, I1, rfl⟩
  clear hA I ms
  have hrl1 := I1.L.rowLen
  have hsl := I1.L.sl
  repeat walk_at "s"
  refine cv_leni (l := σ1.row) (hA1 .row _ _ rfl) (by (clear hR hroom hrl hsl; lia)) ?_
  repeat walk_at "s"
  refine ite_split (fun hlt' => ?_) (fun hge => ?_)
  · have hlt2 : σ1.seen < σ1.row.length := by have := of_decide_eq_true hlt'; (clear hR hroom hrl hrl1 hsl; omega)
    obtain ⟨v, hv⟩ : ∃ v, σ1.row[σ1.seen]? = some v := ⟨_, List.getElem?_eq_getElem hlt2⟩
    obtain ⟨lost, rfl⟩ : ∃ lost, v = -lost := ⟨-v, by (clear hR hroom hrl hrl1 hsl hlt2; lia)⟩
    repeat walk_at "s"
    refine op_itemi (l := σ1.row) (hA1 .row _ _ rfl) (by (clear hR hroom hrl hrl1 hsl hlt2; lia)) (by simpa using hv) ?_ (by (clear hR hroom hrl hsl; omega))
    repeat walk_at "s"
    rw [show -(-lost) = lost by (clear hR hroom hrl hrl1 hsl hlt2; lia)]
    repeat walk_at "s"
    refine ex_self_f (H0 := H) ?_
    repeat walk_at "s"
    refine ⟨σ1, σ1.setSeen (σ1.seen + 1), hA1, by walk_at "loc", (at_seen σ1 · _), f, fun H2 hA2 f2 => ?_⟩
    clear hA1 f
    repeat walk_at "s"
    refine ex_tupS (names := [PySem.Str.ofString "numbers", PySem.Str.ofString "stay"]) ?_
    repeat walk_at "s"
    refine ⟨_, _, _, rfl, hA2 .watching _ _ rfl, rfl, ?_⟩
    repeat walk_at "s"
    refine ⟨by simp, fun l3 hl3 => ?_⟩
    have hA3 := hA2.out (x := (.tmp, .list [])) (.inl hl3)
    have f3 : Fr0 H2 (H2.set l3 (.tmp, .list [])) := Fr0.new hl3
    have hwt : σ1.wt.length ≤ 1048576 := by have := I1.dk.len; simp [wkv] at this; (clear hR hroom hrl hrl1 hsl hlt2; lia)
    repeat walk_at "s"
    refine cv_pop_watch (k := lost) hA3 f3 AH.set_self hwt (fun H4 aN hA4 f4 hN no => ?_)
    clear hA3 f3 hA2
    replace hN : H4 aN = some (.tmp, natsO (wls σ1.wt lost)) := hN
    replace hA4 : At H4 ((σ1.setSeen (σ1.seen + 1)).setWt (wdel σ1.wt lost)) := hA4
    have f4' := f2.trans f4
    repeat walk_at "s"
    refine ⟨by simp, fun st hst => ?_⟩
    have hA5 := hA4.out (x := (.tmp, .list [])) (.inl hst)
    have f5 := f4'.trans (Fr0.new (x := (.tmp, .list [])) hst)
    clear hA4
    have hN5 : (H4.set st (.tmp, .list [])) aN = some (.tmp, natsO (wls σ1.wt lost)) := AH.set_new hst hN
    repeat walk_at "s"
    refine ⟨by simp, fun l6 hl6 => ?_⟩
    have hA6 := hA5.out (x := (.tmp, .tup [.ref aN, .ref st])) (.inl hl6)
    have f6 := f5.trans (Fr0.new (x := (.tmp, .tup [.ref aN, .ref st])) hl6)
    have hN6 := AH.set_new (x := (.tmp, .tup [.ref aN, .ref st])) hl6 hN5
    have hst6 := AH.set_new (x := (.tmp, .tup [.ref aN, .ref st])) hl6 (AH.set_self (H := H4) (a := st) (x := (.tmp, .list [])))
    refine ⟨l6, _, _, rfl, AH.set_self, rfl, ?_⟩
    have f46 : Fr0 H4 _ := (Fr0.new (x := (.tmp, .list [])) hst).trans (Fr0.new (x := (.tmp, .tup [.ref aN, .ref st])) hl6)
    clear hA5 f5 hN5
    show AS _ _ _ _ [bindName _ _, bindName _ _] [_, _] _
    repeat walk_at "s"
    refine op_set_watch (l := st) (k := lost) hA6 f46 hst6 (.none hst) (by have := (wdel_dk (l := lost) I1.dk).len; simp [wkv] at this; show (wdel σ1.wt lost).length ≤ _; (clear hR hroom hrl hrl1 hsl hlt2 hwt no; lia)) (by show wlook (wdel σ1.wt lost) lost = none; rw [wlook_wdel, if_pos rfl]) (fun H7 hA7 f7 => ?_)
    have hN7 := f7 _ _ _ hN rfl
    have f70 := f4'.trans f7
    have I7 := I1.start (st := st) hv (by have := istore_wkv (wt := wdel σ1.wt lost) (k := lost) (a := st) (ns := []) (by rw [wlook_wdel, if_pos rfl]); rw [← this]; exact (wdel_dk I1.dk).istore (by have := I1.L.rng _ (List.mem_of_getElem? hv); unfold ab at this; split at this <;> lia) (by have := I1.L.rng _ (List.mem_of_getElem? hv); unfold ab at this; split at this <;> lia))
    have hbs : ∀ b ∈ σ1.bg, b ≤ σ1.seen := fun b hb => (I1.L.bgl b hb).2
    have w7 : wlook (wdel σ1.wt lost ++ [(lost, st, [])]) lost = some (st, []) := by rw [wlook_app (by rw [wlook_wdel, if_pos rfl]), if_pos rfl]
    have hlen7 := I1.wlen lost
    clear hA6 f6 hN6 hst6 f46 hN hst
    generalize hns : wls σ1.wt lost = ns at *
    have hR1 := fx.rows
    repeat walk_at "s"
    refine ex_forO ?_
    repeat walk_at "s"
    refine cv_lenn (l := ns) hN7 (by (clear hroom hrl hrl1 hsl hlt2 hwt no; lia)) ?_
    repeat walk_at "s"
    refine cv_range1 (fun l8 hl8 => ?_)
    have hA8 := hA7.out (x := (.tmp, .rng 0 (ns.length : Int))) (.inl hl8)
    have f8 : Fr0 H7 (H7.set l8 (.tmp, .rng 0 (ns.length : Int))) := Fr0.new hl8
    repeat walk_at "s"
    refine ⟨_, _, src_rng AH.set_self (small_one (by (clear hR hroom hrl hrl1 hsl hlt2 hwt no hlen7 hR1; lia)) (by (clear hR hroom hrl hrl1 hsl hlt2 hwt no hlen7 hR1; lia)) (by (clear hR hroom hrl hrl1 hsl hlt2 hwt no hlen7 hR1; lia)) (by (clear hroom hrl hrl1 hsl hlt2 hwt no; lia))), fun i m' H' => ∃ σ', At H' σ' ∧ Fr0 H7 H' ∧ (∃ q, wlook σ'.wt lost = some (st, q)) ∧ Fx σ1 σ' ∧ σ'.seen = σ1.seen + 1 ∧ Iw G (σ'.bg.length + 1) σ' (Fo (wls σ'.wt) lost (ns.drop i)) (Xo lost (ns.drop i)) ∧
      m' (PySem.Str.ofString "self") = some (.ref σ'.x) ∧ m' (PySem.Str.ofString "lost") = some (.int lost) ∧ m' (PySem.Str.ofString "numbers") = some (.ref aN) ∧ m' (PySem.Str.ofString "stay") = some (.ref st),
      ⟨_, hA8, f8, ⟨_, w7⟩, ⟨rfl, rfl, rfl, rfl, rfl, rfl, rfl, rfl, rfl, List.prefix_refl _⟩, rfl, by rw [List.drop_zero]; exact I7, by walk_at "loc", by walk_at "loc", by walk_at "loc", by walk_at "loc"⟩, fun _ _ _ _ => trivial, fun i v hvi m' H' ⟨σ', hA', f', ⟨q', w'⟩, fx', hs', I', ms', ml', mn', mst'⟩ => ?_, fun m' H' ⟨σ', hA', f', ⟨q', w'⟩, fx', hs', I', ms', ml', mn', mst'⟩ => ?_⟩
    · clear hA7 hA8 f8 hl8
      obtain ⟨hi0, rfl⟩ := rng_get hvi
      have hi : i < ns.length := by (clear hR hroom hrl hrl1 hsl hlt2 hwt no hlen7 hR1 hs'; omega)
      obtain ⟨n, hn⟩ : ∃ n, ns[i]? = some n := ⟨_, List.getElem?_eq_getElem hi⟩
      have hix : (0 + (i : Int)).toNat = i := by (clear hR hroom hrl hrl1 hsl hlt2 hwt no hlen7 hR1 hs' hi0 hi; omega)
      have hN' := f' _ _ _ hN7 rfl
      rw [mem_drop_get hn] at I'
      obtain ⟨a, x, y, z, rest, hrow, hz, ok, hrl2⟩ := I'.row (lost := lost) (n := n) (by unfold Fo; rw [if_pos rfl]; simp)
      have hvp : σ'.row[σ1.seen]? = some (-lost) := pre_get fx'.row hv
      have hbs' : ∀ b ∈ σ'.bg, b ≤ σ1.seen := by rw [fx'.bg]; exact hbs
      have hwl : ∀ l, (wls σ'.wt l).length ≤ 100000 := fun l => by
        have h1 := I'.wlen l
        have h2 := fx'.rows
        unfold Fo at h1
        split at h1
        · rw [List.length_append] at h1; (clear hroom hrl hrl1 hsl hlt2 hwt no hs' hi0 hz hrl2; lia)
        · (clear hroom hrl hrl1 hsl hlt2 hwt no hs' hi0 hz hrl2; lia)
      have hR' := fx'.rows
      have hnR : n < σ'.rows.length := (List.getElem?_eq_some_iff.mp hrow).1
      have hzr : 1 ≤ ab z ∧ ab z ≤ 4 := by rcases hz with ⟨_, rfl⟩ | ⟨_, rfl, _⟩; exact ok.2.1 _ (by simp); exact ok.2.1 _ (by simp)
      repeat walk_at "s"
      refine op_itemn (l := ns) hN' (by (clear hR hroom hrl hrl1 hsl hlt2 hwt no hlen7 hR1 hs' hi0 hi hz hrl2 hR' hnR hzr; lia)) (by rw [hix]; exact hn) ?_ (by (clear hroom hrl hrl1 hsl hlt2 hwt no hs' hi0 hz hrl2 hnR hzr; lia))
      repeat walk_at "s"
      refine has_moved_spec hA' I'.L hrow hz ok.2.1 (by (clear hR hroom hrl hrl1 hsl hlt2 hwt no hlen7 hR1 hs' hi0 hi hix hz hR' hnR hzr; lia)) I'.dk (by (clear hroom hrl hrl1 hsl hlt2 hwt no hlen7 hs' hi0 hi hix hz hrl2 hnR hzr; lia)) (fun l => by have := hwl l; (clear hR hroom hrl hrl1 hsl hlt2 hwt no hlen7 hR1 hs' hi0 hi hix hz hrl2 hR' hnR hzr; lia)) _ (fun H9 hA9 f9 hfin => ?_) (fun H9 wt9 j u hA9 f9 hu hzn hut dk9 w9 k9 => ?_) _ _ (by (clear hR hrl hrl1 hsl hlt2 hwt no hlen7 hR1 hs' hi0 hi hix hz hrl2 hR' hnR hzr; omega))
      · clear hA'
        have hp' : (σ'.putRow n a (z :: lost :: rest)).rows[n]? = some (a, z :: lost :: rest) := by show (σ'.rows.set n _)[n]? = _; rw [List.getElem?_set_self hnR]
        have I9 := I'.perm hrow (fun l => (swap_perm (rest := rest) hz).mem_iff) (ok.perm (swap_perm hz)) (swap_wd hz)
        repeat walk_at "s"
        refine ite_split (fun _ => ?_) (fun q => by cases q)
        have hN9 := f9 _ _ _ hN' rfl
        have hq' : wls σ'.wt lost = q' := by unfold wls; rw [w']; rfl
        have hst9 : H9 st = some (.watch lost, natsO q') := hA9 (.watch lost) _ _ (by show (wlook σ'.wt lost).map _ = _; rw [w']; rfl)
        repeat walk_at "s"
        refine ⟨_, _, _, rfl, hst9, rfl, ?_⟩
        repeat walk_at "s"
        refine op_itemn (l := ns) hN9 (by (clear hR hroom hrl hrl1 hsl hlt2 hwt no hlen7 hR1 hs' hi0 hi hz hrl2 hR' hnR hzr hfin; lia)) (by rw [hix]; exact hn) ?_ (by (clear hroom hrl hrl1 hsl hlt2 hwt no hs' hi0 hz hrl2 hnR hzr hfin; lia))
        repeat walk_at "s"
        refine cv_appendn_comp (l := q') (x := n) ((σ'.putRow n a (z :: lost :: rest)).setWt (wset σ'.wt lost (q' ++ [n]))) hA9 f9 (t := .watch lost) (by show (wlook σ'.wt lost).map _ = _; rw [w']; rfl) (by have := hwl lost; rw [hq'] at this; (clear hR hroom hrl hrl1 hsl hlt2 hwt no hlen7 hR1 hs' hi0 hi hix hz hrl2 hR' hnR hzr hfin; lia)) (fun w => at_wset (σ'.putRow n a (z :: lost :: rest)) w w') ?_
        intro H10 hA10 f10
        clear hA9 f9
        have hN10 := f10 _ _ _ hN' rfl
        refine ⟨rfl, ?_⟩
        have w10 : wlook (wset σ'.wt lost (q' ++ [n])) lost = some (st, q' ++ [n]) := by rw [wlook_wset, if_pos rfl, w']; rfl
        have I10 : Iw G (σ'.bg.length + 1) ((σ'.putRow n a (z :: lost :: rest)).setWt (wset σ'.wt lost (q' ++ [n]))) (Fo (wls (wset σ'.wt lost (q' ++ [n]))) lost (ns.drop (i + 1))) (Xo lost (n :: ns.drop (i + 1))) := (I9.wt (wset_dk I'.dk)).fn fun l => by
          unfold Fo
          rw [wls_wset w']
          by_cases hl : l = lost
          · rw [if_pos hl, if_pos hl, if_pos hl, hl, hq']; simp
          · rw [if_neg hl, if_neg hl, if_neg hl]
        generalize hσ : (σ'.putRow n a (z :: lost :: rest)).setWt (wset σ'.wt lost (q' ++ [n])) = σ10 at *
        have fx10 : Fx σ' σ10 := by subst hσ; exact ⟨rfl, rfl, rfl, rfl, rfl, rfl, rfl, rfl, by show (σ'.rows.set _ _).length = _; rw [List.length_set], List.prefix_refl _⟩
        have hrow10 : σ10.row = σ'.row := by subst hσ; rfl
        have hbg10 : σ10.bg = σ'.bg := fx10.bg
        have hx10 : σ10.x = σ'.x := fx10.x
        have hr10 : σ10.rows[n]? = some (a, z :: lost :: rest) := by subst hσ; exact hp'
        have hR10 : σ10.R[n]? = some (z :: lost :: rest) := R_get.mpr ⟨a, hr10⟩
        have hwt10 : σ10.wt = wset σ'.wt lost (q' ++ [n]) := by subst hσ; rfl
        have hs10 : σ10.seen = σ1.seen + 1 := by subst hσ; exact hs'
        rw [← hx10] at ms'
        rw [← hbg10] at I10 hbs'
        have hvp10 : σ10.row[σ1.seen]? = some (-lost) := by rw [hrow10]; exact hvp
        rw [← hrow10] at hfin
        rw [← hwt10] at w10 I10
        have hst10 : H10 st = some (.watch lost, natsO (q' ++ [n])) := hA10 (.watch lost) _ _ (by show (wlook σ10.wt lost).map _ = _; rw [w10]; rfl)
        clear I9 I' hst9
        repeat walk_at "s"
        refine op_itemn (l := ns) hN10 (by (clear hR hroom hrl hrl1 hsl hlt2 hwt no hlen7 hR1 hs' hi0 hi hz hrl2 hR' hnR hzr hfin hs10; lia)) (by rw [hix]; exact hn) ?_ (by (clear hroom hrl hrl1 hsl hlt2 hwt no hs' hi0 hz hrl2 hnR hzr hfin hs10; lia))
        repeat walk_at "s"
        refine op_item_list (x := .ref a) (hA10 .rows _ _ rfl) (by (clear hR hroom hrl hrl1 hsl hlt2 hwt no hlen7 hR1 hs' hi0 hi hix hz hrl2 hR' hnR hzr hfin hs10; lia)) (by simp [hr10]) ?_ (by (clear hroom hrl hrl1 hsl hlt2 hwt no hs' hi0 hz hrl2 hzr hfin hs10; lia))
        repeat walk_at "s"
        refine op_itemi (l := z :: lost :: rest) (hA10 (.clause n) _ _ (by show (σ10.rows[n]?).map _ = _; rw [hr10]; rfl)) (by (clear hR hroom hrl hrl1 hsl hlt2 hwt no hlen7 hR1 hs' hi0 hi hix hz hrl2 hR' hnR hzr hfin hs10; lia)) rfl ?_ (by (clear hR hroom hrl hrl1 hsl hlt2 hwt no hlen7 hR1 hs' hi0 hi hix hz hrl2 hR' hnR hzr hfin hs10; lia))
        repeat walk_at "s"
        refine cv_says hA10 I10.L hzr.1 (by (clear hR hrl hrl1 hsl hlt2 hwt no hlen7 hR1 hs' hi0 hi hix hz hrl2 hR' hnR hzr hfin hs10; lia)) ?_
        repeat walk_at "s"
        refine op_eq_avo ?_
        repeat walk_at "s"
        have hN9 := hN10
        refine ex_join (fun m' H' => tv σ10.row z ≠ some false ∧ H' = H10 ∧ m' (PySem.Str.ofString "self") = some (.ref σ10.x) ∧ m' (PySem.Str.ofString "lost") = some (.int lost) ∧ m' (PySem.Str.ofString "numbers") = some (.ref aN) ∧ m' (PySem.Str.ofString "stay") = some (.ref st) ∧ m' (PySem.Str.ofString "k") = some (.int (0 + (i : Int))) ∧ m' (PySem.Str.ofString "first") = some (.int z)) (fun he => ?_) (fun he => ?_) ?_
        · have he1 : tv σ10.row z = some false := beq_iff_eq.mp he
          have hall : ∀ l ∈ z :: lost :: rest, -l ∈ σ10.row := by
            have hz1 := tv_false he1
            intro l hl
            rcases List.mem_cons.mp hl with rfl | hl
            · exact hz1
            · rcases List.mem_cons.mp hl with rfl | hl
              · exact List.mem_of_getElem? hvp10
              · rcases hfin with hq | hq
                · exact absurd hz1 (fun q => not_both I10.L.nd (ab_zero hzr.1) hq q)
                · exact tv_false (hq l hl)
          have I11 := I10.clash hvp10 hbs'
          repeat walk_at "s"
          refine ⟨_, _, _, rfl, hst10, rfl, ?_⟩
          repeat walk_at "s"
          refine ⟨_, rfl, _, _, ns.map fun (n : Nat) => AV.int n, rfl, hN10, by rw [List.length_map]; (clear hroom hrl hrl1 hsl hlt2 hwt no hs' hi0 hi hix hz hrl2 hnR hzr hfin hs10; lia), fun l12 hl12 => ?_⟩
          rw [show (0 + (i : Int) + 1) = ((i + 1 : Nat) : Int) by (clear hR hroom hrl hrl1 hsl hlt2 hwt no hlen7 hR1 hs' hi0 hi hix hz hrl2 hR' hnR hzr hfin hs10; lia), pickA_from, ← List.map_drop]
          have hA12 := hA10.out (x := (.tmp, natsO (ns.drop (i + 1)))) (.inl hl12)
          have f12 := f10.trans (Fr0.new (x := (.tmp, natsO (ns.drop (i + 1)))) hl12)
          repeat walk_at "s"
          refine cv_extendn_comp (l := q' ++ [n]) (l2 := ns.drop (i + 1)) (σ10.setWt (wset σ10.wt lost (q' ++ [n] ++ ns.drop (i + 1)))) hA12 f12 (t := .watch lost) (by show (wlook σ10.wt lost).map _ = _; rw [w10]; rfl) AH.set_self (by have := hwl lost; rw [hq'] at this; simp; (clear hroom hrl hrl1 hsl hlt2 hwt no hs' hi0 hz hrl2 hnR hzr hfin hs10; omega)) (fun w => at_wset σ10 w w10) ?_
          intro H13 hA13 f13
          have hN13 := f13 _ _ _ hN' rfl
          refine ⟨rfl, ?_⟩
          repeat walk_at "s"
          refine op_itemn (l := ns) hN13 (by (clear hR hroom hrl hrl1 hsl hlt2 hwt no hlen7 hR1 hs' hi0 hi hz hrl2 hR' hnR hzr hfin hs10; lia)) (by rw [hix]; exact hn) ?_ (by (clear hroom hrl hrl1 hsl hlt2 hwt no hs' hi0 hz hrl2 hnR hzr hfin hs10; lia))
          repeat walk_at "s"
          refine h _ _ _ hA13 (f70.trans (f'.trans f13)) (fx.trans (fx'.trans (fx10.trans ⟨rfl, rfl, rfl, rfl, rfl, rfl, rfl, rfl, rfl, List.prefix_refl _⟩))) (.inr ⟨n, rfl, (I11.wt (wset_dk I10.dk)).fn fun l => ?_, z :: lost :: rest, hR10, hall, lost, by simp, σ1.seen, hvp10, cnt_all hbs'⟩)
          show wls (wset σ10.wt lost (q' ++ [n] ++ ns.drop (i + 1))) l = _
          rw [wls_wset w10]
          unfold Fo
          by_cases hl : l = lost
          · rw [if_pos hl, if_pos hl, hl]
            have : wls σ10.wt lost = q' ++ [n] := by unfold wls; rw [w10]; rfl
            rw [this]
          · rw [if_neg hl, if_neg hl]
        · repeat walk_at "s"
          exact ⟨beq_eq_false_iff_ne.mp he, rfl, by walk_at "loc", by walk_at "loc", by walk_at "loc", by walk_at "loc", by walk_at "loc", by walk_at "loc"⟩
        rintro m11 H11 ⟨hzf, rfl, ms11, ml11, mn11, mst11, mk11, mf11⟩
        repeat walk_at "s"
        refine cv_says hA10 I10.L hzr.1 (by (clear hR hrl hrl1 hsl hlt2 hwt no hlen7 hR1 hs' hi0 hi hix hz hrl2 hR' hnR hzr hfin hs10; lia)) ?_
        repeat walk_at "s"
        refine op_is_avo ?_
        repeat walk_at "s"
        refine ite_split (fun he => ?_) (fun he => ?_)
        · have he1 : tv σ10.row z = none := by simpa using he
          have hzn := tv_none_ab he1
          have hrz : ∀ l ∈ rest, tv σ10.row l = some false := hfin.resolve_left (tv_none he1).1
          have Lb : ∀ b ∈ σ10.bg, b < σ10.row.length := fun b hb => (I10.L.bgl b hb).1
          have hbl := I10.L.bgLen
          have hrl10 := I10.L.rowLen
          repeat walk_at "s"
          refine op_itemn (l := ns) hN10 (by (clear hR hroom hrl hrl1 hsl hlt2 hwt no hlen7 hR1 hs' hi0 hi hz hrl2 hR' hnR hzr hfin hs10 hzn hbl hrl10; lia)) (by rw [hix]; exact hn) ?_ (by (clear hroom hrl hrl1 hsl hlt2 hwt no hs' hi0 hz hrl2 hnR hzr hfin hs10 hzn hbl hrl10; lia))
          repeat walk_at "s"
          refine let_specS hA10 (by have := I10.L.dkn.len; (clear hR hroom hrl hrl1 hsl hlt2 hwt no hlen7 hR1 hs' hi0 hi hix hz hrl2 hR' hnR hzr hfin hs10 hzn hbl hrl10; lia)) (by have := I10.L.dht.len; (clear hR hroom hrl hrl1 hsl hlt2 hwt no hlen7 hR1 hs' hi0 hi hix hz hrl2 hR' hnR hzr hfin hs10 hzn hbl hrl10; lia)) (by have := I10.L.dcs.len; (clear hR hroom hrl hrl1 hsl hlt2 hwt no hlen7 hR1 hs' hi0 hi hix hz hrl2 hR' hnR hzr hfin hs10 hzn hbl hrl10; lia)) (by (clear hR hroom hrl hrl1 hsl hlt2 hwt no hlen7 hR1 hs' hi0 hi hix hz hrl2 hR' hnR hzr hfin hs10 hzn hbl; lia)) (by (clear hR hroom hrl hrl1 hsl hlt2 hwt no hlen7 hR1 hs' hi0 hi hix hz hrl2 hR' hnR hzr hfin hs10 hzn; lia)) _ (fun H13 hA13 f13 => ?_) _ _ (by (clear hR hrl hrl1 hsl hlt2 hwt no hlen7 hR1 hs' hi0 hi hix hz hrl2 hR' hnR hzr hfin hs10 hzn hbl hrl10; lia))
          have hothers : ∀ l ∈ z :: lost :: rest, l ≠ z → -l ∈ σ10.row := by
            intro l hl hne
            rcases List.mem_cons.mp hl with rfl | hl
            · exact absurd rfl hne
            · rcases List.mem_cons.mp hl with rfl | hl
              · exact List.mem_of_getElem? hvp10
              · exact tv_false (hrz l hl)
          have ok10 := I10.ro _ (List.mem_of_getElem? hR10)
          have I13 : Iw G (σ10.bg.length + 1) (σ10.letS z (.int n)) (Fo (wls σ10.wt) lost (ns.drop (i + 1))) (Xo lost (n :: ns.drop (i + 1))) :=
            I10.letS hzr.1 hzr.2 hzn (.inr ⟨n, _, rfl, hR10, by simp, hothers⟩) (fun hb0 => (I10.er _ (List.mem_of_getElem? hR10)).unit ok10.ne fun l hl hne => by
              obtain ⟨p, hp⟩ := List.getElem?_of_mem (hothers l hl hne)
              exact I10.e0 p _ hp (by rw [hb0]; rfl)) Lb
          have I14 := I13.okTrue (z := z) (s := σ1.seen) hR10 (wd_cons.mpr (.inl rfl)) (by show z ∈ σ10.row ++ [z]; simp) (app_get hvp10) hbs'
          have fx13 : Fx σ10 (σ10.letS z (.int n)) := ⟨rfl, rfl, rfl, rfl, rfl, rfl, rfl, rfl, rfl, List.prefix_append _ _⟩
          refine ⟨rfl, ?_⟩
          repeat walk_at "s"
          exact ⟨_, hA13, f'.trans (f10.trans f13), ⟨_, w10⟩, fx'.trans (fx10.trans fx13), hs10, I14, by walk_at "loc", by walk_at "loc", by walk_at "loc", by walk_at "loc"⟩
        · have he1 : z ∈ σ10.row := by
            cases ht : tv σ10.row z with
            | none => rw [ht] at he; cases he
            | some b => cases b with
              | true => exact tv_true ht
              | false => exact absurd ht hzf
          have I11 := I10.okTrue hR10 (wd_cons.mpr (.inl rfl)) he1 hvp10 hbs'
          repeat walk_at "s"
          exact ⟨_, hA10, f'.trans f10, ⟨_, w10⟩, fx'.trans fx10, hs10, I11, by walk_at "loc", by walk_at "loc", by walk_at "loc", by walk_at "loc"⟩
      · have I9 := I'.move hrow hz hu hut hzn hvp dk9 w9
        repeat walk_at "s"
        refine ite_split (fun q => by cases q) (fun _ => ?_)
        repeat walk_at "s"
        obtain ⟨q9, e9⟩ := k9 _ _ _ w'
        refine ⟨_, hA9, f'.trans f9, ⟨_, e9⟩, fx'.trans ⟨rfl, rfl, rfl, rfl, rfl, rfl, rfl, rfl, by show (σ'.rows.set _ _).length = _; rw [List.length_set], List.prefix_refl _⟩, hs', I9, by walk_at "loc", by walk_at "loc", by walk_at "loc", by walk_at "loc"⟩
    · repeat walk_at "s"
      have e1 : ns.drop (rngItems 0 (ns.length : Int)).length = [] := by rw [rng_len]; exact List.drop_eq_nil_of_le (by (clear hR hroom hrl hrl1 hsl hlt2 hwt no hlen7 hR1 hs'; omega))
      rw [e1] at I'
      refine ⟨5 - σ'.seen, by (clear hR hroom hrl hsl hwt no hlen7 hR1; omega), σ', ms', hA', f70.trans f', fx.trans fx', ?_, rfl⟩
      refine I'.done.fn fun l => ?_
      unfold Fo; split <;> simp
  · repeat walk_at "s"
    refine h _ _ _ hA1 f fx (.inl ⟨rfl, I1, ?_⟩)
    have := of_decide_eq_false hge; (clear hR hroom hrl hrl1; lia)
--T Fw14
noncomputable def kin (scope : Scope) : Str → Option NameKind := fun n => scope.names.lookup n
noncomputable def bindLA (k : Str → Option NameKind) : List (Str × AV) → Loc → Loc
  | [], m => m
  | (n, v) :: r, m => bindLA k r (if k n = some .local then fun y => if y = n then some v else m y else m)
noncomputable def bindCA (k : Str → Option NameKind) : List (Str × AV) → Loc → Loc
  | [], m => m
  | (n, v) :: r, m => bindCA k r (if k n = some .local then m else fun y => if y = n then some v else m y)
theorem bindLA_rep {k} : ∀ (bs : List (Str × Value)) (m : Loc) (mm : Str → Option Value), LocRep m mm → LocRep (bindLA k (bs.map fun p => (p.1, er p.2)) m) (bindL k bs mm)
  | [], m, mm, h => h
  | (n, v) :: r, m, mm, h => by
    show LocRep (bindLA k (r.map _) _) (bindL k r _)
    refine bindLA_rep r _ _ ?_
    split
    · intro x a e
      by_cases hx : x = n
      · simp only [hx, if_true] at e ⊢; simpa using e
      · simp only [hx, if_false] at e ⊢; exact h x a e
    · exact h
theorem bindCA_rep {k} : ∀ (bs : List (Str × Value)) (m : Loc) (mm : Str → Option Value), (∀ x, (mm x).map er = m x) → ∀ x, (bindC k bs mm x).map er = bindCA k (bs.map fun p => (p.1, er p.2)) m x
  | [], m, mm, h => h
  | (n, v) :: r, m, mm, h => by
    show ∀ x, (bindC k r _ x).map er = bindCA k (r.map _) _ x
    refine bindCA_rep r _ _ fun x => ?_
    split
    · exact h x
    · by_cases hx : x = n
      · simp [hx]
      · simp only [hx, if_false]; exact h x
/-- the heap with the cells of a frame -/
noncomputable def AH.cells (H : AH) (cs : List (Str × Addr)) (cm : Loc) : AH := fun a => match cs.find? (fun p => p.2 = a) with | some p => some (.cell, .cell (cm p.1)) | none => H a

section
variable {C : Ctx} {H : AH}
/-- a def with cells of its own -/
theorem spec_cells {n fa : Nat} {args : List AV} {Φ} {name qual : Str} {params : Arguments} {body : List Stmt} {scope : Scope} {dV kV doc pm cdv ct oc : Value} {an od : Option Addr} {osl : Array (Option Value)} {ab : List (Str × AV)}
    (lk : ∀ w, (KK w).lookup fa = some ⟨oc, od, .func (fnX name qual params body scope [] dV kV doc pm an cdv ct), osl⟩) (hcd : ∀ w, codeIn (KK w) cdv qual = true)
    (hbind : ∀ vs : List Value, vs.map er = args → ∃ binds, bindArgs (fnX name qual params body scope [] dV kV doc pm an cdv ct) ⟨vs, []⟩ = pure binds ∧ binds.map (fun p => (p.1, er p.2)) = ab)
    (hkind : ∀ n, (ab.all fun y => decide (scope.names.lookup y.1 = some .local) || (decide (scope.names.lookup y.1 = some .cell) && ((cellsFrom n scope.names []).lookup y.1).isSome)) = true)
    (hnd : ((cellsFrom 0 scope.names []).map (·.1)).Nodup) (hco : scope.isCoroutine = false) (hgen : scope.isGenerator = false) (hk : scope.kind = .function)
    (h : ∀ C' : Ctx, n ≤ C'.room → C'.fenv = envOfC qual scope C'.L fa cdv → (∀ a x, H a = some x → a < C'.L) → ∀ H1 : AH, (∀ a x, H a = some x → H1 a = some x) →
      (∀ x c, (cellsFrom (C'.L + 1) scope.names []).lookup x = some c → H1 c = some (.cell, .cell (bindCA (kin scope) ab (fun _ => none) x))) →
      EX C' (envOfC qual scope C'.L fa cdv) (bindLA (kin scope) ab (fun _ => none)) H1 (execs body (envOfC qual scope C'.L fa cdv)) (fnPost Φ)) :
    Spec (n + 1) fa args H Φ := fun C m hroom vs hvs s Q E hs hq => by
  obtain ⟨mm, F, r⟩ := hs.fr
  obtain ⟨FG, BG, st, lv⟩ := groundX (R := fun r s' => match r with | .ok (.ret v) => Q v s' | .ok _ => False | .error e => E e s') C.B F hs.led C.hA C.hf C.hke
  obtain ⟨binds, hb, hab⟩ := hbind vs hvs
  have hl : ∀ n, ∀ x ∈ binds, scope.names.lookup x.1 = some .local ∨ (scope.names.lookup x.1 = some .cell ∧ ((cellsFrom n scope.names []).lookup x.1).isSome = true) := fun n x hx => by
    have := List.all_eq_true.mp (hkind n) (x.1, er x.2) (by rw [← hab]; exact List.mem_map_of_mem (f := fun p : Str × Value => (p.1, er p.2)) hx)
    rcases Bool.or_eq_true _ _ ▸ this with h | h
    · exact .inl (of_decide_eq_true h)
    · have h := Bool.and_eq_true _ _ ▸ h
      exact .inr ⟨of_decide_eq_true h.1, h.2⟩
  refine wpAny_call (codeAny_call_function (by have := C.hd; lia) ((C.X.keeps F.keep) _ _ (lk _)) rfl hco hgen rfl (codeRec_of (C.X.keeps F.keep) (hcd _)) ?_)
  rw [hb]
  refine wpAny_pure ?_
  refine wpAny_newFunctionEnv_cells hk (hl _) fun env' he s1 x => ?_
  subst he
  refine ⟨(C.T.nolimit.keeps F.keep).keeps x.toInCall.keep, codeAny_func ?_⟩
  obtain ⟨h₁, tk, rfl, _⟩ := x.done
  have hk₁ := x.toInCall.keep
  let env := envOfC qual scope s.heap.objs.size fa cdv
  let C' := callee C H s env ⟨m, hs⟩ (by lia) rfl hk BG st
  have ndc : ((cellsFrom (s.heap.objs.size + 1) scope.names []).map (·.1)).Nodup := cellsFrom_names scope.names 0 (s.heap.objs.size + 1) [] [] rfl ▸ hnd
  have hcell : ∀ p ∈ cellsFrom (s.heap.objs.size + 1) scope.names [], h₁.IsCell p.2 (bindC (kin scope) binds (fun _ => none) p.1) ∧ s.heap.objs.size < p.2 := fun p hp =>
    ⟨x.cell p.1 p.2 (lookup_of_mem_nodup ndc hp), x.above p.1 p.2 hp⟩
  have hap := x.apart
  let H1 := H.cells (cellsFrom (s.heap.objs.size + 1) scope.names []) (bindCA (kin scope) ab (fun _ => none))
  have hH1 : ∀ a x, H a = some x → H1 a = some x := fun a y e => by
    show (match (cellsFrom (s.heap.objs.size + 1) scope.names []).find? (fun p => p.2 = a) with | some p => some (Tag.cell, AO.cell (bindCA (kin scope) ab (fun _ => none) p.1)) | none => H a) = some y
    have : (cellsFrom (s.heap.objs.size + 1) scope.names []).find? (fun p => p.2 = a) = none := List.find?_eq_none.mpr fun p hp q => by
      have h1 := (hcell p hp).2
      have h2 := hs.lt (t := y.1) (o := y.2) e
      have : p.2 = a := by simpa using q
      rw [this] at h1
      exact Nat.lt_asymm h1 h2
    rw [this]; exact e
  have hHc : ∀ p ∈ cellsFrom (s.heap.objs.size + 1) scope.names [], H1 p.2 = some (.cell, .cell (bindCA (kin scope) ab (fun _ => none) p.1)) := fun p hp => by
    show (match (cellsFrom (s.heap.objs.size + 1) scope.names []).find? (fun q => q.2 = p.2) with | some p => some (Tag.cell, AO.cell (bindCA (kin scope) ab (fun _ => none) p.1)) | none => H p.2) = _
    cases hf : (cellsFrom (s.heap.objs.size + 1) scope.names []).find? (fun q => q.2 = p.2) with
    | none => have := List.find?_eq_none.mp hf p hp; simp at this
    | some q =>
      have h1 := List.mem_of_find?_eq_some hf
      have h2 : q.2 = p.2 := by simpa using List.find?_some hf
      have : q.1 = p.1 := name_of_addr hap (n := q.1) (c := q.2) h1 (by rw [h2]; exact hp)
      show some (Tag.cell, AO.cell (bindCA (kin scope) ab (fun _ => none) q.1)) = _
      rw [this]
  have hs' : St C' (bindLA (kin scope) ab (fun _ => none)) H1 { s with heap := h₁, toks := tk } := by
    refine ⟨⟨_, ⟨x.toInCall.ns, fun b o e => hk₁ b o (of_hideAll _ e), Nat.le_of_eq (hideAll_size _ _)⟩, ?_⟩, fun a t o e => ?_, ?_⟩
    · rw [← hab]
      exact bindLA_rep binds _ _ (fun _ _ e => by cases e)
    · have e' : (match (cellsFrom (s.heap.objs.size + 1) scope.names []).find? (fun p => p.2 = a) with | some p => some (Tag.cell, AO.cell (bindCA (kin scope) ab (fun _ => none) p.1)) | none => H a) = some (t, o) := e
      cases hf : (cellsFrom (s.heap.objs.size + 1) scope.names []).find? (fun p => p.2 = a) with
      | none =>
        rw [hf] at e'
        replace e' : H a = some (t, o) := e'
        obtain ⟨ob, e1, r1, n1, g1⟩ := hs.hr a t o e'
        exact ⟨ob, hk₁ _ _ e1, r1, Nat.ne_of_lt (Heap.lt_size e1), hideAll_none _ (List.mem_map_of_mem (f := (·.1)) ((ledH_mem (p := (a, ob))).mpr ⟨by rw [e']; rfl, e1⟩)), g1.2⟩
      | some p =>
        rw [hf] at e'
        have hp := List.mem_of_find?_eq_some hf
        have ha : p.2 = a := by simpa using List.find?_some hf
        subst ha
        obtain ⟨⟨ob, eo, ed⟩, habove⟩ := hcell p hp
        cases e'
        refine ⟨ob, eo, ⟨_, ed, ?_⟩, Nat.ne_of_gt habove, ?_, ?_⟩
        · rw [← hab]; exact bindCA_rep binds _ _ (fun _ => rfl) _
        · cases q : (hideAll s.heap ((ledH H s.heap).map (·.1))).get? p.2 with
          | none => rfl
          | some o =>
            have h1 := Heap.lt_size (of_hideAll _ q)
            exact absurd h1 (Nat.not_lt.mpr (Nat.le_of_lt habove))
        · exact Nat.lt_trans hs.low habove
    · obtain ⟨h0, tk0, e0⟩ := hs.sr; exact ⟨h₁, _, by rw [e0]⟩
  refine h C' (by show n ≤ C.room - 1; omega) rfl (fun a x e => hs.lt (t := x.1) (o := x.2) e) H1 hH1 (fun x c e => hHc (x, c) (mem_of_lookup e)) rfl _ _ _ hs' fun f m' H' s' p hs'' k' => ?_
  refine lv _ _ (back (C' := C') hs F r rfl rfl rfl hs'' fun h1 k1 _ => ?_)
  cases f with
  | ret v => exact hq v H' s' p h1 k1
  | next => exact hq .none H' s' p h1 k1
  | brk => exact p.elim
  | cont => exact p.elim
end
--T Fw15
section
variable {C : Ctx} {env : Env} {vm m : Loc} {H H0 : AH} {σ : Sg}
/-- what a name's expression gives -/
noncomputable def NV (C : Ctx) (env : Env) (vm m : Loc) (H : AH) (e : Expr) (a : AV) : Prop := ∀ Φ : AV → AH → Prop, Φ a H → EV C env vm m H (eval e env) Φ
theorem nv_local {x : Str} {p a} (hx : vm x = some a) (hk : env.scope.kind = .function := by with_unfolding_all exact rfl_fn) (hl : env.kindOf x = some .local := by with_unfolding_all exact rfl_lc) (hd : (x == ("__debug__" : Str)) = false := by decide) : NV C env vm m H (.Name x p) a := fun _ h => ev_local hx h hk hl hd
theorem nv_cell {x : Str} {p a c t} (hc : H c = some (t, .cell (some a))) (hcl : env.cells.lookup x = some c := by rfl) (hk : env.scope.kind = .function := by with_unfolding_all exact rfl_fn) (hl : env.kindOf x = some .cell := by with_unfolding_all exact rfl_cl) (hd : (x == ("__debug__" : Str)) = false := by decide) : NV C env vm m H (.Name x p) a := fun _ h => ev_cell hc h hcl hk hl hd
theorem nv_free {x : Str} {p a c t} (hc : H c = some (t, .cell (some a))) (hcl : env.cells.lookup x = some c := by rfl) (hk : env.scope.kind = .function := by with_unfolding_all exact rfl_fn) (hl : env.kindOf x = some .free := by with_unfolding_all exact rfl_fr) (hd : (x == ("__debug__" : Str)) = false := by decide) (hn : (x == ("__classdict__" : Str)) = false := by decide) : NV C env vm m H (.Name x p) a := fun _ h => ev_free hc h hcl hk hl hd hn

theorem ev_globi {x : Str} {pos i t Φ} (e : nsIn (KK C.w) mainGlobals x = some (some (.int i t))) (h : Φ (.int i) H) (hg : env.globals = mainGlobals := by with_unfolding_all exact rfl_mg) (hk : env.scope.kind = .function := by with_unfolding_all exact rfl_fn)
    (hl : env.kindOf x = some .globalImplicit := by with_unfolding_all exact rfl_gi) (hd : (x == ("__debug__" : Str)) = false := by decide) : EV C env vm m H (eval (.Name x pos) env) Φ := ev_glob e h hg hk hl hd
/-- a field of an instance of Search -/
theorem ev_fld {x xp attr pos a Φ ax dx tx td fs} (hN : NV C env vm m H (.Name x xp) (.ref ax)) (hx : H ax = some (tx, .inst dx)) (hd : H dx = some (td, .attrs fs)) (hl : look fs attr = some a) (hc : isConc a = false) (h : Φ a H)
    (hf : attrNames.contains attr = true := by decide)
    (hq : eval (.Attribute (.Name x xp) attr pos) env = (do let o ← eval (.Name x xp) env; standAt pos.atName; let r ← holding [o] (getAttr o attr true); letTemporaryGo (.Name x xp) o r; pure r) := by rfl) :
    EV C env vm m H (eval (.Attribute (.Name x xp) attr pos) env) Φ := ev_attr_name (hN _ (op_getattr hx hd hl hc h (pg_all _ _) (fi_all _ hf))) hq
theorem ev_methN {x xp name ap e rest pos Φ fa ax fs} {pl : Sem Bool} (hN : NV C env vm m H (.Name x xp) (.ref ax)) (hi : Inst H ax fs) (hl : look fs name = none)
    (h : LV C env vm m H (spliced (backTo pos (starEach (e :: rest) env))) (fun as H2 => CV C m H2 (.ref fa) (.ref ax :: as) Φ))
    (hf : findIn (KK C.w) (.ref 227) name = some (some (.ref fa))) (hfn : isFn (KK C.w) (.ref fa) = true) (hkp : keepIn (KK C.w) (.ref fa) = true)
    (he : eval (.Call (.Attribute (.Name x xp) name ap) (e :: rest) [] pos) env = (do let ov ← eval (.Name x xp) env; standAt ap.atName; let __x ← holding [ov] (getMethod ov name pl); match __x with | (f, first) => callWith pos f first (backTo pos (starEach (e :: rest) env)) []) := by rfl)
    (h1 : starEach (e :: rest) env = (false, eval e env) :: starEach rest env := by with_unfolding_all rfl) (h2 : (backTo pos (starEach rest env)).any (·.1) = false := by rfl) :
    EV C env vm m H (eval (.Call (.Attribute (.Name x xp) name ap) (e :: rest) [] pos) env) Φ :=
  ev_meth (hN _ ⟨ax, fs, fa, rfl, hi, hl, pg_all _ _, hf, hfn, hkp, h⟩) he h1 h2
theorem ev_methN0 {x xp name ap pos Φ fa ax fs} {pl : Sem Bool} (hN : NV C env vm m H (.Name x xp) (.ref ax)) (hi : Inst H ax fs) (hl : look fs name = none)
    (h : CV C m H (.ref fa) [.ref ax] Φ)
    (hf : findIn (KK C.w) (.ref 227) name = some (some (.ref fa))) (hfn : isFn (KK C.w) (.ref fa) = true) (hkp : keepIn (KK C.w) (.ref fa) = true)
    (he : eval (.Call (.Attribute (.Name x xp) name ap) [] [] pos) env = (do let ov ← eval (.Name x xp) env; standAt ap.atName; let __x ← holding [ov] (getMethod ov name pl); match __x with | (f, first) => callWith pos f first (backTo pos (starEach [] env)) []) := by rfl) :
    EV C env vm m H (eval (.Call (.Attribute (.Name x xp) name ap) [] [] pos) env) Φ :=
  ev_meth0 (hN _ ⟨ax, fs, fa, rfl, hi, hl, pg_all _ _, hf, hfn, hkp, h⟩) he
/-- a plain field, by any name -/
theorem ex_fldN {x xp attr pos' value pos Φ} (h : EV C env m m H (eval value env) (fun a H1 => ∃ σ σ' : Sg, At H1 σ ∧ NV C env m m H1 (.Name x xp) (.ref σ.x) ∧ (∀ u, σ'.at u = if u = .attrs then some (σ.dx, .attrs (putA attr a σ.fs)) else σ.at u) ∧ Fr0 H0 H1 ∧ (∀ H', At H' σ' → Fr0 H0 H' → Φ .next m H')))
    (ht : attrNames.contains attr = true := by decide)
    (hw : swapsWith value (some (.Attribute (.Name x xp) attr pos')) pos.line env = pure false := by with_unfolding_all exact rfl_sw) : EX C env m H (exec (.Assign [.Attribute (.Name x xp) attr pos'] value pos) env) Φ :=
  ex_setattr (h.mono fun a H1 ⟨σ, σ', hA, hN, h', f, hΦ⟩ => hN _ ⟨_, _, _, _, _, rfl, hA .inst _ _ rfl, hA .attrs _ _ rfl, by show 16 ≤ 100; decide, tk_all _ ht,
    hΦ _ (hA.upd rfl h') (f.trans (Fr0.comp (hA .attrs _ _ rfl) rfl))⟩) hw
/-- a new thing for a field, by any name -/
theorem ex_fldN_new {x xp attr pos' value pos Φ} (t : Tag) (h : EV C env m m H (eval value env) (fun a H1 => ∃ l o' t', ∃ σ σ' : Sg, a = .ref l ∧ H1 l = some (t', o') ∧ t'.out = true ∧ At H1 σ ∧ NV C env m m H1 (.Name x xp) (.ref σ.x) ∧
      (∀ u, σ'.at u = if u = t then some (l, o') else if u = .attrs then some (σ.dx, .attrs (putA attr (.ref l) σ.fs)) else σ.at u) ∧ (∀ H', At H' σ' → (∀ b, b ≠ l → ∀ t o, H1 b = some (t, o) → t.out = true → H' b = some (t, o)) → Φ .next m H')))
    (hta : t ≠ .attrs := by decide) (ht : attrNames.contains attr = true := by decide)
    (hw : swapsWith value (some (.Attribute (.Name x xp) attr pos')) pos.line env = pure false := by with_unfolding_all exact rfl_sw) : EX C env m H (exec (.Assign [.Attribute (.Name x xp) attr pos'] value pos) env) Φ := fun hl s Q E hs hq =>
  plainObj_wpAny_Assign_Attribute (h s _ E hs (vm0 hl) fun v H1 s1 h1 hs1 k1 => by
    obtain ⟨l, o', t', σ, σ', ev, hH, ho, hA, hN, h', hΦ⟩ := h1
    refine hN (fun w H2 => w = .ref σ.x ∧ H2 = H1) ⟨rfl, rfl⟩ s1 _ E hs1 (vm0 hl) fun ov H2 s2 h2 hs2 k2 => ?_
    obtain ⟨e2, rfl⟩ := h2
    obtain rfl := er_ref e2
    refine uv_setattr (env := env) (vm := m) (Φ := fun H3 => H3 = H2.set σ.dx (.attrs, .attrs (putA attr (.ref l) σ.fs))) (hA .inst _ _ rfl) (hA .attrs _ _ rfl) (by show 16 ≤ 100; decide) rfl (tk_all _ ht) v ev s2 _ E hs2 (vm0 hl) fun H3 s3 h3 hs3 k3 => ?_
    subst h3
    have hd' := hA .attrs _ _ rfl
    have hl' : (H2.set σ.dx (.attrs, .attrs (putA attr (.ref l) σ.fs))) l = some (t', o') := AH.set_tag hd' hH (by rintro rfl; cases ho)
    obtain ⟨s4, k4⟩ := hs3.retag (t' := t) hl'
    have hA4 : At ((H2.set σ.dx (.attrs, .attrs (putA attr (.ref l) σ.fs))).set l (t, o')) σ' := fun u b p e => by
      rw [h'] at e
      by_cases q : u = t
      · subst q; rw [if_pos rfl] at e; cases e; exact AH.set_self
      · rw [if_neg q] at e
        by_cases q2 : u = .attrs
        · subst q2; rw [if_pos rfl] at e; cases e
          rw [AH.set_ne (by rintro rfl; rw [hH] at hd'; cases hd'; cases ho)]; exact AH.set_self
        · rw [if_neg q2] at e
          have hb := hA _ _ _ e
          rw [AH.set_ne (by rintro rfl; rw [hH] at hb; cases hb; rw [Sg.at_out ho] at e; cases e)]
          exact AH.set_tag hd' hb q2
    refine hq .next m _ s3 (hΦ _ hA4 fun b hb t o e ho => ?_) s4 (k1.trans (k2.trans (k3.trans k4)))
    rw [AH.set_ne hb]
    exact AH.set_tag hd' e (by rintro rfl; cases ho)) hw

-- pins: the epoch of a dict that is gone through
theorem St.pin {s d t kvs} (hs : St C m H s) (hH : H d = some (t, .idict kvs)) : ∃ ep, St C m (H.set d (t, .fdict ep kvs)) s ∧ Kp C H (H.set d (t, .fdict ep kvs)) s.heap s.heap := by
  obtain ⟨ob, e, ⟨kvs', ⟨es, ep, h1, h2, h3⟩, hm⟩, nL, ng⟩ := hs.hr d t _ hH
  refine ⟨ep, ⟨hs.fr, fun a t' o e' => ?_, hs.sr⟩, fun b o e' n _ => ⟨e', ?_⟩⟩
  · by_cases q : a = d
    · subst q; rw [AH.set_self] at e'; cases e'; exact ⟨ob, e, ⟨kvs', ⟨es, h1, h2, h3⟩, hm⟩, nL, ng⟩
    · rw [AH.set_ne q] at e'; exact hs.hr a t' o e'
  · rw [AH.set_ne (by rintro rfl; rw [hH] at n; cases n)]; exact n
theorem St.unpin {s d t ep kvs} (hs : St C m H s) (hH : H d = some (t, .fdict ep kvs)) : St C m (H.set d (t, .idict kvs)) s ∧ Kp C H (H.set d (t, .idict kvs)) s.heap s.heap := by
  obtain ⟨ob, e, ⟨kvs', ⟨es, h1, h2, h3⟩, hm⟩, nL, ng⟩ := hs.hr d t _ hH
  refine ⟨⟨hs.fr, fun a t' o e' => ?_, hs.sr⟩, fun b o e' n _ => ⟨e', ?_⟩⟩
  · by_cases q : a = d
    · subst q; rw [AH.set_self] at e'; cases e'; exact ⟨ob, e, ⟨kvs', ⟨es, ep, h1, h2, h3⟩, hm⟩, nL, ng⟩
    · rw [AH.set_ne q] at e'; exact hs.hr a t' o e'
  · rw [AH.set_ne (by rintro rfl; rw [hH] at n; cases n)]; exact n
theorem EV.pin {d t kvs tr Φ} (hH : H d = some (t, .idict kvs)) (h : ∀ ep, EV C env vm m (H.set d (t, .fdict ep kvs)) tr Φ) : EV C env vm m H tr Φ := fun s Q E hs hv hq => by
  obtain ⟨ep, s1, k1⟩ := hs.pin hH
  exact h ep s Q E s1 (hv.step k1) fun v H' s' p hs' k => hq v H' s' p hs' (k1.trans k)
theorem EX.pin {d t kvs tr Φ} (hH : H d = some (t, .idict kvs)) (h : ∀ ep, EX C env m (H.set d (t, .fdict ep kvs)) tr Φ) : EX C env m H tr Φ := fun hl s Q E hs hq => by
  obtain ⟨ep, s1, k1⟩ := hs.pin hH
  exact h ep hl s Q E s1 fun v m' H' s' p hs' k => hq v m' H' s' p hs' (k1.trans k)
theorem EV.unpin {tr Φ} (h : EV C env vm m H tr (fun v H1 => ∃ d t ep kvs, H1 d = some (t, .fdict ep kvs) ∧ Φ v (H1.set d (t, .idict kvs)))) : EV C env vm m H tr Φ := fun s Q E hs hv hq =>
  h s Q E hs hv fun v H1 s1 ⟨d, t, ep, kvs, hH, p⟩ hs1 k => by
    obtain ⟨s2, k2⟩ := hs1.unpin hH
    exact hq v _ s1 p s2 (k.trans k2)
theorem EX.unpin {tr Φ} (h : EX C env m H tr (fun f m1 H1 => ∃ d t ep kvs, H1 d = some (t, .fdict ep kvs) ∧ Φ f m1 (H1.set d (t, .idict kvs)))) : EX C env m H tr Φ := fun hl s Q E hs hq =>
  h hl s Q E hs fun f m1 H1 s1 ⟨d, t, ep, kvs, hH, p⟩ hs1 k => by
    obtain ⟨s2, k2⟩ := hs1.unpin hH
    exact hq f m1 _ s1 p s2 (k.trans k2)
theorem op_item_fdict {value slice d t ep kvs k x Φ} (hH : H d = some (t, .fdict ep kvs)) (hx : ilook kvs k = some x) (h : Φ x H)
    (hsub : ∀ u, subscripted slice false (.ref d) (.int k u) = operate [.ref d, .int k u] (getItem (.ref d) (.int k u)) := by intro _; rfl) :
    Op2 C env vm m H (subscriptTail value slice) (.ref d) (.int k) Φ := fun v1 v2 e1 e2 s Q E hs _ hq => by
  obtain rfl := er_ref e1
  obtain ⟨u, rfl⟩ := er_int e2
  obtain ⟨ob, kvs', e, hd, hm, hD, lo, hmem⟩ := (hs.unpin hH).1.idictAt AH.set_self
  rw [← hm, ← ilook_of] at hx
  cases e' : valueAt kvs' k with
  | none => rw [e'] at hx; cases hx
  | some y =>
    rw [e'] at hx
    have hy : er y = x := Option.some.inj hx
    exact kba_turn (value' := .Name (PySem.Str.ofString "_") ⟨0, 0, 0, 0⟩) (fun _ => rfl) (kda_item (knd := intKind PG C.w) allOf_news hmem hd (intKind_is _ _ _ _) e' (hq y H _ (by rw [hy]; exact h) (hs.tok _) .refl) (hsub u) (fun _ => rfl))
theorem AH.set_back {H : AH} {d x y} (h : H d = some x) : (H.set d y).set d x = H := by
  funext a
  by_cases q : a = d
  · subst q; rw [AH.set_self, h]
  · rw [AH.set_ne q, AH.set_ne q]
end
--T S8

theorem Lk.newHeats {σ : Sg} (L : Lk σ) {l hs g} (h : Heat hs) : Lk ((σ.newHeats l hs).setGain g) := L.of rfl rfl rfl rfl rfl rfl rfl rfl L.rng L.nd L.kn L.ht L.cs L.dkn L.bkn L.dht L.dcs L.dlk L.blk h L.bgs L.bgl L.sl
theorem Heat.store {hs} (h : Heat hs) {v : Int} {i : Int} (h1 : 1 ≤ v) (h4 : v ≤ 4) : Heat (istore hs v (.int i)) := by
  refine ⟨h.dk.istore h1 h4, fun u hu1 hu4 => ?_, fun p hp => ?_⟩
  · rw [ilook_istore]
    split
    · exact ⟨i, rfl⟩
    · exact h.all u hu1 hu4
  · unfold istore at hp
    split at hp
    · obtain ⟨q, hq, rfl⟩ := List.mem_map.mp hp
      split
      · exact ⟨i, rfl⟩
      · exact h.nums q hq
    · rcases List.mem_append.mp hp with hp | hp
      · exact h.nums p hp
      · rw [List.mem_singleton.mp hp]; exact ⟨i, rfl⟩
theorem warm_spec {H : AH} {σ : Sg} {v : Int} (hA : At H σ) (hh : Heat σ.heats) (h1 : 1 ≤ v) (h4 : v ≤ 4) (Φ : AV → AH → Prop)
    (h : ∀ H' l hs g, At H' ((σ.newHeats l hs).setGain g) → Heat hs → Fr0 H H' → Φ .none H') : Spec 1 163 [.ref σ.x, .int v] H Φ := by
  refine spec_cells (fun w => rfl) (fun w => rfl) (binds2 (n1 := "self") (n2 := "v") (fun _ _ => rfl) rfl) (fun _ => rfl) (by decide) rfl rfl rfl (fun C hroom hfe hlt H1 hH1 hcells => ?_)
  have hc := hcells (PySem.Str.ofString "self") _ rfl
  have hc' : H1 (C.L + 1) = some (.cell, .cell (some (.ref σ.x))) := hc
  generalize hm : bindLA _ _ _ = m
  have mv : m (PySem.Str.ofString "v") = some (.int v) := by rw [← hm]; rfl
  clear hm hc hcells
  have hA1 : At H1 σ := fun t a o e => hH1 _ _ (hA t a o e)
  have f1 : Fr0 H H1 := fun b t o e _ => hH1 _ _ e
  clear hA
  obtain ⟨i0, hi0⟩ := hh.all v h1 h4
  repeat walk_at "s"
  refine ev_fld (nv_cell hc') (hA1 .inst _ _ rfl) (hA1 .attrs _ _ rfl) rfl rfl ?_
  repeat walk_at "s"
  refine op_item_dict (hA1 .heats _ _ rfl) hi0 ?_
  repeat walk_at "s"
  refine ev_fld (nv_cell hc') (hA1 .inst _ _ rfl) (hA1 .attrs _ _ rfl) rfl rfl ?_
  repeat walk_at "s"
  refine ev_fld (nv_cell hc') (hA1 .inst _ _ rfl) (hA1 .attrs _ _ rfl) rfl rfl ?_
  repeat walk_at "s"
  refine op_set_comp (σ.setHeats (istore σ.heats v (.int (i0 + σ.gain)))) hA1 .refl (t := .heats) rfl (by have := hh.dk.len; (clear h1 h4 hroom; lia)) (at_heats σ · _) (fun H2 hA2 f2 => ?_)
  have hh2 := hh.store (v := v) (i := i0 + σ.gain) h1 h4
  generalize istore σ.heats v (.int (i0 + σ.gain)) = hs2 at hA2 hh2
  have hc2 := f2 _ _ _ hc' rfl
  obtain ⟨i2, hi2⟩ := hh2.all v h1 h4
  clear hA1 hi0 hc'
  repeat walk_at "s"
  refine ev_fld (nv_cell hc2) (hA2 .inst _ _ rfl) (hA2 .attrs _ _ rfl) rfl rfl ?_
  repeat walk_at "s"
  refine op_item_dict (hA2 .heats _ _ rfl) hi2 ?_
  obtain ⟨th, gh⟩ := ng_heat C.w
  repeat walk_at "s"
  refine ev_globi gh ?_
  repeat walk_at "s"
  refine ite_split (fun hb => ?_) (fun hb => ?_)
  · repeat walk_at "s"
    refine ex_fldN_new .heats ?_
    refine EV.pin (hA2 .heats _ _ rfl) fun ep => ?_
    have p1 : ∀ a t o, (σ.setHeats hs2).at t = some (a, o) → t ≠ .heats → (H2.set σ.aHeats (.heats, .fdict ep hs2)) a = some (t, o) := fun a t o e ht => AH.set_tag (hA2 .heats _ _ rfl) (hA2 _ _ _ e) ht
    have pI := p1 _ .inst _ rfl (by decide)
    have pA := p1 _ .attrs _ rfl (by decide)
    have pH : (H2.set σ.aHeats (.heats, .fdict ep hs2)) σ.aHeats = some (.heats, .fdict ep hs2) := AH.set_self
    have pC : (H2.set σ.aHeats (.heats, .fdict ep hs2)) (C.L + 1) = some (.cell, .cell (some (.ref σ.x))) := AH.set_tag (hA2 .heats _ _ rfl) hc2 (by intro q; cases q)
    refine EV.unpin ?_
    refine ev_dcomp [(PySem.Str.ofString "self", C.L + 1)] rfl ?_
    refine ev_fld (nv_cell pC) pI pA rfl rfl ?_
    refine ⟨_, _, src_dict pH, by have := hh2.dk.len; simp; (clear h1 h4 hroom; lia), fun i out H' => H' = H2.set σ.aHeats (.heats, .fdict ep hs2) ∧ out.map (·.1) = (hs2.take i).map (·.1) ∧ ∀ p ∈ out, ∃ j : Int, p.2 = .int j, ⟨rfl, rfl, by simp⟩, fun i out H' ⟨e, _⟩ => ⟨.heats, by rw [e]; exact pH⟩, fun i a ha out H' ⟨e, eo, en⟩ D hD => ?_, fun out H' ⟨e, eo, en⟩ l hl => ?_⟩
    · subst e
      obtain ⟨p, hp, rfl⟩ : ∃ p, hs2[i]? = some p ∧ a = .int p.1 := by
        rw [List.getElem?_map] at ha
        cases q : hs2[i]? with
        | none => rw [q] at ha; cases ha
        | some p => rw [q] at ha; exact ⟨p, rfl, (Option.some.inj ha).symm⟩
      have hpm := List.mem_of_getElem? hp
      obtain ⟨j, hj⟩ := hh2.all p.1 (hh2.dk.1 p hpm).1 (hh2.dk.1 p hpm).2
      repeat walk_at "s"
      refine ⟨_, rfl, ?_⟩
      repeat walk_at "s"
      refine ev_fld (nv_cell pC) pI pA rfl rfl ?_
      repeat walk_at "s"
      refine op_item_fdict pH hj ?_
      repeat walk_at "s"
      refine ev_globi gh ?_
      repeat walk_at "s"
      refine op_fdiv (by decide) (by decide) ?_
      refine ⟨rfl, ?_, fun q hq => ?_⟩
      · rw [istore_keys, eo]
        have hnm : ¬ (out.any fun kv => decide (kv.1 = p.1)) = true := by
          intro q
          obtain ⟨r, hr, e⟩ := List.any_eq_true.mp q
          have h3 : r.1 = p.1 := by simpa using e
          have h4 : p.1 ∈ (hs2.take i).map (·.1) := by rw [← eo, ← h3]; exact List.mem_map_of_mem hr
          have nd := hh2.dk.2
          have e5 : hs2 = hs2.take i ++ p :: hs2.drop (i + 1) := by
            obtain ⟨hl, he⟩ := List.getElem?_eq_some_iff.mp hp
            rw [← he, ← List.drop_eq_getElem_cons hl, List.take_append_drop]
          rw [e5, List.map_append, List.nodup_append] at nd
          exact nd.2.2 _ h4 _ (by simp) rfl
        rw [if_neg hnm, List.take_add_one, hp]; simp
      · unfold istore at hq
        split at hq
        · obtain ⟨r, hr, rfl⟩ := List.mem_map.mp hq
          split
          · exact ⟨_, rfl⟩
          · exact en r hr
        · rcases List.mem_append.mp hq with hq | hq
          · exact en q hq
          · rw [List.mem_singleton.mp hq]; exact ⟨_, rfl⟩
    · subst e
      have hkeys : out.map (·.1) = hs2.map (·.1) := by rw [eo, List.length_map, List.take_of_length_le (Nat.le_refl _)]
      have hho : Heat out := by
        refine ⟨⟨fun p hp => ?_, by rw [hkeys]; exact hh2.dk.2⟩, fun u h1 h4 => ?_, en⟩
        · have : p.1 ∈ hs2.map (·.1) := by rw [← hkeys]; exact List.mem_map_of_mem hp
          obtain ⟨q, hq, e⟩ := List.mem_map.mp this
          rw [← e]; exact hh2.dk.1 q hq
        · obtain ⟨j, hj⟩ := hh2.all u h1 h4
          have : u ∈ out.map (·.1) := by rw [hkeys]; exact List.mem_map_of_mem (f := (·.1)) (ilook_mem hj)
          obtain ⟨q, hq, e⟩ := List.mem_map.mp this
          cases ho : ilook out u with
          | none =>
            exfalso
            unfold ilook at ho
            rw [Option.map_eq_none_iff, List.find?_eq_none] at ho
            have := ho q hq
            simp [e] at this
          | some v' =>
            obtain ⟨j', e'⟩ := en _ (ilook_mem ho)
            exact ⟨j', by rw [show v' = .int j' from e']⟩
      have hln : l ≠ σ.aHeats := by rintro rfl; rw [pH] at hl; cases hl
      have hl2 : H2 l = none := by rw [AH.set_ne hln] at hl; exact hl
      refine ⟨σ.aHeats, .heats, ep, hs2, by rw [AH.set_ne (Ne.symm hln)]; exact pH, ?_⟩
      have eH : ((H2.set σ.aHeats (.heats, .fdict ep hs2)).set l (.tmp, .idict out)).set σ.aHeats (.heats, .idict hs2) = H2.set l (.tmp, .idict out) := by
        funext a
        by_cases q : a = σ.aHeats
        · subst q; rw [AH.set_self, AH.set_ne (Ne.symm hln)]; exact (hA2 .heats _ _ rfl).symm
        · rw [AH.set_ne q]
          by_cases q2 : a = l
          · subst q2; rw [AH.set_self, AH.set_self]
          · rw [AH.set_ne q2, AH.set_ne q2, AH.set_ne q]
      rw [eH]
      have hA3 := hA2.out (x := (.tmp, .idict out)) (.inl hl2)
      have hc3 := AH.set_new (x := (.tmp, .idict out)) hl2 hc2
      refine ⟨l, _, _, σ.setHeats hs2, σ.newHeats l out, rfl, AH.set_self, rfl, hA3, nv_cell hc3, fun u => by cases u <;> rfl, fun H4 hA4 f4 => ?_⟩
      have hc4 := f4 _ (by rintro rfl; rw [hl2] at hc2; cases hc2) _ _ hc3 rfl
      have f5 : Fr0 H1 H4 := fun b t o e ho => by
        have := f2 b t o e ho
        exact f4 b (by rintro rfl; rw [hl2] at this; cases this) t o (AH.set_new hl2 this) ho
      repeat walk_at "s"
      refine ex_fldN (H0 := H1) ?_
      repeat walk_at "s"
      refine ⟨_, (σ.newHeats l out).setGain 1, hA4, nv_cell hc4, (at_gain _ · _), f5, fun H6 hA6 f6 => ?_⟩
      repeat walk_at "s"
      exact h _ l out 1 hA6 hho (f1.trans f6)
  · repeat walk_at "s"
    exact h _ σ.aHeats hs2 σ.gain hA2 hh2 (f1.trans f2)
--T Fw16
section
variable {C : Ctx} {env : Env} {vm m : Loc} {H H0 : AH} {σ : Sg}
theorem St.grownN {s t} {D : Addr} {ob : Obj} {o : AO} {h' : Heap} {tk : Nat} {mm : Str → Option Value} (hs : St C m H s) (r : LocRep m mm) (F' : Fr C.g C.L h' mm) (k : ∀ b x, b ≠ C.L → s.heap.get? b = some x → h'.get? b = some x)
    (hD : s.heap.get? D = none) (nL : D ≠ C.L) (low : sysModules < D) (e : h'.get? D = some ob) (rep : o.rep C.w ob) : St C m (H.set D (t, o)) { s with heap := h', toks := tk } ∧ Kp C H (H.set D (t, o)) s.heap h' ∧ H D = none := by
  have hn : H D = none := by
    cases q : H D with
    | none => rfl
    | some x => obtain ⟨ob1, e1, _⟩ := hs.hr D x.1 x.2 q; rw [hD] at e1; cases e1
  obtain ⟨mm0, F0, _⟩ := hs.fr
  refine ⟨⟨⟨mm, F', r⟩, fun b u p hb => ?_, ?_⟩, fun b x hb hn' hl => ⟨k b x hl hb, ?_⟩, hn⟩
  · by_cases q : b = D
    · subst q
      rw [AH.set_self] at hb; cases hb
      refine ⟨ob, e, rep, nL, ?_, low⟩
      cases q : C.g.get? b with
      | none => rfl
      | some x => have := F0.keep b x q; rw [hD] at this; cases this
    · rw [AH.set_ne q] at hb
      obtain ⟨ob1, e1, r1, n1, g1⟩ := hs.hr b u p hb
      exact ⟨ob1, k b ob1 n1 e1, r1, n1, g1⟩
  · obtain ⟨h0, tk0, e0⟩ := hs.sr; exact ⟨h', tk, by rw [e0]⟩
  · rw [AH.set_ne (by rintro rfl; rw [hD] at hb; cases hb)]; exact hn'
/-- sorted(.., key=.., ..): the call with keywords -/
noncomputable def CKw (C : Ctx) (m : Loc) (H : AH) (id : String) (args : List AV) (kw : List (Str × AV)) (Φ : AV → AH → Prop) : Prop :=
  ∀ (vs : List Value) (kvs : List Value), vs.map er = args → kvs.map er = kw.map (·.2) → ∀ (s : Shared) (Q : Value → Shared → Prop) (E : Value → Shared → Prop), St C m H s →
    (∀ v H' s', Φ (er v) H' → St C m H' s' → Kp C H H' s.heap s'.heap → Q v s') → wpAny (model PG C.w) C.A (call (.builtin id) vs ((kw.map (·.1)).zip kvs)) Q E s
theorem ev_call_bk1 {x xp id e n1 v1 p1 pos Φ} (g : nsIn (KK C.w) mainGlobals x = some none) (hb : bootBuiltins x = some (.builtin id)) (hn : x ≠ "__name__")
    (h : EV C env vm m H (eval e env) (fun a H1 => EV C env vm m H1 (eval v1 env) (fun k H2 => CKw C m H2 id [a] [(n1, k)] Φ)))
    (hg : env.globals = mainGlobals := by with_unfolding_all exact rfl_mg) (hgb : env.builtins = builtinsNs := by with_unfolding_all exact rfl_bn) (hkf : env.scope.kind = .function := by with_unfolding_all exact rfl_fn)
    (hl : env.kindOf x = some .globalImplicit := by with_unfolding_all exact rfl_gi) (hd : (x == ("__debug__" : Str)) = false := by decide)
    (he : eval (.Call (.Name x xp) [e] [⟨some n1, v1, p1⟩] pos) env = (do callWith pos (← eval (.Name x xp) env) [] (backTo pos (starEach [e] env)) (backToKw pos (keywordEach [⟨some n1, v1, p1⟩] env))) := by rfl)
    (h1 : starEach [e] env = (false, eval e env) :: starEach [] env := by rfl) (h2 : backTo pos (starEach [e] env) = (false, eval e env) :: backTo pos (starEach [] env) := by rfl) (h3 : (backTo pos (starEach [e] env)).any (·.1) = false := by rfl) :
    EV C env vm m H (eval (.Call (.Name x xp) [e] [⟨some n1, v1, p1⟩] pos) env) Φ := fun s Q E hs hv hq => by
  rw [he]
  refine wpAny_bind (ev_bi (Φ := fun v H' => v = .conc (.builtin id) ∧ H' = H) g hb hn ⟨rfl, rfl⟩ hg hgb hkf hl hd s _ E hs hv fun v H1 s1 h1' hs1 k1 => ?_)
  obtain ⟨e1, rfl⟩ := h1'
  obtain rfl := er_conc e1
  refine callWith_kw (e := e) (rest := []) (kws := [⟨some n1, v1, p1⟩]) (args_cons (h s1 _ E hs1 (hv.step k1) fun a H2 s2 h2' hs2 k2 => args_nil (kws_cons (h2' s2 _ E hs2 ((hv.step k1).step k2) fun k H3 s3 h3' hs3 k3 => kws_nil ?_))) h1) h2 h3 rfl rfl
  exact h3' [a] [k] rfl rfl s3 Q E hs3 fun v H4 s4 h4 hs4 k4 => hq v H4 s4 h4 hs4 (k1.trans (k2.trans (k3.trans k4)))
theorem ev_call_bk2 {x xp id e n1 v1 p1 n2 v2 p2 pos Φ} (g : nsIn (KK C.w) mainGlobals x = some none) (hb : bootBuiltins x = some (.builtin id)) (hn : x ≠ "__name__")
    (h : EV C env vm m H (eval e env) (fun a H1 => EV C env vm m H1 (eval v1 env) (fun k H2 => EV C env vm m H2 (eval v2 env) (fun k2 H3 => CKw C m H3 id [a] [(n1, k), (n2, k2)] Φ))))
    (hg : env.globals = mainGlobals := by with_unfolding_all exact rfl_mg) (hgb : env.builtins = builtinsNs := by with_unfolding_all exact rfl_bn) (hkf : env.scope.kind = .function := by with_unfolding_all exact rfl_fn)
    (hl : env.kindOf x = some .globalImplicit := by with_unfolding_all exact rfl_gi) (hd : (x == ("__debug__" : Str)) = false := by decide)
    (he : eval (.Call (.Name x xp) [e] [⟨some n1, v1, p1⟩, ⟨some n2, v2, p2⟩] pos) env = (do callWith pos (← eval (.Name x xp) env) [] (backTo pos (starEach [e] env)) (backToKw pos (keywordEach [⟨some n1, v1, p1⟩, ⟨some n2, v2, p2⟩] env))) := by rfl)
    (h1 : starEach [e] env = (false, eval e env) :: starEach [] env := by rfl) (h2 : backTo pos (starEach [e] env) = (false, eval e env) :: backTo pos (starEach [] env) := by rfl) (h3 : (backTo pos (starEach [e] env)).any (·.1) = false := by rfl) :
    EV C env vm m H (eval (.Call (.Name x xp) [e] [⟨some n1, v1, p1⟩, ⟨some n2, v2, p2⟩] pos) env) Φ := fun s Q E hs hv hq => by
  rw [he]
  refine wpAny_bind (ev_bi (Φ := fun v H' => v = .conc (.builtin id) ∧ H' = H) g hb hn ⟨rfl, rfl⟩ hg hgb hkf hl hd s _ E hs hv fun v H1 s1 h1' hs1 k1 => ?_)
  obtain ⟨e1, rfl⟩ := h1'
  obtain rfl := er_conc e1
  refine callWith_kw (e := e) (rest := []) (kws := [⟨some n1, v1, p1⟩, ⟨some n2, v2, p2⟩]) (args_cons (h s1 _ E hs1 (hv.step k1) fun a H2 s2 h2' hs2 k2 => args_nil (kws_cons (h2' s2 _ E hs2 ((hv.step k1).step k2) fun k H3 s3 h3' hs3 k3 =>
    kws_cons (h3' s3 _ E hs3 (((hv.step k1).step k2).step k3) fun kk H4 s4 h4' hs4 k4 => kws_nil ?_)))) h1) h2 h3 rfl rfl
  exact h4' [a] [k, kk] rfl rfl s4 Q E hs4 fun v H5 s5 h5 hs5 k5 => hq v H5 s5 h5 hs5 (k1.trans (k2.trans (k3.trans (k4.trans k5))))

/-- what a sort by an int key of ints gives -/
theorem ksk_ints {b : Bool} {g : Int → Int} {vs out : List Value} {ns : List Int} (hi : IntsAre vs ns) (ko : KskOut b (ns.map g) vs out) :
    ∃ r : List Int, IntsAre out r ∧ r.Perm ns ∧ r.Pairwise (fun x y => if b then g y ≤ g x else g x ≤ g y) := by
  have hlen := hi.length
  obtain ⟨ps, hp, ho, hs⟩ := ko
  have hrel : ∀ p, p ∈ (ns.map g).zip vs → p.1 = g (numOf p.2) ∧ p.2 ∈ vs := by
    rw [← hi.nums, List.map_map, List.zip_map_left]
    intro p hp
    obtain ⟨⟨u, v⟩, hq, rfl⟩ := List.mem_map.mp hp
    have h1 : u = v ∧ u ∈ vs := mem_zip_self hq
    refine ⟨?_, ?_⟩
    · show g (numOf u) = g (numOf v)
      rw [h1.1]
    · show v ∈ vs
      rw [← h1.1]
      exact h1.2
  have hI : IntsAre (ps.map Prod.snd) ((ps.map Prod.snd).map numOf) := intsAre_map _ fun v hv => by
    obtain ⟨p, hp', rfl⟩ := List.mem_map.mp hv
    exact hi.all _ (hrel p (hp.mem_iff.mp hp')).2
  have hP : ((ps.map Prod.snd).map numOf).Perm ns := by
    have h1 := (hp.map Prod.snd).map numOf
    rw [List.map_snd_zip (by rw [List.length_map]; lia), hi.nums] at h1
    exact h1
  have hO : ((ps.map Prod.snd).map numOf).Pairwise (fun x y => if b then g y ≤ g x else g x ≤ g y) := by
    rw [List.pairwise_map, List.pairwise_map]
    refine hs.imp_of_mem fun {p q} hp' hq' hr => ?_
    have hr' : if b then q.1 ≤ p.1 else p.1 ≤ q.1 := hr
    rw [(hrel p (hp.mem_iff.mp hp')).1, (hrel q (hp.mem_iff.mp hq')).1] at hr'
    exact hr'
  rw [← ho] at hI hP hO
  exact ⟨_, hI, hP, hO⟩
theorem ints_er {vs : List Value} {ns : List Int} (h : IntsAre vs ns) : vs.map er = ns.map .int := by
  induction h with
  | nil => rfl
  | cons n t _ ih => simp [ih, er]
theorem er_ints : ∀ {vs : List Value} {ns : List Int}, vs.map er = ns.map .int → IntsAre vs ns
  | [], [], _ => .nil
  | [], _ :: _, h => by cases h
  | _ :: _, [], h => by cases h
  | v :: vs, n :: ns, h => by
    simp only [List.map_cons, List.cons.injEq] at h
    obtain ⟨t, rfl⟩ := er_int h.1
    exact .cons n t (er_ints h.2)
theorem call_abs_any {prog : Program} {w : World} {A : Around} {E : Value → Shared → Prop} {s : Shared} {Q : Value → Shared → Prop} {a : Int} {t : Tok} (h : ∀ u tk, Q (.int (ab a) u) { s with toks := tk }) : wpAny (model prog w) A (call (.builtin "abs") [.int a t]) Q E s := call_abs_int h

/-- sorted(d, key=abs) over a dict of ints -/
theorem ck_sorted_abs {d t kvs Φ} (hH : H d = some (t, .idict kvs)) (h64 : kvs.length < 64)
    (h : ∀ l (r : List Int), H l = none → r.Perm (kvs.map (·.1)) → r.Pairwise (fun x y => ab x ≤ ab y) → Φ (.ref l) (H.set l (.tmp, .list (r.map .int)))) :
    CKw C m H "sorted" [.ref d] [(PySem.Str.ofString "key", .conc (.builtin "abs"))] Φ := fun vs kws e ek s Q E hs hq => by
  obtain ⟨v1, rfl, e1⟩ := vs1 e
  obtain rfl := er_ref e1
  obtain ⟨k1, rfl, e2⟩ := vs1 ek
  obtain rfl := er_conc e2
  obtain ⟨ob, kvs', e0, hd, hm, hD, lo, hmem⟩ := hs.idictAt hH
  have hlen : kvs'.length = kvs.length := by rw [← hm, List.length_map]
  obtain ⟨ep, hat⟩ := hD.dictAt
  obtain ⟨mm, F, r⟩ := hs.fr
  have hzl : kvs'.length ≤ sizeLine := by have := sizeLine_big; lia
  refine call_function_entry_kw kind_sorted plain_sorted entry_sorted (ksk_s1 _ _) ?_
  unfold Builtin.«sorted»
  refine wpAny_bind (m := checkCount "sorted" 1 1 _) (wpAny_pure ?_)
  refine wpAny_bind (kdu_collect (A := C.A.in1) (kdl_dict (knd := intKind PG C.w) (kvs := kvs') (ep := ep) lo) C.hh hat hzl fun h1 tk acc hk hacc => ?_)
  have hl : acc.toList.length = kvs'.length := by rw [Array.length_toList]; exact hacc.1
  refine wpAny_bind (wpAny_newList ?_ (by rw [hl]; exact hzl))
  have hints : IntsAre acc.toList (kvs'.map (·.1)) := by
    refine er_ints (List.ext_getElem? fun i => ?_)
    rw [List.getElem?_map, List.getElem?_map, List.getElem?_map]
    cases hi : acc.toList[i]? with
    | none =>
      have : kvs'.length ≤ i := by rw [← hl]; exact List.getElem?_eq_none_iff.mp hi
      rw [List.getElem?_eq_none this]; rfl
    | some v =>
      obtain ⟨k, x, hx, hv⟩ := hacc.2 i v (by rw [← Array.getElem?_toList]; exact hi)
      rw [hx]
      obtain ⟨u, rfl⟩ := Value.isInt_shape (show v.isInt k = true from hv)
      rfl
  have hkeep : ∀ b o, s.heap.get? b = some o → (h1.push { cls := .type "list", data := .seq acc.toList.toArray }).get? b = some o := fun b o e => Heap.get?_push_of_some _ (hk b o e)
  have F1 := F.keeps hk
  have hDn : s.heap.get? h1.objs.size = none := by
    cases q : s.heap.get? h1.objs.size with
    | none => rfl
    | some o => exact absurd (Heap.lt_size (hk _ _ q)) (Nat.lt_irrefl _)
  have hDL : h1.objs.size ≠ C.L := Nat.ne_of_gt F1.ns.lt
  have hDg : C.g.get? h1.objs.size = none := by
    cases q : C.g.get? h1.objs.size with
    | none => rfl
    | some o => exact absurd (Heap.lt_size (F1.keep _ _ q)) (Nat.lt_irrefl _)
  have hlow : sysModules < h1.objs.size := by
    obtain ⟨_, _, _, _, g1⟩ := hs.hr d t _ hH
    exact Nat.lt_trans g1.2 (Heap.lt_size (hk _ _ e0))
  have N0 : News C.g C.L (h1.push { cls := .type "list", data := .seq acc.toList.toArray }) (allOf C.g C.L s.heap) := fun p hp => ⟨hkeep _ _ (allOf_news p hp).1, (allOf_news p hp).2⟩
  refine wpAny_bind (wpAny_holding (wpAny_call_entry_kw slot_list_sort ⟨_, Heap.get?_push_size _ rfl, rfl⟩ entry_list_sort ?body (ksk_l1 _ _)))
  case body =>
    show wpAny (model PG C.w) C.A.in1.in1 (Builtin.«list.sort» ⟨[.ref h1.objs.size], [(PySem.Str.ofString "key", .builtin "abs")]⟩) _ _ _
    rw [ksk_t4]
    refine ksk_sort (kz := (kvs'.map (·.1)).map ab) (vs := acc.toList) (n := 0) (F1.push _) N0 (Heap.get?_push_size _ rfl) hDL hDg (fun p hp => ?_) (by rw [List.length_map, List.length_map, hl]) (by rw [hl, hlen]; exact h64) (fun i v k hi hki hh tk' own F' N' => ?_) fun h' tk' out c F' N' ko => ⟨_, rfl, wpAny_pure ⟨_, rfl, ?_⟩⟩
    · exact Nat.ne_of_lt (Heap.lt_size (hk _ _ (allOf_news p hp).1))
    · obtain ⟨n', hn'⟩ : ∃ n', (kvs'.map (·.1))[i]? = some n' := by
        cases q : (kvs'.map (·.1))[i]? with
        | none => rw [List.getElem?_map, q] at hki; cases hki
        | some n' => exact ⟨n', rfl⟩
      rw [List.getElem?_map, hn'] at hki
      have hki' : ab n' = k := Option.some.inj hki
      obtain ⟨t', ht'⟩ := hints.get i n' hn'
      rw [ht'] at hi; cases hi
      rw [← hki']
      exact call_abs_any fun u tk2 => KskEnd.intro (s₁ := { s with heap := hh, toks := tk' }) F' N' fun p hp => hp
    · obtain ⟨r', hr1, hr2, hr3⟩ := ksk_ints hints ko
      have keep := News.keepAll (F₀ := F) F' N'
      obtain ⟨s1, k1, hn⟩ := hs.grownN (t := .tmp) (tk := tk') (o := .list (r'.map .int)) r F' keep hDn hDL hlow (N' _ (.head _)).1 ⟨out.toList, c, by simp [seqObj], ints_er hr1⟩
      exact hq _ _ _ (h _ r' hn (by rw [← hm, List.map_map]; exact hr2) (by simpa using hr3)) s1 k1
end
local macro_rules | `(tactic| walk_at "s") => `(tactic| first
  | ((with_reducible show EV _ _ _ _ _ (eval (Expr.Call (Expr.Name (PySem.Str.ofString "sorted") _) [_] [_] _) _) _); refine ev_call_bk1 (nb_sorted _) boot_sorted (by decide) ?_))
--T S9

/-- everything tracked stays -/
noncomputable def Ext (H H' : AH) : Prop := ∀ b x, H b = some x → H' b = some x
theorem Ext.refl {H : AH} : Ext H H := fun _ _ e => e
theorem Ext.trans {a b c : AH} (h : Ext a b) (k : Ext b c) : Ext a c := fun x y e => k x y (h x y e)
theorem Ext.new {H : AH} {a x} (h : H a = none) : Ext H (H.set a x) := fun b y e => AH.set_new h e
theorem Ext.upd {H H' : AH} {a x} (e : Ext H H') (h : H a = none) : Ext H (H'.set a x) := fun b y q => by
  rw [AH.set_ne (by rintro rfl; rw [h] at q; cases q)]; exact e b y q
theorem Ext.at {H H' : AH} {σ} (e : Ext H H') (h : At H σ) : At H' σ := fun t a o q => e _ _ (h t a o q)
theorem Ext.fr {H H' : AH} (e : Ext H H') : Fr0 H H' := fun b t o q _ => e _ _ q
/-- what ordered gives -/
noncomputable def Ord (lits r : List Int) : Prop := (∀ x, x ∈ r ↔ x ∈ lits) ∧ r.Pairwise (fun x y => ab x < ab y)

theorem ilook_isSome (kvs : List (Int × AV)) (k : Int) : (ilook kvs k).isSome = true ↔ k ∈ kvs.map (·.1) := by
  unfold ilook
  rw [Option.isSome_map, List.find?_isSome]
  constructor
  · rintro ⟨p, hp, e⟩
    exact List.mem_map.mpr ⟨p, hp, by simpa using e⟩
  · intro h
    obtain ⟨p, hp, e⟩ := List.mem_map.mp h
    exact ⟨p, hp, by simpa using e⟩
theorem istore_nodup {kvs : List (Int × AV)} {k : Int} {v} (h : (kvs.map (·.1)).Nodup) : ((istore kvs k v).map (·.1)).Nodup := by
  rw [istore_keys]
  split
  · exact h
  · rename_i hn
    rw [List.nodup_append]
    refine ⟨h, by simp, fun a ha b hb e => ?_⟩
    rw [List.mem_singleton.mp hb] at e
    obtain ⟨q, hq, rfl⟩ := List.mem_map.mp ha
    exact hn (List.any_eq_true.mpr ⟨q, hq, by simp [e]⟩)
theorem istore_mem {kvs : List (Int × AV)} {k : Int} {v} (x : Int) : x ∈ (istore kvs k v).map (·.1) ↔ x ∈ kvs.map (·.1) ∨ x = k := by
  rw [istore_keys]
  split
  · rename_i h
    refine ⟨.inl, fun h' => h'.elim id fun e => ?_⟩
    obtain ⟨q, hq, e'⟩ := List.any_eq_true.mp h
    rw [e]; exact List.mem_map.mpr ⟨q, hq, by simpa using e'⟩
  · simp
theorem istore_len {kvs : List (Int × AV)} {k : Int} {v} : (istore kvs k v).length ≤ kvs.length + 1 := by
  unfold istore; split <;> simp
theorem ordered_spec {H : AH} {a : Addr} {t : Tag} {o : AO} {lits : List Int} (hH : H a = some (t, o)) (ho : o = .list (lits.map .int) ∨ o = .tup (lits.map .int)) (hz : lits.length < 60) (nz : ∀ l ∈ lits, l ≠ 0) (Φ : AV → AH → Prop)
    (h0 : ∀ H' l, Ext H H' → l ∈ lits → -l ∈ lits → Φ .none H') (h1 : ∀ H' l r, Ext H H' → H l = none → H' l = some (.tmp, .tup (r.map .int)) → (∀ x ∈ lits, -x ∉ lits) → Ord lits r → Φ (.ref l) H') : Spec 1 69 [.ref a] H Φ := by
  refine spec_plain (fun w => rfl) (fun w => rfl) (binds1 (n1 := "literals") (fun _ => rfl) rfl) (by rfl) (by decide) rfl rfl rfl (fun C hroom hfe hlt => ?_)
  generalize hm : (fun x => List.lookup x _ : Loc) = m
  have ml : m (PySem.Str.ofString "literals") = some (.ref a) := by rw [← hm]; rfl
  clear hm
  repeat walk_at "s"
  intro D hD
  repeat walk_at "s"
  refine ex_forO ?_
  repeat walk_at "s"
  have hsrc : ∃ Inv, Src C (H.set D (.tmp, .idict [])) (.ref a) (lits.map .int) Inv ∧ ∀ H', Ext H H' → Inv H' := by
    have ha : (H.set D (.tmp, .idict [])) a = some (t, o) := AH.set_new hD hH
    rcases ho with rfl | rfl
    · exact ⟨_, src_list ha, fun H' e => ⟨_, e _ _ hH⟩⟩
    · exact ⟨_, src_tup ha, fun H' e => ⟨_, e _ _ hH⟩⟩
  obtain ⟨Inv, src, hInv⟩ := hsrc
  refine ⟨_, Inv, src, fun i m' H' => m' (PySem.Str.ofString "found") = some (.ref D) ∧ ∃ kvs : List (Int × AV), H' D = some (.tmp, .idict kvs) ∧ Ext H H' ∧ (∀ x, x ∈ kvs.map (·.1) ↔ x ∈ lits.take i) ∧ (kvs.map (·.1)).Nodup ∧ kvs.length ≤ i ∧ ∀ x ∈ lits.take i, -x ∉ lits.take i,
    ⟨by walk_at "loc", [], AH.set_self, Ext.new hD, by simp, by simp, Nat.le_refl _, by simp⟩, fun i m' H' ⟨_, kvs, _, e, _⟩ => hInv _ e, fun i v hv m' H' ⟨mf, kvs, hd, e, hk, nd, hl, hneg⟩ => ?_, fun m' H' ⟨mf, kvs, hd, e, hk, nd, hl, hneg⟩ => ?_⟩
  · obtain ⟨x, hx, rfl⟩ : ∃ x, lits[i]? = some x ∧ v = .int x := by
      rw [List.getElem?_map] at hv
      cases q : lits[i]? with
      | none => rw [q] at hv; cases hv
      | some x => rw [q] at hv; exact ⟨x, rfl, (Option.some.inj hv).symm⟩
    have hxm : x ∈ lits := List.mem_of_getElem? hx
    have hil := (List.getElem?_eq_some_iff.mp hx).1
    have htk : lits.take (i + 1) = lits.take i ++ [x] := by rw [List.take_add_one, hx]; rfl
    repeat walk_at "s"
    refine op_in hd ?_
    repeat walk_at "s"
    refine ite_split (fun hs => ?_) (fun hs => ?_)
    · have hm : -x ∈ lits.take i := (hk _).mp ((ilook_isSome _ _).mp hs)
      repeat walk_at "s"
      exact h0 _ x e hxm (List.mem_of_mem_take hm)
    · have hm : -x ∉ lits.take i := fun q => by rw [(ilook_isSome _ _).mpr ((hk _).mpr q)] at hs; cases hs
      repeat walk_at "s"
      refine op_set_dict hd (by (clear ho hroom hm; lia)) ?_
      repeat walk_at "s"
      refine ⟨by walk_at "loc", _, AH.set_self, e.upd hD, fun y => ?_, istore_nodup nd, Nat.le_trans istore_len (by (clear ho hz hroom hil hm; lia)), fun y hy hn => ?_⟩
      · rw [istore_mem, hk, htk]; simp
      · rw [htk] at hy hn
        have nzx := nz x hxm
        rcases List.mem_append.mp hy with hy | hy
        · rcases List.mem_append.mp hn with hn | hn
          · exact hneg y hy hn
          · have : -y = x := by simpa using hn
            exact hm (by rw [← this, Int.neg_neg]; exact hy)
        · have hyx : y = x := by simpa using hy
          subst hyx
          rcases List.mem_append.mp hn with hn | hn
          · exact hm hn
          · have : -y = y := by simpa using hn
            (clear ho hz hroom hl hil hm; lia)
  · repeat walk_at "s"
    have hlen : (List.map AV.int lits).length = lits.length := List.length_map ..
    rw [hlen] at hk hl hneg
    rw [List.take_of_length_le (Nat.le_refl _)] at hk hneg
    refine ev_bi (nb_abs _) PyProof.Rows.boot_abs (by decide) ?_
    refine ck_sorted_abs hd (by (clear ho hroom; lia)) (fun l r hln hp hs => ?_)
    repeat walk_at "s"
    refine cv_tuple AH.set_self (by rw [List.length_map, hp.length_eq]; simp; (clear ho hroom; lia)) (fun l2 hl2 => ?_)
    repeat walk_at "s"
    have hln2 : H l2 = none := by
      cases q : H l2 with
      | none => rfl
      | some x =>
        have := AH.set_new (x := (.tmp, .list (r.map .int))) hln (e _ _ q)
        rw [hl2] at this; cases this
    have e2 : Ext H ((H'.set l (.tmp, .list (r.map .int))).set l2 (.tmp, .tup (r.map .int))) := by
      intro b x q
      rw [AH.set_ne (by rintro rfl; rw [hln2] at q; cases q), AH.set_ne (by rintro rfl; rw [e _ _ q] at hln; cases hln)]
      exact e _ _ q
    refine h1 _ l2 r e2 hln2 AH.set_self hneg ⟨fun x => hp.mem_iff.trans (hk x), ?_⟩
    have ndr : r.Nodup := hp.nodup_iff.mpr nd
    refine (List.pairwise_iff_forall_sublist).mpr fun {x y} hxy => ?_
    have h3 := (List.pairwise_iff_forall_sublist.mp hs) hxy
    have h4 : x ≠ y := (List.pairwise_iff_forall_sublist.mp ndr) hxy
    have hx : x ∈ lits := (hk x).mp (hp.mem_iff.mp (hxy.subset (by simp)))
    have hy : y ∈ lits := (hk y).mp (hp.mem_iff.mp (hxy.subset (by simp)))
    have h5 : ab x ≠ ab y := fun q => by
      rcases ab_eq q with q | q
      · exact h4 q
      · exact hneg y hy (by rw [← q]; exact hx)
    (clear ho hz hroom hl hlen h4; lia)
--T Fw17
section
variable {prog : Program} {w : World} {A : Around} {E : Value → Shared → Prop} {s : Shared}
theorem tuple_gt_tree {a b : Addr} {x1 x2 y1 y2 : Int} {t1 t2 u1 u2 : Tok} {n n' : Nat} {P : PySem.Fin → Shared → Prop}
    (ha : s.heap.get? a = some { cls := .type "tuple", data := .seq #[.int x1 t1, .int x2 t2] n }) (hb : s.heap.get? b = some { cls := .type "tuple", data := .seq #[.int y1 u1, .int y2 u2] n' })
    (h : P (.done (.ret (.bool (decide (y1 < x1 ∨ (x1 = y1 ∧ y2 < x2)))))) s) : wpAny (model prog w) A (Builtin.«tuple.__gt__» ⟨[.ref a, .ref b], []⟩) P E s := by
  have hTb : s.TypeIs (.ref b) "tuple" := ⟨_, hb, rfl⟩
  show wpAny _ _ (isInstance (.ref b) (.type "tuple") >>= _) _ _ s
  refine wpAny_bind (wpAny_isInstance hTb isSubtype_tuple_tuple ?_)
  simp only [Bool.not_true, Bool.false_eq_true, if_false]
  refine wpAny_bind (wpAny_tupleItemsOf ha rfl ?_)
  refine wpAny_bind (wpAny_tupleItemsOf hb rfl ?_)
  refine wpAny_bind ?_
  show wpAny _ _ (forIn [((Value.int x1 t1), (Value.int y1 u1)), ((Value.int x2 t2), (Value.int y2 u2))] _ _) _ _ s
  rw [List.forIn_cons]
  refine wpAny_bind ?_
  refine wpAny_bind (wpAny_eqBool_int ?_)
  by_cases h1 : x1 = y1
  · subst h1
    rw [beq_self_eq_true]
    simp only [Bool.not_true, Bool.false_eq_true, if_false]
    refine wpAny_pure ?_
    simp only []
    rw [List.forIn_cons]
    refine wpAny_bind ?_
    refine wpAny_bind (wpAny_eqBool_int ?_)
    by_cases h2 : x2 = y2
    · subst h2
      rw [beq_self_eq_true]
      simp only [Bool.not_true, Bool.false_eq_true, if_false]
      refine wpAny_pure ?_
      simp only []
      rw [List.forIn_nil]
      refine wpAny_pure ?_
      simp only []
      refine wpAny_pure ?_
      rw [decide_eq_false (by lia)] at h
      exact h
    · rw [beq_eq_false_iff_ne.mpr h2]
      simp only [Bool.not_false, if_true]
      refine wpAny_bind (wpAny_rule ?_)
      refine wpAny_bind (show wpAny _ _ (richCompare .Gt (.int x2 t2) (.int y2 u2)) _ _ _ from gt_int (E := E) ?_)
      refine wpAny_bind (wpAny_pure ?_)
      refine wpAny_pure ?_
      refine wpAny_pure ?_
      have e : decide (x1 < x1 ∨ x1 = x1 ∧ y2 < x2) = decide (y2 < x2) := by simp
      rw [e] at h
      exact wpAny_pure h
  · rw [beq_eq_false_iff_ne.mpr h1]
    simp only [Bool.not_false, if_true]
    refine wpAny_bind (wpAny_rule ?_)
    refine wpAny_bind (show wpAny _ _ (richCompare .Gt (.int x1 t1) (.int y1 u1)) _ _ _ from gt_int (E := E) ?_)
    refine wpAny_bind (wpAny_pure ?_)
    refine wpAny_pure ?_
    refine wpAny_pure ?_
    have e : decide (y1 < x1 ∨ x1 = y1 ∧ y2 < x2) = decide (y1 < x1) := by simp [h1]
    rw [e] at h
    exact wpAny_pure h
end
section
variable {C : Ctx} {env : Env} {vm m : Loc} {H H0 : AH} {σ : Sg}
theorem op_gt_tup2 {a b t u x1 x2 y1 y2 Φ} (ha : H a = some (t, .tup [.int x1, .int x2])) (hb : H b = some (u, .tup [.int y1, .int y2])) (h : Φ (.bool (decide (y1 < x1 ∨ (x1 = y1 ∧ y2 < x2)))) H) :
    Op2 C env vm m H (compareOp .Gt) (.ref a) (.ref b) Φ := fun v1 v2 e1 e2 s Q E hs hv hq => by
  obtain rfl := er_ref e1
  obtain rfl := er_ref e2
  obtain ⟨ob, e, ⟨its, n, rfl, hm⟩, _⟩ := hs.hr a t _ ha
  obtain ⟨ob', e', ⟨its', n', rfl, hm'⟩, _⟩ := hs.hr b u _ hb
  obtain ⟨p, q, rfl, hp, hq1⟩ := vs2 hm
  obtain ⟨p', q', rfl, hp', hq1'⟩ := vs2 hm'
  obtain ⟨_, rfl⟩ := er_int hp
  obtain ⟨_, rfl⟩ := er_int hq1
  obtain ⟨_, rfl⟩ := er_int hp'
  obtain ⟨_, rfl⟩ := er_int hq1'
  refine wpAny_richCompare_same_room (op := .Gt) ⟨_, e, rfl⟩ ⟨_, e', rfl⟩ F.slot_tuple_gt (wpAny_call_entry F.slot_tuple_gt ⟨_, e, rfl⟩ F.entry_tuple_gt (tuple_gt_tree e e' ⟨_, rfl, (fun x => nomatch x), ?_⟩) (F.args_tuple_gt_2 _ _)) (by have := C.hu; lia)
  exact hq _ H s h hs .refl
end
--T S10

theorem hottest_spec {H : AH} {σ : Sg} (hA : At H σ) (hh : Heat σ.heats) (Φ : AV → AH → Prop)
    (h0 : ∀ H', Ext H H' → (∀ v, 1 ≤ v → v ≤ 4 → (ilook σ.kn v).isSome = true) → Φ (.int 0) H') (h1 : ∀ H' b, Ext H H' → 1 ≤ b → b ≤ 4 → ilook σ.kn b = none → Φ (.int b) H') : Spec 1 196 [.ref σ.x] H Φ := by
  refine spec_plain (fun w => rfl) (fun w => rfl) (binds1 (n1 := "self") (fun _ => rfl) rfl) (by rfl) (by decide) rfl rfl rfl (fun C hroom hfe hlt => ?_)
  generalize hm : (fun x => List.lookup x _ : Loc) = m
  have ms : m (PySem.Str.ofString "self") = some (.ref σ.x) := by rw [← hm]; rfl
  clear hm
  repeat walk_at "s"
  refine EX.unpin (EX.pin (hA .heats _ _ rfl) fun ep => ?_)
  have p1 : ∀ a t o, σ.at t = some (a, o) → t ≠ .heats → (H.set σ.aHeats (.heats, .fdict ep σ.heats)) a = some (t, o) := fun a t o e ht => AH.set_tag (hA .heats _ _ rfl) (hA _ _ _ e) ht
  have pI := p1 _ .inst _ rfl (by decide)
  have pA := p1 _ .attrs _ rfl (by decide)
  have pK := p1 _ .known _ rfl (by decide)
  have pH : (H.set σ.aHeats (.heats, .fdict ep σ.heats)) σ.aHeats = some (.heats, .fdict ep σ.heats) := AH.set_self
  have hback : (H.set σ.aHeats (.heats, .fdict ep σ.heats)).set σ.aHeats (.heats, .idict σ.heats) = H := AH.set_back (hA .heats _ _ rfl)
  generalize hP : H.set σ.aHeats (.heats, .fdict ep σ.heats) = P at *
  refine ex_forO ?_
  refine ev_fld (nv_local (by walk_at "loc")) pI pA rfl rfl ?_
  refine ⟨_, _, src_dict pH, fun i m' H' => m' (PySem.Str.ofString "self") = some (.ref σ.x) ∧ Ext P H' ∧ ∃ b : Int, m' (PySem.Str.ofString "best") = some (.int b) ∧ ((b = 0 ∧ ∀ p ∈ σ.heats.take i, (ilook σ.kn p.1).isSome = true) ∨ (1 ≤ b ∧ b ≤ 4 ∧ ilook σ.kn b = none)),
    ⟨by walk_at "loc", .refl, 0, by walk_at "loc", .inl ⟨rfl, by simp⟩⟩, fun i m' H' ⟨_, e, _⟩ => ⟨.heats, e _ _ pH⟩, fun i v hv m' H' ⟨ms', e, b, mb', hb⟩ => ?_, fun m' H' ⟨ms', e, b, mb', hb⟩ => ?_⟩
  · obtain ⟨p, hp, rfl⟩ : ∃ p, σ.heats[i]? = some p ∧ v = .int p.1 := by
      rw [List.getElem?_map] at hv
      cases q : σ.heats[i]? with
      | none => rw [q] at hv; cases hv
      | some p => rw [q] at hv; exact ⟨p, rfl, (Option.some.inj hv).symm⟩
    have hpm := List.mem_of_getElem? hp
    have hpr := hh.dk.1 p hpm
    have pI' := e _ _ pI
    have pA' := e _ _ pA
    have pK' := e _ _ pK
    have pH' := e _ _ pH
    repeat walk_at "s"
    refine ev_fld (nv_local (by walk_at "loc")) pI' pA' rfl rfl ?_
    refine op_notin pK' ?_
    repeat walk_at "s"
    have htk : σ.heats.take (i + 1) = σ.heats.take i ++ [p] := by rw [List.take_add_one, hp]; rfl
    have fin : ∀ (m2 : Loc) (H2 : AH), m2 (PySem.Str.ofString "self") = some (.ref σ.x) → Ext P H2 → m2 (PySem.Str.ofString "best") = some (.int p.1) → ilook σ.kn p.1 = none →
        (m2 (PySem.Str.ofString "self") = some (.ref σ.x) ∧ Ext P H2 ∧ ∃ b : Int, m2 (PySem.Str.ofString "best") = some (.int b) ∧ ((b = 0 ∧ ∀ p ∈ σ.heats.take (i + 1), (ilook σ.kn p.1).isSome = true) ∨ (1 ≤ b ∧ b ≤ 4 ∧ ilook σ.kn b = none))) :=
      fun m2 H2 a1 a2 a3 a4 => ⟨a1, a2, p.1, a3, .inr ⟨hpr.1, hpr.2, a4⟩⟩
    refine ite_split (fun hn => ?_) (fun hn => ?_)
    · have hnk : ilook σ.kn p.1 = none := by cases q : ilook σ.kn p.1 with
        | none => rfl
        | some v => rw [q] at hn; cases hn
      repeat walk_at "s"
      refine ite_split (fun hb0 => ?_) (fun hb0 => ?_)
      · repeat walk_at "s"
        exact fin _ _ (by walk_at "loc") e rfl hnk
      · have hb1 : 1 ≤ b ∧ b ≤ 4 ∧ ilook σ.kn b = none := hb.resolve_left (fun q => by rw [q.1] at hb0; cases hb0)
        obtain ⟨j1, hj1⟩ := hh.all p.1 hpr.1 hpr.2
        obtain ⟨j2, hj2⟩ := hh.all b hb1.1 hb1.2.1
        repeat walk_at "s"
        refine ev_fld (nv_local (by walk_at "loc")) pI' pA' rfl rfl ?_
        repeat walk_at "s"
        refine op_item_fdict pH' hj1 ?_
        repeat walk_at "s"
        refine ⟨by simp, fun l1 hl1 => ?_⟩
        have e1 := Ext.new (x := (.tmp, .tup [.int j1, .int (-p.1)])) hl1
        repeat walk_at "s"
        refine ev_fld (nv_local (by walk_at "loc")) (e1 _ _ pI') (e1 _ _ pA') rfl rfl ?_
        repeat walk_at "s"
        refine op_item_fdict (e1 _ _ pH') hj2 ?_
        repeat walk_at "s"
        refine ⟨by simp, fun l2 hl2 => ?_⟩
        have e2 := Ext.new (x := (.tmp, .tup [.int j2, .int (-b)])) hl2
        refine op_gt_tup2 (e2 _ _ AH.set_self) AH.set_self ?_
        repeat walk_at "s"
        refine ite_split (fun hg => ?_) (fun hg => ?_)
        · repeat walk_at "s"
          exact fin _ _ (by walk_at "loc") (e.trans (e1.trans e2)) rfl hnk
        · repeat walk_at "s"
          exact ⟨by walk_at "loc", e.trans (e1.trans e2), b, by walk_at "loc", .inr hb1⟩
    · have hk : (ilook σ.kn p.1).isSome = true := by simpa using hn
      repeat walk_at "s"
      refine ⟨by walk_at "loc", e, b, by walk_at "loc", hb.imp (fun q => ⟨q.1, fun r hr => ?_⟩) id⟩
      rw [htk] at hr
      rcases List.mem_append.mp hr with hr | hr
      · exact q.2 r hr
      · rw [List.mem_singleton.mp hr]; exact hk
  · refine ⟨σ.aHeats, .heats, ep, σ.heats, e _ _ pH, ?_⟩
    have eE : Ext H (H'.set σ.aHeats (.heats, .idict σ.heats)) := by
      intro a x q
      by_cases ha : a = σ.aHeats
      · subst ha; rw [AH.set_self]; rw [← q]; exact (hA .heats _ _ rfl).symm
      · rw [AH.set_ne ha]
        refine e _ _ ?_
        rw [← hP, AH.set_ne ha]; exact q
    repeat walk_at "s"
    rcases hb with ⟨rfl, hall⟩ | hb
    · refine h0 _ eE fun v h1 h4 => ?_
      obtain ⟨j, hj⟩ := hh.all v h1 h4
      refine hall (v, .int j) ?_
      rw [List.length_map, List.take_of_length_le (Nat.le_refl _)]
      exact ilook_mem hj
    · exact h1 _ b eE hb.1 hb.2.1 hb.2.2
--T S11

theorem cnt_snoc {bg : List Nat} {n p : Nat} (h : p < n) : cnt (bg ++ [n]) p = cnt bg p := by
  rw [cnt_append, cnt_zero (bg := [n]) (by simpa using h), Nat.add_zero]
theorem cnt_snoc_top {bg : List Nat} {n : Nat} (h : ∀ b ∈ bg, b ≤ n) : cnt (bg ++ [n]) n = bg.length + 1 := by
  rw [cnt_all (fun b hb => ?_)]
  · simp
  · rcases List.mem_append.mp hb with hb | hb
    · exact h b hb
    · rw [List.mem_singleton.mp hb]; exact Nat.le_refl _
noncomputable def Sg.decS (σ : Sg) (i : Int) : Sg := { σ with kn := istore σ.kn (ab i) (.bool (decide (0 < i))), ht := istore σ.ht (ab i) (.int (σ.bg ++ [σ.row.length]).length), cs := istore σ.cs (ab i) .none, row := σ.row ++ [i], bg := σ.bg ++ [σ.row.length] }
theorem decS_eq (σ : Sg) (i : Int) : (σ.setBg (σ.bg ++ [σ.row.length])).letS i .none = σ.decS i := by cases σ; rfl
theorem Iw.decS {G c σ} (I : Iw G c σ (wls σ.wt) No) (hs : σ.seen = σ.row.length) {i : Int} (h1 : 1 ≤ ab i) (h4 : ab i ≤ 4) (hn : ab i ∉ σ.row.map ab) (hc : σ.bg.length + 1 ≤ c) : Iw G (c + 1) (σ.decS i) (wls σ.wt) No := by
  have L := I.L
  have hb : ∀ b ∈ σ.bg, b < σ.row.length := fun b hb => (L.bgl b hb).1
  have lt_of : ∀ {p l}, σ.row[p]? = some l → p < σ.row.length := fun h => (List.getElem?_eq_some_iff.mp h).1
  have L' : Lk (σ.decS i) := by
    refine L.of (row := σ.row ++ [i]) (kn := istore σ.kn (ab i) (.bool (decide (0 < i)))) (ht := istore σ.ht (ab i) (.int (σ.bg ++ [σ.row.length]).length)) (cs := istore σ.cs (ab i) .none) (lk := σ.lk) (heats := σ.heats) (bg := σ.bg ++ [σ.row.length]) (seen := σ.seen) rfl rfl rfl rfl rfl rfl rfl rfl
      (fun l hl => ?_) ?_ (L.kn.push h1 hn) (fun p l hl => ?_) (fun l hl => ?_) (L.dkn.istore h1 h4) (L.bkn.istore _ _) (L.dht.istore h1 h4) (L.dcs.istore h1 h4) L.dlk L.blk L.heat ?_ (fun b hb' => ?_) ?_
    · rcases List.mem_append.mp hl with hl | hl
      · exact L.rng l hl
      · rw [List.mem_singleton.mp hl]; exact ⟨h1, h4⟩
    · rw [List.map_append, List.nodup_append]
      exact ⟨L.nd, by simp, fun a ha b hb e => by rw [show b = ab i by simpa using hb] at e; exact hn (e ▸ ha)⟩
    · rw [ilook_istore]
      rcases get_app hl with ⟨hp, hl⟩ | ⟨rfl, rfl⟩
      · rw [if_neg (fun e => hn (by rw [← e]; exact List.mem_map_of_mem (List.mem_of_getElem? hl))), cnt_snoc hp]
        exact L.ht p l hl
      · rw [if_pos rfl, cnt_snoc_top (fun b hb' => Nat.le_of_lt (hb b hb'))]; simp
    · rw [ilook_istore]
      split
      · exact .inl rfl
      · rename_i hne
        rcases List.mem_append.mp hl with hl | hl
        · exact L.cs l hl
        · exact absurd (by rw [List.mem_singleton.mp hl]) hne
    · rw [List.pairwise_append]
      exact ⟨L.bgs, by simp, fun a ha b hb' => by rw [List.mem_singleton.mp hb']; exact hb a ha⟩
    · rw [List.length_append]
      rcases List.mem_append.mp hb' with hb' | hb'
      · have := L.bgl b hb'; exact ⟨by (clear hs h1 h4 hn hc; lia), this.2⟩
      · rw [List.mem_singleton.mp hb']; exact ⟨by simp, Nat.le_of_eq hs.symm⟩
    · rw [List.length_append, hs]; (clear hs h1 h4 hn hc; lia)
  refine Iw.of (row := σ.row ++ [i]) (bg := σ.bg ++ [σ.row.length]) (rows := σ.rows) (seen := σ.seen) (cs := istore σ.cs (ab i) .none) (wt := σ.wt) rfl rfl rfl rfl rfl rfl L' I.ro I.wm I.dk (fun n r l p hr hw hp hsn hcn hx => ?_) (fun p l hp => ?_) I.er (fun p l hp h0 => ?_) (fun g hg => ?_)
  · rcases get_app hp with ⟨hlt, hp'⟩ | ⟨e, _⟩
    · have h2 : cnt (σ.bg ++ [σ.row.length]) p = cnt σ.bg p := cnt_snoc hlt
      obtain ⟨l', q, a1, a2, a3⟩ := I.wi n r l p hr hw hp' hsn (by have := cnt_le σ.bg p; (clear hs h1 h4 hn hsn hx hlt; lia)) hx
      refine ⟨l', q, a1, app_get a2, ?_⟩
      show cnt (σ.bg ++ [σ.row.length]) q ≤ cnt (σ.bg ++ [σ.row.length]) p
      rw [h2, cnt_snoc (lt_of a2)]; exact a3
    · (clear h1 h4 hn hc hcn hx; lia)
  · rw [ilook_istore]
    rcases get_app hp with ⟨hlt, hp'⟩ | ⟨rfl, rfl⟩
    · have hne : ab l ≠ ab i := fun e => hn (by rw [← e]; exact List.mem_map_of_mem (List.mem_of_getElem? hp'))
      rw [if_neg hne, cnt_snoc hlt]
      refine ⟨fun q => ((I.rs p l hp').1 q).imp id fun h => List.mem_append_left _ h, fun n hn' => ?_⟩
      obtain ⟨r, a1, a2, a3⟩ := (I.rs p l hp').2 n hn'
      refine ⟨r, a1, a2, fun l' b1 b2 => ?_⟩
      obtain ⟨q, b3, b4⟩ := a3 l' b1 b2
      exact ⟨q, b3, app_get b4⟩
    · rw [if_pos rfl]
      exact ⟨fun _ => .inr (by simp), fun n hn' => by cases hn'⟩
  · rcases get_app hp with ⟨hlt, hp'⟩ | ⟨rfl, rfl⟩
    · have h0' : cnt (σ.bg ++ [σ.row.length]) p = 0 := h0
      rw [cnt_snoc hlt] at h0'
      exact I.e0 p l hp' h0'
    · have h0' : cnt (σ.bg ++ [σ.row.length]) σ.row.length = 0 := h0
      rw [cnt_snoc_top (fun b hb' => Nat.le_of_lt (hb b hb'))] at h0'
      (clear hs hc h0 h1 h4 hn; lia)
  · rcases I.cv g hg with h | ⟨l, hl, p, hp, h0⟩ | h
    · exact .inl h
    · refine .inr (.inl ⟨l, hl, p, app_get hp, ?_⟩)
      show cnt (σ.bg ++ [σ.row.length]) p = 0
      rw [cnt_snoc (lt_of hp)]; exact h0
    · exact .inr (.inr h)

theorem decide_spec {H : AH} {σ : Sg} {G a t} (hA : At H σ) (I : Iw G (σ.bg.length + 1) σ (wls σ.wt) No) (hs : σ.seen = σ.row.length) (ha : H a = some (t, .list [])) (ho : t.out = true) (Φ : AV → AH → Prop)
    (h0 : ∀ H', Ext H H' → (∀ v, 1 ≤ v → v ≤ 4 → (ilook σ.kn v).isSome = true) → Φ (.bool true) H')
    (h1 : ∀ H' i, At H' (σ.decS i) → Fr0 H H' → 1 ≤ ab i → ab i ≤ 4 → ab i ∉ σ.row.map ab → Φ .none H') : Spec 2 203 [.ref σ.x, .ref a] H Φ := by
  refine spec_plain (fun w => rfl) (fun w => rfl) (binds2 (n1 := "self") (n2 := "assumptions") (fun _ _ => rfl) rfl) (by rfl) (by decide) rfl rfl rfl (fun C hroom hfe hlt => ?_)
  generalize hm : (fun x => List.lookup x _ : Loc) = m
  have ms : m (PySem.Str.ofString "self") = some (.ref σ.x) := by rw [← hm]; rfl
  have ma : m (PySem.Str.ofString "assumptions") = some (.ref a) := by rw [← hm]; rfl
  clear hm
  have hbl := I.L.bgLen
  have hrl := I.L.rowLen
  repeat walk_at "s"
  refine cv_lenn (l := σ.bg) (hA .begins _ _ rfl) (by lia) ?_
  repeat walk_at "s"
  refine cv_len (vs := []) ha (by simp) ?_
  repeat walk_at "s"
  refine ite_split (fun hb => ?_) (fun _ => ?_)
  · exfalso; have := of_decide_eq_true hb; simp at this; (clear hs hroom hbl hrl; lia)
  repeat walk_at "s"
  refine hottest_spec hA I.L.heat _ (fun H1 e1 hall => ?_) (fun H1 b e1 hb1 hb4 hbn => ?_) _ _ (by (clear hs hbl hrl; omega))
  · repeat walk_at "s"
    refine ite_split (fun _ => ?_) (fun q => by cases q)
    repeat walk_at "s"
    exact h0 _ e1 hall
  · have hA1 := e1.at hA
    have hA := hA1
    repeat walk_at "s"
    refine ite_split (fun q => absurd (show b = 0 by simpa using q) (by (clear hs hroom hbl hrl; lia))) (fun _ => ?_)
    repeat walk_at "s"
    refine ⟨_, _, _, rfl, hA1 .liked _ _ rfl, rfl, ?_⟩
    repeat walk_at "s"
    refine cv_get2 (hA1 .liked _ _ rfl) ?_
    obtain ⟨c, hc⟩ : ∃ c, (ilook σ.lk b).getD (.bool false) = .bool c := by
      rcases I.L.blk.look b with q | ⟨c, q⟩
      · exact ⟨false, by rw [q]; rfl⟩
      · exact ⟨c, by rw [q]; rfl⟩
    rw [hc]
    have hbr : b ∉ σ.row.map ab := fun q => by
      obtain ⟨l, hl, e⟩ := List.mem_map.mp q
      have h5 := I.L.kn.of_mem I.L.nd (I.L.rng l hl).1 hl
      rw [e, hbn] at h5; cases h5
    have hN : ∀ i, ab i = b → tv σ.row i = none := fun i hi => by
      unfold tv
      rw [if_neg (fun q => hbr (by rw [← hi]; exact List.mem_map_of_mem q)), if_neg (fun q => hbr (by rw [← hi, ← ab_n]; exact List.mem_map_of_mem q))]
    have hfin : ∀ i, ab i = b → ∀ H2, At H2 (σ.decS i) → Fr0 H1 H2 → Φ .none H2 := fun i hi H2 hA2 f2 => h1 H2 i hA2 (e1.fr.trans f2) (by (clear hs hroom hbl hrl hbr; lia)) (by (clear hs hroom hbl hrl hbr; lia)) (by rw [hi]; exact hbr)
    have hi : ∃ i, ab i = b ∧ i = if c = true then b else -b := by
      cases c
      · exact ⟨-b, ab_neg hb1, rfl⟩
      · exact ⟨b, ab_pos hb1, rfl⟩
    obtain ⟨i, hi, ei⟩ := hi
    have hA2 := hA1
    clear hA hbr hc
    cases c
    all_goals
      first | (rw [if_pos rfl] at ei) | (rw [if_neg (by decide)] at ei)
      repeat walk_at "s"
      rw [← ei]
      repeat walk_at "s"
      refine ⟨_, _, _, rfl, hA1 .begins _ _ rfl, rfl, ?_⟩
      repeat walk_at "s"
      refine cv_leni (l := σ.row) (hA1 .row _ _ rfl) (by lia) ?_
      repeat walk_at "s"
      refine cv_appendn_comp (l := σ.bg) (x := σ.row.length) (σ.setBg (σ.bg ++ [σ.row.length])) hA1 .refl (t := .begins) rfl (by lia) (at_bg σ · _) ?_
      intro H3 hA3 f3
      clear hA1 hA2
      refine ⟨rfl, ?_⟩
      repeat walk_at "s"
      refine says_spec hA3 I.L.bkn ?_ _ _ (by omega)
      have es : saysV σ.kn i = .none := by rw [says_tv I.L (by lia), hN i hi]; rfl
      rw [show saysV (σ.setBg (σ.bg ++ [σ.row.length])).kn i = .none from es]
      repeat walk_at "s"
      refine op_is_none ?_
      repeat walk_at "s"
      refine ite_split (fun _ => ?_) (fun q => by cases q)
      repeat walk_at "s"
      refine let_specS hA3 (by have := I.L.dkn.len; show σ.kn.length ≤ _; lia) (by have := I.L.dht.len; show σ.ht.length ≤ _; lia) (by have := I.L.dcs.len; show σ.cs.length ≤ _; lia) (by show σ.row.length ≤ _; lia) (by show (σ.bg ++ [σ.row.length]).length ≤ _; simp; lia) _ (fun H4 hA4 f4 => ?_) _ _ (by omega)
      refine ⟨rfl, ?_⟩
      repeat walk_at "s"
      rw [decS_eq] at hA4
      exact hfin i hi _ hA4 (f3.trans f4)
--T P4
/-- an open position: of the last height, its variable marked -/
noncomputable def ob (row : List Int) (bg : List Nat) (keys : List Int) (p : Nat) : Bool := decide (cnt bg p = bg.length) && (match row[p]? with | some l => decide (ab l ∈ keys) | none => false)
theorem ob_iff {row bg keys} {p : Nat} : ob row bg keys p = true ↔ cnt bg p = bg.length ∧ ∃ l, row[p]? = some l ∧ ab l ∈ keys := by
  unfold ob
  rw [Bool.and_eq_true, decide_eq_true_iff]
  cases row[p]? with
  | none => simp
  | some l => simp
noncomputable def opn (row : List Int) (bg : List Nat) (keys : List Int) (n : Nat) : Nat := (List.range n).countP (ob row bg keys)
theorem countP_one {f g : Nat → Bool} {q : Nat} : ∀ n, q < n → f q = false → (∀ p, g p = (f p || decide (p = q))) → (List.range n).countP g = (List.range n).countP f + 1
  | 0, h, _, _ => by lia
  | n + 1, h, hf, hg => by
    rw [List.range_succ, List.countP_append, List.countP_append]
    by_cases e : n = q
    · subst e
      have h1 : (List.range n).countP g = (List.range n).countP f := List.countP_congr fun p hp => by
        have : p < n := List.mem_range.mp hp
        rw [hg]; simp [show ¬ p = n by lia]
      rw [h1]
      simp [hg, hf]
    · have ih := countP_one (f := f) (g := g) (q := q) n (by lia) hf hg
      have : List.countP g [n] = List.countP f [n] := List.countP_congr fun p hp => by
        rw [List.mem_singleton.mp hp, hg]; simp [e]
      rw [ih, this]; (clear h e ih this; lia)
theorem opn_add {row : List Int} {bg keys keys'} {v : Int} {q n : Nat} {l : Int} (nd : (row.map ab).Nodup) (hk : ∀ x, x ∈ keys' ↔ x ∈ keys ∨ x = v) (hv : v ∉ keys) (hq : row[q]? = some l) (hl : ab l = v) (hn : q < n) :
    opn row bg keys' n = if cnt bg q = bg.length then opn row bg keys n + 1 else opn row bg keys n := by
  have huniq : ∀ p l', row[p]? = some l' → ab l' = v → p = q := fun p l' hp e => by
    have e1 : (row.map ab)[p]? = some v := by rw [List.getElem?_map, hp]; exact congrArg some e
    have e2 : (row.map ab)[q]? = some v := by rw [List.getElem?_map, hq]; exact congrArg some hl
    exact (List.getElem?_inj (List.getElem?_eq_some_iff.mp e1).1 nd).mp (e1.trans e2.symm)
  have hfq : ob row bg keys q = false := by
    cases h : ob row bg keys q with
    | false => rfl
    | true =>
      obtain ⟨_, l', h1, h2⟩ := ob_iff.mp h
      rw [hq] at h1; cases h1
      rw [hl] at h2; exact absurd h2 hv
  split
  · rename_i htop
    refine countP_one n hn hfq fun p => ?_
    rw [Bool.eq_iff_iff, Bool.or_eq_true, decide_eq_true_iff, ob_iff, ob_iff]
    constructor
    · rintro ⟨h1, l', h2, h3⟩
      rcases (hk _).mp h3 with h3 | h3
      · exact .inl ⟨h1, l', h2, h3⟩
      · exact .inr (huniq p l' h2 h3)
    · rintro (⟨h1, l', h2, h3⟩ | rfl)
      · exact ⟨h1, l', h2, (hk _).mpr (.inl h3)⟩
      · exact ⟨htop, l, hq, (hk _).mpr (.inr hl)⟩
  · rename_i htop
    refine List.countP_congr fun p hp => ?_
    rw [ob_iff, ob_iff]
    constructor
    · rintro ⟨h1, l', h2, h3⟩
      rcases (hk _).mp h3 with h3 | h3
      · exact ⟨h1, l', h2, h3⟩
      · have := huniq p l' h2 h3
        subst this; exact absurd h1 htop
    · rintro ⟨h1, l', h2, h3⟩
      exact ⟨h1, l', h2, (hk _).mpr (.inl h3)⟩
theorem opn_cut {row : List Int} {bg keys} {q : Nat} (hq : ob row bg keys q = true) : ∀ n, q < n → (∀ p, q < p → p < n → ob row bg keys p = false) → opn row bg keys n = opn row bg keys q + 1
  | 0, h, _ => by lia
  | n + 1, h, hf => by
    unfold opn
    rw [List.range_succ, List.countP_append]
    by_cases e : n = q
    · subst e; simp [hq]
    · have ih := opn_cut hq n (by lia) (fun p h1 h2 => hf p h1 (by (clear h e h1; lia)))
      unfold opn at ih
      rw [ih]
      simp [hf n (by lia) (by (clear h e ih; lia))]
theorem opn_pos {row : List Int} {bg keys} {n : Nat} (h : opn row bg keys n ≠ 0) : ∃ p, p < n ∧ ob row bg keys p = true := by
  have := List.countP_pos_iff.mp (Nat.pos_of_ne_zero h)
  obtain ⟨p, hp, e⟩ := this
  exact ⟨p, List.mem_range.mp hp, e⟩
theorem opn_zero {row : List Int} {bg keys} {n p : Nat} (h : opn row bg keys n = 0) (hp : p < n) : ob row bg keys p = false := by
  have := List.countP_eq_zero.mp h p (List.mem_range.mpr hp)
  cases q : ob row bg keys p with
  | false => rfl
  | true => exact absurd q this

/-- what is marked and what lies behind -/
structure Mk (row : List Int) (bg : List Nat) (keys behind : List Int) : Prop where
  bh : ∀ l ∈ behind, ab l ∈ keys ∧ ∃ q : Nat, row[q]? = some (-l) ∧ 0 < cnt bg q ∧ cnt bg q < bg.length
  nd : (behind.map ab).Nodup
  ks : ∀ v ∈ keys, (∃ l ∈ behind, ab l = v) ∨ ∃ (q : Nat) (l : Int), row[q]? = some l ∧ ab l = v ∧ cnt bg q = bg.length
/-- what every meeting of the rows says, while a lesson is drawn -/
noncomputable def Les (G : List (List Int)) (row : List Int) (bg : List Nat) (keys behind : List Int) (spot : Nat) (X : (Int → Bool) → Prop) : Prop :=
  ∀ M, (∀ g ∈ G, Sat M g) → (∃ l ∈ behind, lit M l = true) ∨ (∃ p l, p < spot ∧ row[p]? = some l ∧ ob row bg keys p = true ∧ lit M (-l) = true) ∨ X M
theorem Mk.add_open {row bg keys behind keys'} {v : Int} {q : Nat} {l : Int} (h : Mk row bg keys behind) (hk : ∀ x, x ∈ keys' ↔ x ∈ keys ∨ x = v) (hq : row[q]? = some l) (hl : ab l = v) (ht : cnt bg q = bg.length) : Mk row bg keys' behind :=
  ⟨fun l hl => ⟨(hk _).mpr (.inl (h.bh l hl).1), (h.bh l hl).2⟩, h.nd, fun u hu => ((hk u).mp hu).elim (h.ks u) fun e => .inr ⟨q, l, hq, hl.trans e.symm, ht⟩⟩
theorem Mk.add_behind {row bg keys behind keys'} {one : Int} {q : Nat} (h : Mk row bg keys behind) (hk : ∀ x, x ∈ keys' ↔ x ∈ keys ∨ x = ab one) (hv : ab one ∉ keys) (hq : row[q]? = some (-one)) (h0 : 0 < cnt bg q) (ht : cnt bg q ≠ bg.length) : Mk row bg keys' (behind ++ [one]) := by
  refine ⟨fun l hl => ?_, ?_, fun u hu => ?_⟩
  · rcases List.mem_append.mp hl with hl | hl
    · exact ⟨(hk _).mpr (.inl (h.bh l hl).1), (h.bh l hl).2⟩
    · rw [List.mem_singleton.mp hl]
      exact ⟨(hk _).mpr (.inr rfl), q, hq, h0, by have := cnt_le bg q; (clear hv h0; lia)⟩
  · rw [List.map_append, List.nodup_append]
    refine ⟨h.nd, by simp, fun a ha b hb e => ?_⟩
    have : b = ab one := by simpa using hb
    obtain ⟨l, hl, rfl⟩ := List.mem_map.mp ha
    exact hv (by rw [← this, ← e]; exact (h.bh l hl).1)
  · rcases (hk u).mp hu with hu | hu
    · rcases h.ks u hu with ⟨l, hl, e⟩ | h
      · exact .inl ⟨l, List.mem_append_left _ hl, e⟩
      · exact .inr h
    · exact .inl ⟨one, by simp, hu.symm⟩
/-- the row is worked in -/
theorem les_row {G} {row : List Int} {bg keys behind} {r : List Int} {spot : Nat} {pivot : Int} (nd : (row.map ab).Nodup) (nz : ∀ l ∈ row, l ≠ 0) (e0 : Ek0 G row bg) (mk : Mk row bg keys behind) (hr : ∀ l ∈ r, l ≠ pivot → ∃ q, q < spot ∧ row[q]? = some (-l)) (hd : ∀ l ∈ r, l ≠ pivot → (∃ q, row[q]? = some (-l) ∧ cnt bg q = 0) ∨ ab l ∈ keys)
    (h : Les G row bg keys behind spot (fun M => ∃ l ∈ r, l ≠ pivot ∧ lit M l = true)) : Les G row bg keys behind spot (fun _ => False) := fun M hM => by
  rcases h M hM with h | h | ⟨l, hl, hp, ht⟩
  · exact .inl h
  · exact .inr (.inl h)
  · obtain ⟨q, hq, hq'⟩ := hr l hl hp
    have hl0 : l ≠ 0 := by rintro rfl; exact nz _ (List.mem_of_getElem? hq') (by simp)
    rcases hd l hl hp with ⟨q2, h1, h2⟩ | h
    · have := (e0 q2 _ h1 h2).get hM
      rw [lit_neg hl0, ht] at this; cases this
    · rcases mk.ks _ h with ⟨l', h1, h2⟩ | ⟨q2, l', h1, h2, h3⟩
      · have : l' = l := by
          rcases ab_eq h2 with e | e
          · exact e
          · exfalso
            obtain ⟨_, q3, h4, _⟩ := mk.bh l' h1
            rw [e, Int.neg_neg] at h4
            exact not_both nd (by (clear hp hq h2 e; lia)) (List.mem_of_getElem? hq') (by rw [Int.neg_neg]; exact List.mem_of_getElem? h4)
        subst this
        exact .inl ⟨l', h1, ht⟩
      · have hql : q2 = q := by
          have e1 : (row.map ab)[q2]? = some (ab l) := by rw [List.getElem?_map, h1]; exact congrArg some h2
          have e2 : (row.map ab)[q]? = some (ab l) := by rw [List.getElem?_map, hq']; exact congrArg some (ab_n l)
          exact (List.getElem?_inj (List.getElem?_eq_some_iff.mp e1).1 nd).mp (e1.trans e2.symm)
        subst hql
        refine .inr (.inl ⟨q2, -l, hq, hq', ob_iff.mpr ⟨h3, -l, hq', by rw [ab_n]; exact h⟩, by rw [Int.neg_neg]; exact ht⟩)
--T S12

noncomputable def Sg.hx (σ : Sg) (l : Addr) (hs : List (Int × AV)) (g : Int) : Sg := { σ with aHeats := l, heats := hs, gain := g }
theorem hx_eq (σ : Sg) (l hs g) : (σ.newHeats l hs).setGain g = σ.hx l hs g := by cases σ; rfl
theorem hx_hx (σ : Sg) (l hs g l' hs' g') : (σ.hx l hs g).hx l' hs' g' = σ.hx l' hs' g' := by cases σ; rfl
theorem hx_self (σ : Sg) : σ.hx σ.aHeats σ.heats σ.gain = σ := by cases σ; rfl
theorem Lk.hx {σ : Sg} (L : Lk σ) {l hs g} (h : Heat hs) : Lk (σ.hx l hs g) := L.of rfl rfl rfl rfl rfl rfl rfl rfl L.rng L.nd L.kn L.ht L.cs L.dkn L.bkn L.dht L.dcs L.dlk L.blk h L.bgs L.bgl L.sl
theorem Iw.hx {G c σ f ex} (I : Iw G c σ f ex) {l hs g} (h : Heat hs) : Iw G c (σ.hx l hs g) f ex := Iw.of (row := σ.row) (bg := σ.bg) (rows := σ.rows) (seen := σ.seen) (cs := σ.cs) (wt := σ.wt) rfl rfl rfl rfl rfl rfl (I.L.hx h) I.ro I.wm I.dk I.wi I.rs I.er I.e0 I.cv

/-- the state at the head of a lesson's round -/
structure Lsn (G : List (List Int)) (σ : Sg) (H H' : AH) (aM aB : Addr) (kvs : List (Int × AV)) (B : List Int) (spot : Nat) (pivot : Int) (number : Nat) (r : List Int) : Prop where
  at' : ∃ l hs g, At H' (σ.hx l hs g) ∧ Heat hs
  fr : Fr0 H H'
  hM : H' aM = some (.tmp, .idict kvs)
  hB : H' aB = some (.tmp, intsO B)
  dk : DK 1 4 kvs
  mks : Mk σ.row σ.bg (kvs.map (·.1)) B
  rowe : ∃ a, σ.rows[number]? = some (a, r)
  spt : spot ≤ σ.row.length
  hr : ∀ l ∈ r, l ≠ pivot → ∃ q, q < spot ∧ σ.row[q]? = some (-l)
theorem lesson_spec {H : AH} {σ : Sg} {G} {n : Nat} (hA : At H σ) (I : Iw G σ.bg.length σ (wls σ.wt) No) (hcl : Clash σ n) (hb : 1 ≤ σ.bg.length) (hR : σ.rows.length ≤ 100000) (Φ : AV → AH → Prop)
    (h : ∀ H' l hs g T u behind, At H' (σ.hx l hs g) → Heat hs → Fr0 H H' → H' T = some (.tmp, intsO (u :: behind)) → Ent G (u :: behind) → (∃ p : Nat, σ.row[p]? = some (-u) ∧ cnt σ.bg p = σ.bg.length) →
      (∀ l ∈ behind, ∃ q : Nat, σ.row[q]? = some (-l) ∧ 0 < cnt σ.bg q ∧ cnt σ.bg q < σ.bg.length) → (behind.map ab).Nodup → Φ (.ref T) H') : Spec 2 170 [.ref σ.x, .int n] H Φ := by
  refine spec_plain (fun w => rfl) (fun w => rfl) (binds2 (n1 := "self") (n2 := "number") (fun _ _ => rfl) rfl) (by rfl) (by decide) rfl rfl rfl (fun C hroom hfe hlt => ?_)
  generalize hm : (fun x => List.lookup x _ : Loc) = m
  have ms : m (PySem.Str.ofString "self") = some (.ref σ.x) := by rw [← hm]; rfl
  have mn : m (PySem.Str.ofString "number") = some (.int n) := by rw [← hm]; rfl
  clear hm
  have L := I.L
  have hrl := L.rowLen
  have hbl := L.bgLen
  have nz : ∀ l ∈ σ.row, l ≠ 0 := fun l hl => ab_zero (L.rng l hl).1
  repeat walk_at "s"
  refine ex_tup ?_
  repeat walk_at "s"
  intro aM hM0
  repeat walk_at "s"
  refine ⟨by simp, fun aB hB0 => ?_⟩
  have noM : NotOut H aM := .none hM0
  have hBn : H aB = none := by
    cases q : H aB with
    | none => rfl
    | some y => have := AH.set_new (x := (.tmp, .idict [])) hM0 q; rw [hB0] at this; cases this
  have noB : NotOut H aB := .none hBn
  have hMB : aB ≠ aM := by rintro rfl; rw [AH.set_self] at hB0; cases hB0
  have hA1 := hA.out (x := (.tmp, .idict [])) (.inl hM0)
  have hA2 := hA1.out (x := (.tmp, .list [])) (.inl hB0)
  have f2 : Fr0 H ((H.set aM (.tmp, .idict [])).set aB (.tmp, .list [])) := (Fr0.new hM0).trans (Fr0.new hB0)
  have hM2 := AH.set_new (x := (.tmp, .list [])) hB0 (AH.set_self (H := H) (a := aM) (x := (.tmp, .idict [])))
  have hB2 := AH.set_self (H := H.set aM (.tmp, .idict [])) (a := aB) (x := (.tmp, .list []))
  generalize (H.set aM (.tmp, .idict [])).set aB (.tmp, .list []) = H2 at *
  clear hA1
  repeat walk_at "s"
  refine cv_leni (l := σ.row) (hA2 .row _ _ rfl) (by (clear hb hR hroom hbl; lia)) ?_
  repeat walk_at "s"
  refine ⟨by simp, fun l3 hl3 => ?_⟩
  have e3 : Ext H2 _ := Ext.new (x := (.tmp, .tup [.ref aM, .ref aB, .int 0, .int σ.row.length, .int 0])) hl3
  refine ⟨l3, _, _, rfl, AH.set_self, rfl, ?_⟩
  generalize H2.set l3 (.tmp, .tup [.ref aM, .ref aB, .int 0, .int σ.row.length, .int 0]) = H3 at *
  repeat walk_at "s"
  have hA3 := e3.at hA2
  have hM3 := e3 _ _ hM2
  have hB3 := e3 _ _ hB2
  have f3 : Fr0 H H3 := f2.trans e3.fr
  clear hA2 hM2 hB2 f2 e3 hl3 hA
  refine opqG (fun goalP goalH => ?_)
  obtain ⟨r0, hr0, hall0, l0, hl0m, p0, hp0, hc0⟩ := hcl
  all_goals first | (refine goalH ?_; clear goalH goalP) | skip
  refine opqG (fun goalP goalH => ?_)
  obtain ⟨a0, hra0⟩ := R_get.mp hr0
  all_goals first | (refine goalH ?_; clear goalH goalP) | skip
  have hrow0 := I.er r0 (List.mem_of_getElem? hr0)
  refine ex_whileO (fun (spot : Nat) m' H' => ∃ kvs B pivot number r, Lsn G σ H H' aM aB kvs B spot pivot number r ∧ Les G σ.row σ.bg (kvs.map (·.1)) B spot (fun M => ∃ l ∈ r, l ≠ pivot ∧ lit M l = true) ∧
      (opn σ.row σ.bg (kvs.map (·.1)) spot ≠ 0 ∨ ∃ l ∈ r, l ≠ pivot ∧ ∃ q : Nat, q < spot ∧ σ.row[q]? = some (-l) ∧ cnt σ.bg q = σ.bg.length) ∧
      m' (PySem.Str.ofString "self") = some (.ref σ.x) ∧ m' (PySem.Str.ofString "marked") = some (.ref aM) ∧ m' (PySem.Str.ofString "behind") = some (.ref aB) ∧ m' (PySem.Str.ofString "open_ones") = some (.int (opn σ.row σ.bg (kvs.map (·.1)) spot)) ∧
      m' (PySem.Str.ofString "spot") = some (.int spot) ∧ m' (PySem.Str.ofString "pivot") = some (.int pivot) ∧ m' (PySem.Str.ofString "number") = some (.int number)) σ.row.length
    ⟨[], [], 0, n, r0, ⟨⟨_, _, _, by rw [hx_self]; exact hA3, L.heat⟩, f3, hM3, hB3, .nil, ⟨by simp, by simp, by simp⟩, ⟨a0, hra0⟩, Nat.le_refl _, fun l hl _ => ?_⟩, fun M hM => .inr (.inr ?_), .inr ⟨l0, hl0m, ?_, p0, (List.getElem?_eq_some_iff.mp hp0).1, hp0, hc0⟩, by walk_at "loc", by walk_at "loc", by walk_at "loc", ?_, by walk_at "loc", by walk_at "loc", by walk_at "loc"⟩ ?_
  · refine opqG (fun goalP goalH => ?_)
    obtain ⟨q, hq⟩ := List.getElem?_of_mem (hall0 l hl)
    all_goals first | (refine goalH ?_; clear goalH goalP) | skip
    exact ⟨q, (List.getElem?_eq_some_iff.mp hq).1, hq⟩
  · refine opqG (fun goalP goalH => ?_)
    obtain ⟨l, hl, e⟩ := hrow0 M hM
    all_goals first | (refine goalH ?_; clear goalH goalP) | skip
    exact ⟨l, hl, (I.ro r0 (List.mem_of_getElem? hr0)).ne l hl, e⟩
  · exact (I.ro r0 (List.mem_of_getElem? hr0)).ne l0 hl0m
  · have : opn σ.row σ.bg ([] : List Int) σ.row.length = 0 := List.countP_eq_zero.mpr fun p _ q => by
      refine opqG (fun goalP goalH => ?_)
      obtain ⟨_, l, _, h⟩ := ob_iff.mp q
      all_goals first | (refine goalH ?_; clear goalH goalP) | skip
      simp at h
    rw [show ([] : List (Int × AV)).map (·.1) = [] from rfl, this]
    walk_at "loc"
  clear hA3 hM3 hB3 f3 hall0 hl0m hp0 hc0 hra0 hr0 hrow0
  intro spot m' H' goalQ
  refine opqG (fun goalP goalH => ?_)
  obtain ⟨kvs, B, pivot, number, r, ls, les, hpos, ms', mM', mB', mo', msp', mp', mn'⟩ := goalQ
  all_goals first | (refine goalH ?_; clear goalH goalP) | skip
  repeat walk_at "s"
  refine opqG (fun goalP goalH => ?_)
  obtain ⟨a, hra⟩ := ls.rowe
  all_goals first | (refine goalH ?_; clear goalH goalP) | skip
  refine opqG (fun goalP goalH => ?_)
  obtain ⟨lx, hsx, gx, hAx, hhx⟩ := ls.at'
  all_goals first | (refine goalH ?_; clear goalH goalP) | skip
  have hrR : r ∈ σ.R := List.mem_of_getElem? (R_get.mpr ⟨a, hra⟩)
  have okr := I.ro r hrR
  repeat walk_at "s"
  refine ex_forO ?_
  repeat walk_at "s"
  refine op_item_list (x := .ref a) (hAx .rows _ _ rfl) (by (clear hb hR hroom hrl hbl hpos; lia)) (by simp [Sg.hx, hra]) ?_ (by have := (List.getElem?_eq_some_iff.mp hra).1; (clear hb hroom hrl hbl hpos; lia))
  have hca : ∀ H'' l hs g, At H'' (σ.hx l hs g) → H'' a = some (.clause number, intsO r) := fun H'' l hs g hA => hA (.clause number) _ _ (by show (σ.rows[number]?).map _ = _; rw [hra]; rfl)
  refine ⟨_, _, src_list (hca _ _ _ _ hAx), fun i m' H' => ∃ kvs B, Lsn G σ H H' aM aB kvs B spot pivot number r ∧ Les G σ.row σ.bg (kvs.map (·.1)) B spot (fun M => ∃ l ∈ r, l ≠ pivot ∧ lit M l = true) ∧
      (∀ j, j < i → ∀ l, r[j]? = some l → l ≠ pivot → (∃ q, σ.row[q]? = some (-l) ∧ cnt σ.bg q = 0) ∨ ab l ∈ kvs.map (·.1)) ∧
      (opn σ.row σ.bg (kvs.map (·.1)) spot ≠ 0 ∨ ∃ j l, i ≤ j ∧ r[j]? = some l ∧ l ≠ pivot ∧ ∃ q : Nat, q < spot ∧ σ.row[q]? = some (-l) ∧ cnt σ.bg q = σ.bg.length) ∧
      m' (PySem.Str.ofString "self") = some (.ref σ.x) ∧ m' (PySem.Str.ofString "marked") = some (.ref aM) ∧ m' (PySem.Str.ofString "behind") = some (.ref aB) ∧ m' (PySem.Str.ofString "open_ones") = some (.int (opn σ.row σ.bg (kvs.map (·.1)) spot)) ∧
      m' (PySem.Str.ofString "spot") = some (.int spot) ∧ m' (PySem.Str.ofString "pivot") = some (.int pivot) ∧ m' (PySem.Str.ofString "number") = some (.int number),
    ⟨kvs, B, ls, les, by intro j hj; (clear hb hR hroom hrl hbl hpos; lia), hpos.imp id fun ⟨l, hl, h1, h2⟩ => (let ⟨j, hj⟩ := List.getElem?_of_mem hl; ⟨j, l, Nat.zero_le _, hj, h1, h2⟩), ms', mM', mB', mo', msp', mp', mn'⟩,
    fun i m' H' ⟨_, _, ls, _⟩ => (let ⟨_, _, _, hA, _⟩ := ls.at'; ⟨_, hca _ _ _ _ hA⟩), fun i v hv m' H' hJ => ?_, fun m' H' hJ => ?_⟩
  · refine opqG (fun goalP goalH => ?_)
    obtain ⟨kvs, B, ls, les, hdone, hpos, ms', mM', mB', mo', msp', mp', mn'⟩ := hJ
    all_goals first | (refine goalH ?_; clear goalH goalP) | skip
    refine opqG (fun goalP goalH => ?_)
    obtain ⟨one, ho, rfl⟩ : ∃ x, r[i]? = some x ∧ v = .int x := by
      rw [List.getElem?_map] at hv
      cases q : r[i]? with
      | none => rw [q] at hv; cases hv
      | some x => rw [q] at hv; exact ⟨x, rfl, (Option.some.inj hv).symm⟩
    all_goals first | (refine goalH ?_; clear goalH goalP) | skip
    have hom : one ∈ r := List.mem_of_getElem? ho
    have hor := okr.2.1 one hom
    clear hAx hhx
    refine opqG (fun goalP goalH => ?_)
    obtain ⟨lx, hsx, gx, hAx, hhx⟩ := ls.at'
    all_goals first | (refine goalH ?_; clear goalH goalP) | skip
    have skip : (one ≠ pivot → (∃ q, σ.row[q]? = some (-one) ∧ cnt σ.bg q = 0) ∨ ab one ∈ kvs.map (·.1)) →
        (∀ j, j < i + 1 → ∀ l, r[j]? = some l → l ≠ pivot → (∃ q, σ.row[q]? = some (-l) ∧ cnt σ.bg q = 0) ∨ ab l ∈ kvs.map (·.1)) ∧
        (opn σ.row σ.bg (kvs.map (·.1)) spot ≠ 0 ∨ ∃ j l, i + 1 ≤ j ∧ r[j]? = some l ∧ l ≠ pivot ∧ ∃ q : Nat, q < spot ∧ σ.row[q]? = some (-l) ∧ cnt σ.bg q = σ.bg.length) := fun hs => by
      refine ⟨fun j hj l hl hne => ?_, ?_⟩
      · by_cases e : j = i
        · subst e; rw [ho] at hl; cases hl; exact hs hne
        · exact hdone j (by (clear hb hR hroom hrl hbl hpos hor hs hne; lia)) l hl hne
      · refine opqG (fun goalP goalH => ?_)
        rcases hpos with h | ⟨j, l, hj, hl, hne, q, hq, hq', hc⟩
        all_goals first | (refine goalH ?_; clear goalH goalP) | skip
        · exact .inl h
        · by_cases e : j = i
          · subst e; rw [ho] at hl; cases hl
            refine opqG (fun goalP goalH => ?_)
            rcases hs hne with ⟨q2, h1, h2⟩ | h1
            all_goals first | (refine goalH ?_; clear goalH goalP) | skip
            · have : q2 = q := pos_inj L.nd h1 hq'
              subst this; (clear hR hroom hrl hbl hpos hor hs hj hne hq; lia)
            · refine .inl fun h0 => ?_
              have := opn_zero h0 hq
              rw [ob_iff.mpr ⟨hc, -one, hq', by rw [ab_n]; exact h1⟩] at this; cases this
          · exact .inr ⟨j, l, by (clear hb hR hroom hrl hbl hpos hor hs hne hq hc; lia), hl, hne, q, hq, hq', hc⟩
    repeat walk_at "s"
    refine ite_split (fun h1 => ?_) (fun h1 => ?_)
    · have hne : one ≠ pivot := by simpa using h1
      refine opqG (fun goalP goalH => ?_)
      obtain ⟨q, hq, hq'⟩ := ls.hr one hom hne
      all_goals first | (refine goalH ?_; clear goalH goalP) | skip
      have hht : ilook σ.ht (ab one) = some (.int (cnt σ.bg q)) := by have := L.ht q _ hq'; rw [ab_n] at this; exact this
      repeat walk_at "s"
      refine op_notin ls.hM ?_
      repeat walk_at "s"
      refine ite_split (fun h2 => ?_) (fun h2 => ?_)
      · have hnk : ab one ∉ kvs.map (·.1) := fun hm => by
          have := (ilook_isSome kvs (ab one)).mpr hm
          have h2' : (!(ilook kvs (ab one)).isSome) = true := h2
          rw [this] at h2'; cases h2'
        repeat walk_at "s"
        refine op_item_dict (hAx .heights _ _ rfl) hht ?_
        repeat walk_at "s"
        refine ite_split (fun h3 => ?_) (fun h3 => ?_)
        · have hc0 : 0 < cnt σ.bg q := by have := of_decide_eq_true h3; (clear hb hR hroom hrl hbl hpos hor skip hne hq hnk; omega)
          repeat walk_at "s"
          refine op_set_dict ls.hM (by have := ls.dk.len; (clear hb hR hroom hrl hbl hpos hor skip hne hq hnk hc0; lia)) ?_
          have hA1 := hAx.out (a := aM) (x := (.tmp, .idict (istore kvs (ab one) (.bool true)))) (.inr ⟨_, _, ls.hM, rfl⟩)
          have f1 : Fr0 H (H'.set aM (.tmp, .idict (istore kvs (ab one) (.bool true)))) := ls.fr.adopt noM
          have hM1 := AH.set_self (H := H') (a := aM) (x := (.tmp, .idict (istore kvs (ab one) (.bool true))))
          have hB1 : (H'.set aM (.tmp, .idict (istore kvs (ab one) (.bool true)))) aB = some (.tmp, intsO B) := by rw [AH.set_ne hMB]; exact ls.hB
          walk_at "s"
          walk_at "s"
          change EX C _ _ (H'.set aM (.tmp, .idict (istore kvs (ab one) (.bool true)))) _ _
          generalize H'.set aM (.tmp, .idict (istore kvs (ab one) (.bool true))) = H1 at *
          clear hAx
          repeat walk_at "s"
          refine warm_spec hA1 hhx hor.1 hor.2 _ (fun H2 l2 hs2 g2 hA2 hh2 f2 => ?_) _ _ (by (clear hb hR hrl hbl hpos hor skip hne hq hnk hc0; omega))
          rw [hx_eq, hx_hx] at hA2
          have hM2 := f2 _ _ _ hM1 rfl
          have hB2 := f2 _ _ _ hB1 rfl
          have f12 := f1.trans f2
          clear hA1 hM1 hB1 f1
          refine ⟨rfl, ?_⟩
          repeat walk_at "s"
          refine op_item_dict (hA2 .heights _ _ rfl) hht ?_
          repeat walk_at "s"
          refine cv_lenn (l := σ.bg) (hA2 .begins _ _ rfl) (by (clear hb hR hroom hpos hor skip hne hq hnk hc0; lia)) ?_
          repeat walk_at "s"
          have hk2 : ∀ x, x ∈ (istore kvs (ab one) (.bool true)).map (·.1) ↔ x ∈ kvs.map (·.1) ∨ x = ab one := fun x => istore_mem x
          have ho2 := opn_add (row := σ.row) (bg := σ.bg) (n := spot) L.nd hk2 hnk hq' (ab_n one) hq
          have les2 : ∀ B', (∀ l ∈ B, l ∈ B') → Les G σ.row σ.bg ((istore kvs (ab one) (.bool true)).map (·.1)) B' spot (fun M => ∃ l ∈ r, l ≠ pivot ∧ lit M l = true) := fun B' hBB M hM => by
            refine opqG (fun goalP goalH => ?_)
            rcases les M hM with ⟨l, hl, e⟩ | ⟨p, l, h1, h2, h3, h4⟩ | h
            all_goals first | (refine goalH ?_; clear goalH goalP) | skip
            · exact .inl ⟨l, hBB l hl, e⟩
            · refine opqG (fun goalP goalH => ?_)
              obtain ⟨h5, l', h6, h7⟩ := ob_iff.mp h3
              all_goals first | (refine goalH ?_; clear goalH goalP) | skip
              exact .inr (.inl ⟨p, l, h1, h2, ob_iff.mpr ⟨h5, l', h6, (hk2 _).mpr (.inl h7)⟩, h4⟩)
            · exact .inr (.inr h)
          have hd2 : ∀ j, j < i + 1 → ∀ l, r[j]? = some l → l ≠ pivot → (∃ q, σ.row[q]? = some (-l) ∧ cnt σ.bg q = 0) ∨ ab l ∈ (istore kvs (ab one) (.bool true)).map (·.1) := fun j hj l hl hne => by
            by_cases e : j = i
            · subst e; rw [ho] at hl; cases hl; exact .inr ((hk2 _).mpr (.inr rfl))
            · exact (hdone j (by (clear hb hR hroom hrl hbl hpos hor skip hq hnk hc0 ho2 hne; lia)) l hl hne).imp id fun h => (hk2 _).mpr (.inl h)
          have dk2 : DK 1 4 (istore kvs (ab one) (.bool true)) := ls.dk.istore hor.1 hor.2
          refine ite_split (fun h4 => ?_) (fun h4 => ?_)
          · have htop : cnt σ.bg q = σ.bg.length := by have := beq_iff_eq.mp h4; (clear hb hR hroom hrl hbl hpos hor skip hne hq hnk hc0 ho2; lia)
            rw [if_pos htop] at ho2
            repeat walk_at "s"
            refine ⟨istore kvs (ab one) (.bool true), B, ⟨⟨_, _, _, hA2, hh2⟩, f12, hM2, hB2, dk2, ls.mks.add_open hk2 hq' (ab_n one) htop, ls.rowe, ls.spt, ls.hr⟩, les2 B (fun _ h => h), hd2, .inl (by rw [ho2]; (clear hb hR hroom hrl hbl hpos hor skip hne hq hnk hc0 ho2 htop; lia)), by walk_at "loc", by walk_at "loc", by walk_at "loc", ?_, by walk_at "loc", by walk_at "loc", by walk_at "loc"⟩
            rw [ho2]; exact rfl
          · have htop : cnt σ.bg q ≠ σ.bg.length := by have := beq_eq_false_iff_ne.mp h4; (clear hb hR hroom hrl hbl hpos hor skip hne hq hnk hc0 ho2; lia)
            rw [if_neg htop] at ho2
            repeat walk_at "s"
            refine ⟨_, _, _, rfl, hB2, rfl, ?_⟩
            repeat walk_at "s"
            have hBl : B.length ≤ 4 := by
              have h6 := nodup_len (lo := 1) (hi := 4) ls.mks.nd (fun x hx => by
                refine opqG (fun goalP goalH => ?_)
                obtain ⟨l, hl, rfl⟩ := List.mem_map.mp hx
                all_goals first | (refine goalH ?_; clear goalH goalP) | skip
                refine opqG (fun goalP goalH => ?_)
                obtain ⟨_, q', hq2, _⟩ := ls.mks.bh l hl
                all_goals first | (refine goalH ?_; clear goalH goalP) | skip
                have := L.rng _ (List.mem_of_getElem? hq2)
                rw [ab_n] at this; exact this)
              simpa using h6
            refine cv_append hB2 (by simp; (clear hb hR hroom hrl hbl hpos hor skip hne hq hnk hc0 ho2 htop; lia)) ?_
            refine ⟨rfl, ?_⟩
            repeat walk_at "s"
            have hMB' : aM ≠ aB := fun e => hMB e.symm
            refine ⟨istore kvs (ab one) (.bool true), B ++ [one], ⟨⟨_, _, _, hA2.out (.inr ⟨_, _, hB2, rfl⟩), hh2⟩, f12.adopt noB, by rw [AH.set_ne hMB']; exact hM2, by rw [AH.set_self]; simp [intsO], dk2, ls.mks.add_behind hk2 hnk hq' hc0 htop, ls.rowe, ls.spt, ls.hr⟩, les2 _ (fun _ h => List.mem_append_left _ h), hd2, ?_, by walk_at "loc", by walk_at "loc", by walk_at "loc", ?_, by walk_at "loc", by walk_at "loc", by walk_at "loc"⟩
            · rw [ho2]
              refine opqG (fun goalP goalH => ?_)
              rcases hpos with h | ⟨j, l, hj, hl, hne, q2, hq2, hq2', hc⟩
              all_goals first | (refine goalH ?_; clear goalH goalP) | skip
              · exact .inl h
              · by_cases e : j = i
                · subst e; rw [ho] at hl; cases hl
                  exact absurd (by rw [← pos_inj L.nd hq2' hq']; exact hc) htop
                · exact .inr ⟨j, l, by (clear hb hR hroom hrl hbl hpos hor skip hq hnk hc0 ho2 htop hBl hne hq2 hc; lia), hl, hne, q2, hq2, hq2', hc⟩
            · rw [ho2]; walk_at "loc"
        · have hc0 : cnt σ.bg q = 0 := by have := of_decide_eq_false h3; (clear hb hR hroom hrl hbl hpos hor skip hne hq hnk; lia)
          repeat walk_at "s"
          refine opqG (fun goalP goalH => ?_)
          obtain ⟨a1, a2⟩ := skip fun _ => .inl ⟨q, hq', hc0⟩
          all_goals first | (refine goalH ?_; clear goalH goalP) | skip
          exact ⟨kvs, B, ls, les, a1, a2, by walk_at "loc", by walk_at "loc", by walk_at "loc", by walk_at "loc", by walk_at "loc", by walk_at "loc", by walk_at "loc"⟩
      · have hk : ab one ∈ kvs.map (·.1) := (ilook_isSome kvs (ab one)).mp (by
          have h2' : (!(ilook kvs (ab one)).isSome) = false := h2
          simpa using h2')
        repeat walk_at "s"
        refine opqG (fun goalP goalH => ?_)
        obtain ⟨a1, a2⟩ := skip fun _ => .inr hk
        all_goals first | (refine goalH ?_; clear goalH goalP) | skip
        exact ⟨kvs, B, ls, les, a1, a2, by walk_at "loc", by walk_at "loc", by walk_at "loc", by walk_at "loc", by walk_at "loc", by walk_at "loc", by walk_at "loc"⟩
    · have he : one = pivot := by simpa using h1
      repeat walk_at "s"
      refine opqG (fun goalP goalH => ?_)
      obtain ⟨a1, a2⟩ := skip fun hne => absurd he hne
      all_goals first | (refine goalH ?_; clear goalH goalP) | skip
      exact ⟨kvs, B, ls, les, a1, a2, by walk_at "loc", by walk_at "loc", by walk_at "loc", by walk_at "loc", by walk_at "loc", by walk_at "loc", by walk_at "loc"⟩
  · refine opqG (fun goalP goalH => ?_)
    obtain ⟨kvs, B, ls, les, hdone, hpos, ms', mM', mB', mo', msp', mp', mn'⟩ := hJ
    all_goals first | (refine goalH ?_; clear goalH goalP) | skip
    rw [List.length_map] at hdone hpos
    have hopn : opn σ.row σ.bg (kvs.map (·.1)) spot ≠ 0 := hpos.resolve_right fun ⟨j, l, hj, hl, _⟩ => by
      have := (List.getElem?_eq_some_iff.mp hl).1; (clear hb hR hroom hrl hbl hpos; lia)
    have les2 := les_row L.nd nz I.e0 ls.mks ls.hr (fun l hl hne => (let ⟨j, hj⟩ := List.getElem?_of_mem hl; hdone j (List.getElem?_eq_some_iff.mp hj).1 l hj hne)) les
    refine opqG (fun goalP goalH => ?_)
    obtain ⟨p0, hp0, hob0⟩ := opn_pos hopn
    all_goals first | (refine goalH ?_; clear goalH goalP) | skip
    obtain ⟨s, rfl⟩ : ∃ s, spot = s + 1 := ⟨spot - 1, by (clear hb hR hroom hrl hbl hpos hopn; lia)⟩
    have hspt := ls.spt
    clear hAx hhx les hdone hpos
    refine opqG (fun goalP goalH => ?_)
    obtain ⟨lx, hsx, gx, hAx, hhx⟩ := ls.at'
    all_goals first | (refine goalH ?_; clear goalH goalP) | skip
    have hMa := ls.hM
    have hBa := ls.hB
    repeat walk_at "s"
    refine ex_whileO (fun (cur : Nat) m2 H2 => H2 = H' ∧ p0 ≤ cur ∧ cur < s + 1 ∧ (∀ p, cur < p → p < s + 1 → ob σ.row σ.bg (kvs.map (·.1)) p = false) ∧
      m2 (PySem.Str.ofString "self") = some (.ref σ.x) ∧ m2 (PySem.Str.ofString "marked") = some (.ref aM) ∧ m2 (PySem.Str.ofString "behind") = some (.ref aB) ∧ m2 (PySem.Str.ofString "open_ones") = some (.int (opn σ.row σ.bg (kvs.map (·.1)) (s + 1))) ∧
      m2 (PySem.Str.ofString "spot") = some (.int cur)) s ⟨rfl, by (clear hb hR hroom hrl hbl hpos hopn hspt; lia), by (clear hb hR hroom hrl hbl hpos hopn hp0 hspt; lia), fun p h1 h2 => by (clear hb hR hroom hrl hbl hpos hopn hp0 hspt; lia), by walk_at "loc", by walk_at "loc", by walk_at "loc", by walk_at "loc", ?_⟩ ?_
    · rw [show ((s : Nat) : Int) = ((s + 1 : Nat) : Int) - 1 by (clear hb hR hroom hrl hbl hpos hopn hp0 hspt; lia)]; walk_at "loc"
    intro cur m2 H2 goalQ
    refine opqG (fun goalP goalH => ?_)
    obtain ⟨rfl, hc1, hc2, hnone, ms2, mM2, mB2, mo2, msp2⟩ := goalQ
    all_goals first | (refine goalH ?_; clear goalH goalP) | skip
    obtain ⟨x, hx⟩ : ∃ x, σ.row[cur]? = some x := ⟨_, List.getElem?_eq_getElem (by (clear hb hR hroom hrl hbl hpos hopn hp0 hc1; lia))⟩
    have hxm := List.mem_of_getElem? hx
    have hrx := L.rng x hxm
    repeat walk_at "s"
    refine op_itemi (l := σ.row) (hAx .row _ _ rfl) (by (clear hb hR hroom hrl hbl hpos hopn hp0 hspt hc1 hc2 hrx; lia)) (by simpa using hx) ?_ (by (clear hR hroom hpos hopn hp0 hc1 hrx; lia))
    repeat walk_at "s"
    refine op_notin hMa ?_
    repeat walk_at "s"
    refine ite_split (fun h2 => ?_) (fun h2 => ?_)
    · have hnk : ab x ∉ kvs.map (·.1) := fun hm => by
        have := (ilook_isSome kvs (ab x)).mpr hm
        have h2' : (!(ilook kvs (ab x)).isSome) = true := h2
        rw [this] at h2'; cases h2'
      have hobc : ob σ.row σ.bg (kvs.map (·.1)) cur = false := by
        cases q : ob σ.row σ.bg (kvs.map (·.1)) cur with
        | false => rfl
        | true =>
          refine opqG (fun goalP goalH => ?_)
          obtain ⟨_, l, h3, h4⟩ := ob_iff.mp q
          all_goals first | (refine goalH ?_; clear goalH goalP) | skip
          rw [hx] at h3; cases h3; exact absurd h4 hnk
      have hne : cur ≠ p0 := fun e => by rw [e, hob0] at hobc; cases hobc
      obtain ⟨c', rfl⟩ : ∃ c', cur = c' + 1 := ⟨cur - 1, by (clear hb hR hroom hrl hbl hpos hopn hp0 hspt hc2 hrx hnk; lia)⟩
      repeat walk_at "s"
      refine ⟨c', by (clear hb hR hroom hrl hbl hpos hopn hp0 hspt hrx hnk hc1 hc2 hne; lia), rfl, by (clear hb hR hroom hrl hbl hpos hopn hp0 hspt hrx hnk hc2; lia), by (clear hb hR hroom hrl hbl hpos hopn hp0 hspt hrx hnk hc1 hne; lia), fun p h3 h4 => ?_, by walk_at "loc", by walk_at "loc", by walk_at "loc", by walk_at "loc", ?_⟩
      · by_cases e : p = c' + 1
        · rw [e]; exact hobc
        · exact hnone p (by (clear hb hR hroom hrl hbl hpos hopn hp0 hspt hrx hnk hc1 hc2 hne h4; lia)) h4
      · rw [show ((c' : Nat) : Int) = ((c' + 1 : Nat) : Int) - 1 by (clear hb hR hroom hrl hbl hpos hopn hp0 hspt hrx hnk hc1 hc2 hne; lia)]; walk_at "loc"
    · have hk : ab x ∈ kvs.map (·.1) := (ilook_isSome kvs (ab x)).mp (by
        have h2' : (!(ilook kvs (ab x)).isSome) = false := h2
        simpa using h2')
      have htop : cnt σ.bg cur = σ.bg.length := by
        have h3 := (ob_iff.mp hob0).1
        have h4 := cnt_mono σ.bg hc1
        have h5 := cnt_le σ.bg cur
        (clear hb hR hroom hrl hbl hpos hopn hp0 hspt hc1 hc2 hrx; lia)
      have hobc : ob σ.row σ.bg (kvs.map (·.1)) cur = true := ob_iff.mpr ⟨htop, x, hx, hk⟩
      have hcut := opn_cut hobc (s + 1) hc2 hnone
      have hx0 : x ≠ 0 := nz x hxm
      repeat walk_at "s"
      refine ex_tupS (names := [PySem.Str.ofString "pivot", PySem.Str.ofString "open_ones"]) ?_
      repeat walk_at "s"
      refine op_itemi (l := σ.row) (hAx .row _ _ rfl) (by (clear hb hR hroom hrl hbl hpos hopn hp0 hspt hc1 hc2 hrx htop hcut hx0; lia)) (by simpa using hx) ?_ (by (clear hb hR hroom hbl hpos hopn hp0 hc1 hrx htop hcut hx0; lia))
      repeat walk_at "s"
      rw [show ((opn σ.row σ.bg (kvs.map (·.1)) (s + 1) : Nat) : Int) - 1 = ((opn σ.row σ.bg (kvs.map (·.1)) cur : Nat) : Int) by (clear hb hR hroom hrl hbl hpos hopn hp0 hspt hc1 hc2 hrx htop hx0; lia)]
      refine ⟨by simp, fun l3 hl3 => ?_⟩
      have e3 : Ext H2 _ := Ext.new (x := (.tmp, .tup [.int x, .int (opn σ.row σ.bg (kvs.map (·.1)) cur)])) hl3
      refine ⟨l3, _, _, rfl, AH.set_self, rfl, ?_⟩
      show AS _ _ _ _ [bindName _ _, bindName _ _] [_, _] _
      generalize H2.set l3 (.tmp, .tup [.int x, .int (opn σ.row σ.bg (kvs.map (·.1)) cur)]) = H3 at *
      have hA3 := e3.at hAx
      have hM3 := e3 _ _ hMa
      have hB3 := e3 _ _ hBa
      have f3 := ls.fr.trans e3.fr
      clear hAx hMa hBa
      repeat walk_at "s"
      refine ite_split (fun h4 => ?_) (fun h4 => ?_)
      · have hz : opn σ.row σ.bg (kvs.map (·.1)) cur = 0 := by have := beq_iff_eq.mp h4; (clear hb hR hroom hrl hbl hpos hopn hp0 hspt hc1 hc2 hrx htop hcut hx0; lia)
        repeat walk_at "s"
        refine ⟨by simp, fun l4 hl4 => ?_⟩
        have e4 : Ext H3 _ := Ext.new (x := (.tmp, .list [.int (-x)])) hl4
        repeat walk_at "s"
        have hBl : B.length ≤ 4 := by
          have h6 := nodup_len (lo := 1) (hi := 4) ls.mks.nd (fun x hx => by
            refine opqG (fun goalP goalH => ?_)
            obtain ⟨l, hl, rfl⟩ := List.mem_map.mp hx
            all_goals first | (refine goalH ?_; clear goalH goalP) | skip
            refine opqG (fun goalP goalH => ?_)
            obtain ⟨_, q', hq2, _⟩ := ls.mks.bh l hl
            all_goals first | (refine goalH ?_; clear goalH goalP) | skip
            have := L.rng _ (List.mem_of_getElem? hq2)
            rw [ab_n] at this; exact this)
          simpa using h6
        refine op_addl AH.set_self (e4 _ _ hB3) (by simp; (clear hb hR hroom hrl hbl hpos hopn hp0 hspt hc1 hc2 hrx htop hcut hx0 hz; lia)) (fun l5 hl5 => ?_)
        have e5 : Ext _ _ := Ext.new (x := (.tmp, .list ([.int (-x)] ++ B.map .int))) hl5
        repeat walk_at "s"
        refine h _ lx hsx gx l5 (-x) B (e5.at (e4.at hA3)) hhx (f3.trans (e4.fr.trans e5.fr)) AH.set_self (fun M hM => ?_) ⟨cur, by rw [Int.neg_neg]; exact hx, htop⟩ (fun l hl => ?_) ls.mks.nd
        · refine opqG (fun goalP goalH => ?_)
          rcases les2 M hM with ⟨l, hl, e⟩ | ⟨p, l, h1, h2, h3, h4⟩ | h
          all_goals first | (refine goalH ?_; clear goalH goalP) | skip
          · exact ⟨l, List.mem_cons_of_mem _ hl, e⟩
          · have hpc : p = cur := by
              rcases Nat.lt_trichotomy p cur with hlt | e | hgt
              · rw [opn_zero hz hlt] at h3; cases h3
              · exact e
              · rw [hnone p hgt h1] at h3; cases h3
            subst hpc
            rw [hx] at h2; cases h2
            exact ⟨-x, by simp, h4⟩
          · exact h.elim
        · refine opqG (fun goalP goalH => ?_)
          obtain ⟨_, q, h1, h2, h3⟩ := ls.mks.bh l hl
          all_goals first | (refine goalH ?_; clear goalH goalP) | skip
          exact ⟨q, h1, h2, h3⟩
      · have hnz : opn σ.row σ.bg (kvs.map (·.1)) cur ≠ 0 := by have := beq_eq_false_iff_ne.mp h4; (clear hb hR hroom hrl hbl hpos hopn hp0 hspt hc1 hc2 hrx htop hcut hx0; lia)
        refine opqG (fun goalP goalH => ?_)
        obtain ⟨p1, hp1, hob1⟩ := opn_pos hnz
        all_goals first | (refine goalH ?_; clear goalH goalP) | skip
        have hcs : ∃ n' : Nat, ilook σ.cs (ab x) = some (.int n') := by
          rcases L.cs x hxm with e | h
          · exfalso
            rcases (I.rs cur x hx).1 e with e | hmem
            · (clear hR hroom hrl hbl hpos hopn hp0 hspt hc1 hc2 hrx hcut hx0 hnz hp1; lia)
            · have h5 := (ob_iff.mp hob1).1
              have : cnt σ.bg p1 < σ.bg.length := by
                apply Nat.lt_of_le_of_ne (cnt_le _ _)
                intro e6
                have := List.countP_eq_length.mp e6 cur hmem
                have : cur ≤ p1 := by simpa using this
                (clear hb hR hroom hrl hbl hpos hopn hp0 hspt hc1 hc2 hrx htop hcut hx0 hnz h5 e6; lia)
              (clear hb hR hroom hrl hbl hpos hopn hp0 hspt hc1 hc2 hrx hcut hx0 hnz hp1; lia)
          · exact h
        refine opqG (fun goalP goalH => ?_)
        obtain ⟨n', hn'⟩ := hcs
        all_goals first | (refine goalH ?_; clear goalH goalP) | skip
        refine opqG (fun goalP goalH => ?_)
        obtain ⟨r', hr', hxr, hoth⟩ := (I.rs cur x hx).2 n' hn'
        all_goals first | (refine goalH ?_; clear goalH goalP) | skip
        refine opqG (fun goalP goalH => ?_)
        obtain ⟨a', ha'⟩ := R_get.mp hr'
        all_goals first | (refine goalH ?_; clear goalH goalP) | skip
        repeat walk_at "s"
        refine op_item_dict (hA3 .causes _ _ rfl) hn' ?_
        repeat walk_at "s"
        refine ⟨cur, by (clear hb hR hroom hrl hbl hpos hopn hp0 hspt hc1 hrx htop hcut hx0 hnz hp1; omega), kvs, B, x, n', r', ⟨⟨_, _, _, hA3, hhx⟩, f3, hM3, hB3, ls.dk, ls.mks, ⟨a', ha'⟩, by (clear hb hR hroom hrl hbl hpos hopn hp0 hc1 hrx htop hcut hx0 hnz hp1; lia), hoth⟩, fun M hM => ?_, .inl hnz, by walk_at "loc", by walk_at "loc", by walk_at "loc", by walk_at "loc", by walk_at "loc", by walk_at "loc", by walk_at "loc"⟩
        refine opqG (fun goalP goalH => ?_)
        rcases les2 M hM with h | ⟨p, l, h1, h2, h3, h4⟩ | h
        all_goals first | (refine goalH ?_; clear goalH goalP) | skip
        · exact .inl h
        · rcases Nat.lt_trichotomy p cur with hlt | e | hgt
          · exact .inr (.inl ⟨p, l, hlt, h2, h3, h4⟩)
          · subst e
            rw [hx] at h2; cases h2
            refine opqG (fun goalP goalH => ?_)
            obtain ⟨l', hl', e'⟩ := I.er r' (List.mem_of_getElem? hr') M hM
            all_goals first | (refine goalH ?_; clear goalH goalP) | skip
            refine .inr (.inr ⟨l', hl', fun e => ?_, e'⟩)
            subst e
            rw [lit_neg hx0, e'] at h4; cases h4
          · rw [hnone p hgt h1] at h3; cases h3
        · exact h.elim
--T Fw18
noncomputable def SpecCw (w₀ : World) (n : Nat) (fa : Addr) (args : List AV) (H : AH) (Φ : AV → AH → Prop) : Prop :=
  ∀ (C : Ctx) (m : Loc), C.w = w₀ → n ≤ C.room → ∀ vs : List Value, vs.map er = args → ∀ (s : Shared) (Q : Value → Shared → Prop) (E : Value → Shared → Prop) (mm : Str → Option Value), St C m H s → Fr C.g C.L s.heap mm → LocRep m mm →
    (∀ v H' s', Φ (er v) H' → St C m H' s' → Kp C H H' s.heap s'.heap → Fr C.g C.L s'.heap mm → Q v s') →
    codeAny (model PG C.w) C.A (.call (.ref fa) ⟨vs, []⟩) (fun r s' => match r with | .ok (.ret v) => Q v s' | .ok _ => False | .error e => E e s') s
section
variable {C : Ctx} {H : AH}
theorem spec_plainCw {w₀ : World} {n fa : Nat} {args : List AV} {Φ} {name qual : Str} {params : Arguments} {body : List Stmt} {scope : Scope} {cl : List (Str × Addr)} {dV kV doc pm cdv ct oc : Value} {an od : Option Addr} {osl : Array (Option Value)} {ab : List (Str × AV)}
    (lk : ∀ w, (KK w).lookup fa = some ⟨oc, od, .func (fnX name qual params body scope cl dV kV doc pm an cdv ct), osl⟩) (hcd : ∀ w, codeIn (KK w) cdv qual = true)
    (hbind : ∀ vs : List Value, vs.map er = args → ∃ binds, bindArgs (fnX name qual params body scope cl dV kV doc pm an cdv ct) ⟨vs, []⟩ = pure binds ∧ binds.map (fun p => (p.1, er p.2)) = ab)
    (hloc : (ab.all fun y => decide (scope.names.lookup y.1 = some .local)) = true) (hcell : ∀ x ∈ scope.names, x.2 ≠ .cell) (hco : scope.isCoroutine = false) (hgen : scope.isGenerator = false) (hk : scope.kind = .function)
    (h : ∀ C' : Ctx, C'.w = w₀ → n ≤ C'.room → C'.fenv = envX qual scope C'.L fa cdv cl → (∀ a x, H a = some x → a < C'.L) → EX C' (envX qual scope C'.L fa cdv cl) (fun x => ab.reverse.lookup x) H (execs body (envX qual scope C'.L fa cdv cl)) (fnPost Φ)) :
    SpecCw w₀ (n + 1) fa args H Φ := fun C m hw₀ hroom vs hvs s Q E mm hs F r hq => by
  obtain ⟨FG, BG, st, lv⟩ := groundX (R := fun r s' => match r with | .ok (.ret v) => Q v s' | .ok _ => False | .error e => E e s') C.B F hs.led C.hA C.hf C.hke
  obtain ⟨binds, hb, hab⟩ := hbind vs hvs
  have hl : ∀ x ∈ binds, scope.names.lookup x.1 = some .local := fun x hx => by
    have := List.all_eq_true.mp hloc (x.1, er x.2) (by rw [← hab]; exact List.mem_map_of_mem (f := fun p : Str × Value => (p.1, er p.2)) hx)
    exact of_decide_eq_true this
  refine codeAny_call_def (fd := fnX name qual params body scope cl dV kV doc pm an cdv ct) (body := body) (binds := binds) (by have := C.hd; lia) ((C.X.keeps F.keep) _ _ (lk _)) rfl (C.T.nolimit.keeps F.keep) (codeRec_of (C.X.keeps F.keep) (hcd _)) rfl (BindsTo.of_eq hb) hcell hl (fun h₁ hns hk₁ => ?_) hco hgen hk
  let C' := callee C H s (envX qual scope s.heap.objs.size fa cdv cl) ⟨m, hs⟩ (by lia) rfl hk BG st
  have hs' : St C' (fun x => ab.reverse.lookup x) H { s with heap := h₁, toks := s.toks + binds.length } := by
    refine ⟨⟨_, ⟨hns, fun b o e => hk₁ b o (of_hideAll _ e), Nat.le_of_eq (hideAll_size _ _)⟩, fun x a e => ?_⟩, fun a t o e => ?_, ?_⟩
    · have : ∀ l : List (Str × Value), ∀ x a, (l.map fun p => (p.1, er p.2)).lookup x = some a → (l.lookup x).map er = some a := by
        intro l x a h
        induction l with
        | nil => cases h
        | cons p q ih =>
          obtain ⟨p1, p2⟩ := p
          simp only [List.map_cons, List.lookup_cons] at h ⊢
          cases hb : (x == p1) with
          | true => simp only [hb] at h ⊢; simpa using h
          | false => simp only [hb] at h ⊢; exact ih h
      have e' := e
      rw [← hab, ← List.map_reverse] at e'
      exact this _ _ _ e'
    · obtain ⟨ob, e1, r1, n1, g1⟩ := hs.hr a t o e
      exact ⟨ob, hk₁ _ _ e1, r1, Nat.ne_of_lt (Heap.lt_size e1), hideAll_none _ (List.mem_map_of_mem (f := (·.1)) ((ledH_mem (p := (a, ob))).mpr ⟨by rw [e]; rfl, e1⟩)), g1.2⟩
    · obtain ⟨h0, tk0, e0⟩ := hs.sr; exact ⟨h₁, _, by rw [e0]⟩
  refine h C' hw₀ (by show n ≤ C.room - 1; omega) rfl (fun a x e => hs.lt (t := x.1) (o := x.2) e) rfl _ _ _ hs' fun f m' H' s' p hs'' k' => ?_
  refine lv _ _ (back (C' := C') hs F r rfl rfl rfl hs'' fun h1 k1 F2 => ?_)
  cases f with
  | ret v => exact hq v H' s' p h1 k1 F2
  | next => exact hq .none H' s' p h1 k1 F2
  | brk => exact p.elim
  | cont => exact p.elim
end
/-- an exact object that reads as o -/
noncomputable def Rd (w : World) (H : AH) (a : Addr) (o : AO) : Prop := ∃ t ob, H a = some (t, .exact ob) ∧ o.rep w ob
section
variable {C : Ctx} {env : Env} {vm m : Loc} {H H0 : AH} {σ : Sg} {s : Shared}
/-- reading an exact object as another -/
theorem St.rd {a o} (hs : St C m H s) (h : Rd C.w H a o) : ∃ t, St C m (H.set a (t, o)) s := by
  obtain ⟨t, ob, hH, r⟩ := h
  obtain ⟨ob', e, ⟨rfl, _⟩, nL, ng⟩ := hs.hr a t _ hH
  refine ⟨t, hs.fr, fun b t' o' e' => ?_, hs.sr⟩
  by_cases q : b = a
  · subst q; rw [AH.set_self] at e'; cases e'; exact ⟨ob', e, r, nL, ng⟩
  · rw [AH.set_ne q] at e'; exact hs.hr b t' o' e'
theorem Rd.set {w : World} {H : AH} {a b : Addr} {o x} (h : Rd w H a o) (hab : a ≠ b) : Rd w (H.set b x) a o := by
  obtain ⟨t, ob, hH, r⟩ := h
  exact ⟨t, ob, by rw [AH.set_ne hab]; exact hH, r⟩
theorem ev_fld_x {x xp attr pos a Φ ax dx fs} (hN : NV C env vm m H (.Name x xp) (.ref ax)) (hx : Rd C.w H ax (.inst dx)) (hd : Rd C.w H dx (.attrs fs)) (hne : ax ≠ dx) (hl : look fs attr = some a) (hc : isConc a = false) (h : Φ a H)
    (hf : attrNames.contains attr = true := by decide)
    (hq : eval (.Attribute (.Name x xp) attr pos) env = (do let o ← eval (.Name x xp) env; standAt pos.atName; let r ← holding [o] (getAttr o attr true); letTemporaryGo (.Name x xp) o r; pure r) := by rfl) :
    EV C env vm m H (eval (.Attribute (.Name x xp) attr pos) env) Φ := ev_attr_name (hN _ fun v1 e1 s Q E hs _ hq' => by
  obtain rfl := er_ref e1
  obtain ⟨mm, F, _⟩ := hs.fr
  obtain ⟨t1, hs1⟩ := hs.rd hx
  obtain ⟨t2, hs2⟩ := hs1.rd (hd.set (Ne.symm hne))
  obtain ⟨es, n, I, hr⟩ := hs2.inst (by rw [AH.set_ne hne]; exact AH.set_self) AH.set_self
  obtain ⟨⟨o, ho, hm⟩, _⟩ := attrs_get hr attr
  rw [hl] at hm
  cases o with
  | none => cases hm
  | some v =>
    have ev : er v = a := Option.some.inj hm
    exact get_own F C.X I (pg_all _ _) (by rfl) (fi_all _ hf) (by rfl) ho (handed (by rw [ev]; exact hc)) (hq' _ _ _ (by rw [ev]; exact h) (hs.tok _) .refl)) hq
theorem op_item_dict_x {value slice d kvs k x Φ} (hH : Rd C.w H d (.idict kvs)) (hx : ilook kvs k = some x) (h : Φ x H)
    (hsub : ∀ u, subscripted slice false (.ref d) (.int k u) = operate [.ref d, .int k u] (getItem (.ref d) (.int k u)) := by intro _; rfl) :
    Op2 C env vm m H (subscriptTail value slice) (.ref d) (.int k) Φ := fun v1 v2 e1 e2 s Q E hs _ hq => by
  obtain rfl := er_ref e1
  obtain ⟨u, rfl⟩ := er_int e2
  obtain ⟨t1, hs1⟩ := hs.rd hH
  obtain ⟨ob, kvs', e, hd, hm, hD, lo, hmem⟩ := hs1.idictAt AH.set_self
  rw [← hm, ← ilook_of] at hx
  cases e' : valueAt kvs' k with
  | none => rw [e'] at hx; cases hx
  | some y =>
    rw [e'] at hx
    have hy : er y = x := Option.some.inj hx
    exact kba_turn (value' := .Name (PySem.Str.ofString "_") ⟨0, 0, 0, 0⟩) (fun _ => rfl) (kda_item (knd := intKind PG C.w) allOf_news hmem hd (intKind_is _ _ _ _) e' (hq y H _ (by rw [hy]; exact h) (hs.tok _) .refl) (hsub u) (fun _ => rfl))
end
--T S13

theorem height_of_x {w₀ : World} {H : AH} {x dx aHt : Addr} {fs ht} {v : Int} {i : AV} (hx : Rd w₀ H x (.inst dx)) (hd : Rd w₀ H dx (.attrs fs)) (hne : x ≠ dx) (hl : look fs "heights" = some (.ref aHt)) (hh : Rd w₀ H aHt (.idict ht)) (hv : ilook ht (ab v) = some i) (Φ : AV → AH → Prop) (h : Φ i H) :
    SpecCw w₀ 1 177 [.ref x, .int v] H Φ := by
  refine spec_plainCw (fun w => rfl) (fun w => rfl) (binds2 (n1 := "self") (n2 := "literal") (fun _ _ => rfl) rfl) (by rfl) (by decide) rfl rfl rfl (fun C hw hr hfe hlt => ?_)
  subst hw
  repeat walk_at "s"
  refine ev_fld_x (nv_local (by walk_at "loc")) hx hd hne hl rfl ?_
  repeat walk_at "s"
  refine op_item_dict_x hh hv ?_
  repeat walk_at "s"
  exact h
theorem sp_height (w : World) : specialIn (KK w) (.ref 177) "__get__" = some (some (.builtin "function.__get__")) := by kernel_rfl
theorem tk_height (w : World) : takesIn (KK w) (.ref 177) = some false := by kernel_rfl
theorem hd_height (w : World) : hasDictIn (KK w) 227 = true := by kernel_rfl
/-- the heap's tracked things, each as it is -/
noncomputable def HX (H : AH) (h : Heap) : AH := fun a => match H a with | some x => (h.get? a).map fun ob => (x.1, .exact ob) | none => none
theorem St.hx {C : Ctx} {m : Loc} {H : AH} {s : Shared} (hs : St C m H s) : St C m (HX H s.heap) s := by
  refine ⟨hs.fr, fun a t o e => ?_, hs.sr⟩
  unfold HX at e
  cases q : H a with
  | none => rw [q] at e; cases e
  | some x =>
    obtain ⟨ob, e1, r1, n1, g1⟩ := hs.hr a x.1 x.2 q
    rw [q, e1] at e
    cases e
    exact ⟨ob, e1, ⟨rfl, fun vs hd => rep_fields r1 hd⟩, n1, g1⟩
theorem rd_hx {C : Ctx} {m : Loc} {H : AH} {s : Shared} (hs : St C m H s) {a t o} (h : H a = some (t, o)) : Rd C.w (HX H s.heap) a o := by
  obtain ⟨ob, e1, r1, n1, g1⟩ := hs.hr a t o h
  exact ⟨t, ob, by unfold HX; rw [h, e1]; rfl, r1⟩
/-- self.height_of as a value -/
theorem attr_height {C : Ctx} {m : Loc} {H : AH} {s : Shared} {σ : Sg} {mm : Str → Option Value} {Q : Value → Shared → Prop} {E : Value → Shared → Prop} (hs : St C m H s) (hA : At H σ) (F : Fr C.g C.L s.heap mm)
    (h : ∀ q h', Fr C.g C.L h' mm → News C.g C.L h' ((q, methodObj (.ref 177) (.ref σ.x)) :: allOf C.g C.L s.heap) → (∀ p ∈ allOf C.g C.L s.heap, p.1 < q) → Q (.ref q) { s with heap := h', toks := s.toks + 1 }) :
    wpAny (model PG C.w) C.A (getAttr (.ref σ.x) (PySem.Str.ofString "height_of") true) Q E s := by
  obtain ⟨es, n, I, hr⟩ := hs.inst (hA .inst _ _ rfl) (hA .attrs _ _ rfl)
  obtain ⟨⟨ov, ho, hm⟩, _⟩ := attrs_get hr (PySem.Str.ofString "height_of")
  have hl : look σ.fs (PySem.Str.ofString "height_of") = none := rfl
  rw [hl] at hm
  cases ov with
  | some v => cases hm
  | none => exact kbm_bound F C.X allOf_news I (pg_all _ _) (hd_height _) (fm_height_of _) (fn_height_of _) (sp_height _) (tk_height _) (by decide) ho h
theorem fds_ne {σ : Sg} {H : AH} (hA : At H σ) : σ.x ≠ σ.dx := fun e => by
  have h1 := hA .inst _ _ rfl
  have h2 := hA .attrs _ _ rfl
  rw [e, h2] at h1; cases h1
theorem St.keptN {C : Ctx} {m : Loc} {H : AH} {s : Shared} {h' : Heap} {tk : Nat} {mm : Str → Option Value} (hs : St C m H s) (r : LocRep m mm) (F' : Fr C.g C.L h' mm) (k : ∀ b x, b ≠ C.L → s.heap.get? b = some x → h'.get? b = some x) :
    St C m H { s with heap := h', toks := tk } ∧ Kp C H H s.heap h' := by
  refine ⟨⟨⟨mm, F', r⟩, fun b u p hb => ?_, ?_⟩, fun b x hb hn' hl => ⟨k b x hl hb, hn'⟩⟩
  · obtain ⟨ob1, e1, r1, n1, g1⟩ := hs.hr b u p hb
    exact ⟨ob1, k b ob1 n1 e1, r1, n1, g1⟩
  · obtain ⟨h0, tk0, e0⟩ := hs.sr; exact ⟨h', tk, by rw [e0]⟩
/-- sorted(l, key=self.height_of, reverse=True) -/
theorem ev_sorted_h {C : Ctx} {env : Env} {vm m : Loc} {H : AH} {e : Expr} {x : Str} {xp yp ap kp p1 p2 pos : Pos} {kk : Nat} {g : Int → Int} {Φ : AV → AH → Prop} (hroom : 4 ≤ C.room)
    (h : EV C env vm m H (eval e env) (fun a H1 => ∃ l t ns σ, a = .ref l ∧ H1 l = some (t, .list (ns.map .int)) ∧ At H1 σ ∧ NV C env vm m H1 (.Name x yp) (.ref σ.x) ∧ ns.length < 60 ∧ (∀ n ∈ ns, ilook σ.ht (ab n) = some (.int (g n))) ∧
      ∀ D (r : List Int), H1 D = none → r.Perm ns → r.Pairwise (fun x y => g y ≤ g x) → Φ (.ref D) (H1.set D (.tmp, .list (r.map .int)))))
    (hg : env.globals = mainGlobals := by rfl) (hgb : env.builtins = builtinsNs := by rfl) (hkf : env.scope.kind = .function := by rfl)
    (hl : env.kindOf "sorted" = some .globalImplicit := by rfl)
    (he : eval (.Call (.Name "sorted" xp) [e] [⟨some "key", .Attribute (.Name x yp) "height_of" ap, p1⟩, ⟨some "reverse", .Constant (.bool true) kk kp, p2⟩] pos) env = (do callWith pos (← eval (.Name "sorted" xp) env) [] (backTo pos (starEach [e] env)) (backToKw pos (keywordEach [⟨some "key", .Attribute (.Name x yp) "height_of" ap, p1⟩, ⟨some "reverse", .Constant (.bool true) kk kp, p2⟩] env))) := by rfl)
    (h1 : starEach [e] env = (false, eval e env) :: starEach [] env := by rfl) (h2 : backTo pos (starEach [e] env) = (false, eval e env) :: backTo pos (starEach [] env) := by rfl) (h3 : (backTo pos (starEach [e] env)).any (·.1) = false := by rfl)
    (hq2 : eval (.Attribute (.Name x yp) "height_of" ap) env = (do let o ← eval (.Name x yp) env; standAt ap.atName; let r ← holding [o] (getAttr o "height_of" true); letTemporaryGo (.Name x yp) o r; pure r) := by rfl) :
    EV C env vm m H (eval (.Call (.Name "sorted" xp) [e] [⟨some "key", .Attribute (.Name x yp) "height_of" ap, p1⟩, ⟨some "reverse", .Constant (.bool true) kk kp, p2⟩] pos) env) Φ := fun s Q E hs hv hq => by
  rw [he]
  refine wpAny_bind (ev_bi (Φ := fun v H' => v = .conc (.builtin "sorted") ∧ H' = H) (nb_sorted _) boot_sorted (by decide) ⟨rfl, rfl⟩ hg hgb hkf hl (by decide) s _ E hs hv fun v H1 s1 h1' hs1 k1 => ?_)
  obtain ⟨e1, rfl⟩ := h1'
  obtain rfl := er_conc e1
  refine callWith_kw (e := e) (rest := []) (args_cons (h s1 _ E hs1 (hv.step k1) fun a H2 s2 h2' hs2 k2 => args_nil (kws_cons ?_)) h1) h2 h3 rfl rfl
  obtain ⟨l, t, ns, σ, ea, hl2, hA2, hN, hlen, hht, hΦ⟩ := h2'
  obtain rfl := er_ref ea
  refine Attribute_Name_ (hN (fun v H' => v = .ref σ.x ∧ H' = H2) ⟨rfl, rfl⟩ s2 _ E hs2 ((hv.step k1).step k2) fun ov H3 s3 h3' hs3 k3 => ?_) hq2
  obtain ⟨e3, rfl⟩ := h3'
  obtain rfl := er_ref e3
  obtain ⟨mm, F, r⟩ := hs3.fr
  refine attr_height hs3 hA2 F fun q h4 F4 N4 l4 => ?_
  refine kws_cons (Constant_bool (kws_nil ?_))
  have keep4 := News.keepAll (F₀ := F) F4 (N4)
  obtain ⟨hs4, k4⟩ := hs3.keptN (tk := s3.toks + 1) r F4 keep4
  obtain ⟨its, nn, el, hm, hmem, hlist⟩ := hs4.listAt hl2
  have hints : IntsAre its ns := er_ints hm
  have hlen2 : its.length = ns.length := by rw [hints.length]
  refine ksk_sorted (A := C.A) (b := true) (f := .ref q) (kz := ns.map g) F4 N4 hlist (by rw [List.length_map, hlen2]) (by lia) (ksk_s2 _ _ _) (fun x => ksk_l2 _ _ _) (fun x => ksk_t2 q x true) (fun i v k hv hk hh tk own F' N' => ?_) (fun D h' tk out c F' N' lD ko => ?_)
  · obtain ⟨n, hn⟩ : ∃ n, ns[i]? = some n := by
      cases q : ns[i]? with
      | none => rw [List.getElem?_map, q] at hk; cases hk
      | some n => exact ⟨n, rfl⟩
    rw [List.getElem?_map, hn] at hk
    have hk' : g n = k := Option.some.inj hk
    obtain ⟨t', ht'⟩ := hints.get i n hn
    rw [ht'] at hv; cases hv
    subst hk'
    refine call_meth N' (List.mem_append_left _ (.head _)) ?_
    have N5 : News C.g C.L hh ((q, methodObj (.ref 177) (.ref σ.x)) :: allOf C.g C.L s3.heap) := fun p hp => N' p (List.mem_append_left _ hp)
    have hs5 := (hs3.keptN (tk := tk) r F' (News.keepAll (F₀ := F) F' N5)).1
    have hx5 := hs5.hx
    let C2 : Ctx := { C with A := C.A.in1.in1, room := C.room - 1, hA := C.hA, hd := by have := C.hd; show C.A.depth + (C.room - 1) < recursionLimit; (clear hlen hlen2; omega), hu := by have := C.hu; show C.A.units + 1 + 1 + 10 * (C.room - 1) + 100 < cLine; (clear hlen hlen2; lia), hh := C.hh }
    have hs6 : St C2 m (HX H3 hh) { s3 with heap := hh, toks := tk } := ⟨hx5.fr, hx5.hr, hx5.sr⟩
    have hspec := height_of_x (w₀ := C.w) (H := HX H3 hh) (rd_hx hs5 (hA2 .inst _ _ rfl)) (rd_hx hs5 (hA2 .attrs _ _ rfl)) (fds_ne hA2) rfl (rd_hx hs5 (hA2 .heights _ _ rfl)) (hht n (List.mem_of_getElem? hn)) (fun v H' => v = .int (g n) ∧ H' = HX H3 hh) ⟨rfl, rfl⟩
    refine hspec C2 m rfl (by show 1 ≤ C.room - 1; (clear hlen hlen2; omega)) [.ref σ.x, .int n t'] rfl _ _ _ mm hs6 F' r fun v H' s7 p hs7 k7 F7 => ?_
    obtain ⟨ev, rfl⟩ := p
    obtain ⟨t7, rfl⟩ := er_int ev
    obtain ⟨h7, tk7, e7⟩ := hs7.sr
    obtain ⟨h3', tk3', e3'⟩ := hs3.sr
    refine ⟨s7.heap, s7.toks, t7, ?_, rfl, F7, fun p hp => ⟨?_, (N' p hp).2⟩⟩
    · rw [e7, e3']
    · have hp1 := (N' p hp).1
      cases hX : HX H3 hh p.1 with
      | none => exact (k7 p.1 p.2 hp1 hX (N' p hp).2.1).1
      | some y =>
        obtain ⟨ob1, a1, b1, _⟩ := hs7.hr p.1 y.1 y.2 hX
        have hX' := hX
        unfold HX at hX'
        cases q3 : H3 p.1 with
        | none => rw [q3] at hX'; cases hX'
        | some z =>
          rw [q3, hp1] at hX'
          have : y = (z.1, .exact p.2) := (Option.some.inj hX').symm
          rw [this] at b1
          rw [a1, b1.1]
  · obtain ⟨r', hr1, hr2, hr3⟩ := ksk_ints (g := g) hints ko
    have N5 : News C.g C.L h' ((q, methodObj (.ref 177) (.ref σ.x)) :: allOf C.g C.L s3.heap) := fun p hp => N' p (.tail _ hp)
    have keep5 := News.keepAll (F₀ := F) F' N5
    have hDfresh : s3.heap.get? D = none := by
      cases q5 : s3.heap.get? D with
      | none => rfl
      | some o =>
        exfalso
        by_cases hDL : D = C.L
        · exact (N' _ (.head _)).2.1 hDL
        · cases hg : C.g.get? D with
          | some y => have := (N' _ (.head _)).2.2; rw [hg] at this; cases this
          | none =>
            have := lD (D, o) (.tail _ (allOf_mem.mpr ⟨hDL, hg, q5⟩))
            exact Nat.lt_irrefl _ this
    have hlow : sysModules < D := by
      obtain ⟨ob, e0, _, nL, g1⟩ := hs3.hr l t _ hl2
      exact Nat.lt_trans g1.2 (lD (l, ob) (.tail _ (allOf_mem.mpr ⟨nL, g1.1, e0⟩)))
    obtain ⟨s8, k8, hn8⟩ := hs3.grownN (t := .tmp) (tk := tk) (o := .list (r'.map .int)) r F' keep5 hDfresh (N' _ (.head _)).2.1 hlow (N' _ (.head _)).1 ⟨out.toList, c, by simp [seqObj], ints_er hr1⟩
    exact hq _ _ _ (hΦ _ r' hn8 hr2 (by simpa using hr3)) s8 (k1.trans (k2.trans (k3.trans k8)))
--T P5
theorem take_get {row : List Int} {b p : Nat} {x : Int} (h : (row.take b)[p]? = some x) : p < b ∧ row[p]? = some x := by
  have hp : p < b := by
    apply Nat.lt_of_not_le; intro q
    rw [List.getElem?_take_eq_none q] at h; cases h
  rw [List.getElem?_take_of_lt hp] at h
  exact ⟨hp, h⟩
theorem get_take {row : List Int} {b p : Nat} {x : Int} (hp : p < b) (h : row[p]? = some x) : (row.take b)[p]? = some x := by rw [List.getElem?_take_of_lt hp]; exact h
theorem Iw.back {G c σ f} (I : Iw G c σ f No) {l h b kn lk} (e : σ.bg[h]? = some b) (hc : h < c) (k : KnRow (σ.row.take b) kn) (d1 : DK 1 4 kn) (b1 : Bools kn) (d2 : DK 1 4 lk) (b2 : Bools lk) : Iw G (h + 1) (σ.back l b h kn lk) f No := by
  have L := I.L
  have hb := L.bgl b (List.mem_of_getElem? e)
  have hlen : (σ.bg.take h).length = h := by rw [List.length_take]; have := (List.getElem?_eq_some_iff.mp e).1; (clear hc hb; lia)
  refine Iw.of (row := σ.row.take b) (bg := σ.bg.take h) (rows := σ.rows) (seen := b) (cs := σ.cs) (wt := σ.wt) rfl rfl rfl rfl rfl rfl (L.back e k d1 b1 d2 b2) I.ro I.wm I.dk (fun n r l p hr hw hp hs hcn hx => ?_) (fun p l hp => ?_) I.er (fun p l hp h0 => ?_) (fun g hg => ?_)
  · obtain ⟨hpb, hp'⟩ := take_get hp
    have hcp := cnt_take L.bgs e hpb
    have hle := cnt_lt L.bgs e hpb
    obtain ⟨l', q, a1, a2, a3⟩ := I.wi n r l p hr hw hp' (by (clear hc hlen hcn hx hpb hcp hle; lia)) (by (clear hb hs hx hpb hle; lia)) hx
    have hqb : q < b := by
      apply Nat.lt_of_not_le; intro hbq
      have := cnt_ge L.bgs e hbq
      (clear hc hb hs hx hpb hle hbq; lia)
    exact ⟨l', q, a1, get_take hqb a2, by rw [cnt_take L.bgs e hqb, hcp]; exact a3⟩
  · obtain ⟨hpb, hp'⟩ := take_get hp
    obtain ⟨r1, r2⟩ := I.rs p l hp'
    refine ⟨fun q => ?_, fun n hn => ?_⟩
    · rw [cnt_take L.bgs e hpb]
      rcases r1 q with h0 | hm
      · exact .inl h0
      · right
        obtain ⟨_, s2, s3, _⟩ := bg_split L.bgs e
        rw [s3] at hm
        rcases List.mem_append.mp hm with hm | hm
        · exact hm
        · have := s2 p hm; (clear hc hb hlen r1; lia)
    · obtain ⟨r, a1, a2, a3⟩ := r2 n hn
      refine ⟨r, a1, a2, fun l' c1 c2 => ?_⟩
      obtain ⟨q, c3, c4⟩ := a3 l' c1 c2
      exact ⟨q, c3, get_take (by (clear hc hb hlen r1 c2; lia)) c4⟩
  · obtain ⟨hpb, hp'⟩ := take_get hp
    rw [cnt_take L.bgs e hpb] at h0
    exact I.e0 p l hp' h0
  · rcases I.cv g hg with h1 | ⟨l, hl, p, hp, h0⟩ | h1
    · exact .inl h1
    · have hpb : p < b := by
        apply Nat.lt_of_not_le; intro hbp
        have := cnt_ge L.bgs e hbp
        (clear hc hb hbp; lia)
      exact .inr (.inl ⟨l, hl, p, get_take hpb hp, by rw [cnt_take L.bgs e hpb]; exact h0⟩)
    · exact .inr (.inr h1)
/-- a row is added; its second watch may be excused -/
theorem Iw.addRow {G c σ} (I : Iw G c σ (wls σ.wt) No) {l : Addr} {x y : Int} {rest : List Int} {wt} (ok : RowOk (x :: y :: rest)) (en : Ent G (x :: y :: rest)) (dk : DK (-4) 4 (wkv wt))
    (hw : ∀ j, wls wt j = if j = x ∨ j = y then wls σ.wt j ++ [σ.rows.length] else wls σ.wt j) (ex : Nat → Int → Prop) (hx : ∀ p, σ.row[p]? = some (-x) → p < σ.seen → cnt σ.bg p < c → ex σ.rows.length x) (hy : ∀ p, σ.row[p]? = some (-y) → p < σ.seen → cnt σ.bg p < c → ex σ.rows.length y) :
    Iw G c ((σ.addRow l (x :: y :: rest)).setWt wt) (wls wt) ex := by
  have hRl : σ.R.length = σ.rows.length := by unfold Sg.R; rw [List.length_map]
  have eR : (σ.rows ++ [(l, x :: y :: rest)]).map (·.2) = σ.R ++ [x :: y :: rest] := by rw [List.map_append]; rfl
  have getR : ∀ {n : Nat} {r : List Int}, (σ.R ++ [x :: y :: rest])[n]? = some r → (n < σ.rows.length ∧ σ.R[n]? = some r) ∨ (n = σ.rows.length ∧ r = x :: y :: rest) := fun {n r} h => by
    by_cases hn : n < σ.R.length
    · rw [List.getElem?_append_left hn] at h; exact .inl ⟨by lia, h⟩
    · have hl := (List.getElem?_eq_some_iff.mp h).1
      rw [List.length_append, List.length_singleton] at hl
      have : n = σ.R.length := by lia
      subst this
      refine .inr ⟨hRl, ?_⟩
      simpa using h.symm
  have putR : ∀ {n : Nat} {r : List Int}, σ.R[n]? = some r → (σ.R ++ [x :: y :: rest])[n]? = some r := fun {n r} h => by
    rw [List.getElem?_append_left (List.getElem?_eq_some_iff.mp h).1]; exact h
  have newR : (σ.R ++ [x :: y :: rest])[σ.rows.length]? = some (x :: y :: rest) := by rw [← hRl]; simp
  have lt_of : ∀ {n l}, n ∈ wls σ.wt l → n < σ.rows.length := fun {n l} hn => by
    obtain ⟨r, hr, _⟩ := ((I.wm l).2 n).mp hn
    have := (List.getElem?_eq_some_iff.mp hr).1; lia
  refine Iw.of (row := σ.row) (bg := σ.bg) (rows := σ.rows ++ [(l, x :: y :: rest)]) (seen := σ.seen) (cs := σ.cs) (wt := wt) rfl rfl rfl rfl rfl rfl I.L.addRow.setWt ?_ ?_ dk ?_ ?_ ?_ I.e0 ?_
  · rw [eR]; intro r hr
    rcases List.mem_append.mp hr with hr | hr
    · exact I.ro r hr
    · rw [List.mem_singleton.mp hr]; exact ok
  · rw [eR]; intro j
    rw [hw]
    have nd0 := (I.wm j).1
    by_cases hj : j = x ∨ j = y
    · rw [if_pos hj]
      refine ⟨?_, fun n => ?_⟩
      · rw [List.nodup_append]
        exact ⟨nd0, by simp, fun a ha b hb e => by rw [List.mem_singleton.mp hb] at e; have := lt_of ha; (clear hRl hj; lia)⟩
      · rw [List.mem_append, List.mem_singleton]
        constructor
        · rintro (hn | rfl)
          · obtain ⟨r, hr, hwd⟩ := ((I.wm j).2 n).mp hn
            exact ⟨r, putR hr, hwd⟩
          · exact ⟨_, newR, wd_cons.mpr hj⟩
        · rintro ⟨r, hr, hwd⟩
          rcases getR hr with ⟨_, hr⟩ | ⟨e, _⟩
          · exact .inl (((I.wm j).2 n).mpr ⟨r, hr, hwd⟩)
          · exact .inr e
    · rw [if_neg hj]
      refine ⟨nd0, fun n => ?_⟩
      rw [(I.wm j).2 n]
      constructor
      · rintro ⟨r, hr, hwd⟩; exact ⟨r, putR hr, hwd⟩
      · rintro ⟨r, hr, hwd⟩
        rcases getR hr with ⟨_, hr⟩ | ⟨_, rfl⟩
        · exact ⟨r, hr, hwd⟩
        · exact absurd (wd_cons.mp hwd) hj
  · rw [eR]; intro n r j p hr hwd hp hs hcn hex
    rcases getR hr with ⟨_, hr⟩ | ⟨rfl, rfl⟩
    · exact I.wi n r j p hr hwd hp hs hcn id
    · rcases wd_cons.mp hwd with rfl | rfl
      · exact absurd (hx p hp hs hcn) hex
      · exact absurd (hy p hp hs hcn) hex
  · rw [eR]; intro p j hp
    refine ⟨(I.rs p j hp).1, fun n hn => ?_⟩
    obtain ⟨r, a1, a2⟩ := (I.rs p j hp).2 n hn
    exact ⟨r, putR a1, a2⟩
  · rw [eR]; intro r hr
    rcases List.mem_append.mp hr with hr | hr
    · exact I.er r hr
    · rw [List.mem_singleton.mp hr]; exact en
  · rw [eR]; intro g hg
    rcases I.cv g hg with h1 | h1 | ⟨r, hr, hs⟩
    · exact .inl h1
    · exact .inr (.inl h1)
    · exact .inr (.inr ⟨r, List.mem_append_left _ hr, hs⟩)
--T P6
/-- the weight of a trail -/
noncomputable def wgt (bg : List Nat) : Nat → Nat
  | 0 => 0
  | n + 1 => wgt bg n + 5 ^ (4 - cnt bg n)
theorem wgt_mono (bg : List Nat) {m n : Nat} (h : m ≤ n) : wgt bg m ≤ wgt bg n := by
  induction n with
  | zero => have : m = 0 := by lia
            subst this; exact Nat.le_refl _
  | succ n ih =>
    by_cases e : m = n + 1
    · rw [e]; exact Nat.le_refl _
    · exact Nat.le_trans (ih (by lia)) (Nat.le_add_right _ _)
theorem wgt_congr {a b : List Nat} : ∀ n, (∀ p, p < n → cnt a p = cnt b p) → wgt a n = wgt b n
  | 0, _ => rfl
  | n + 1, h => by show wgt a n + _ = wgt b n + _; rw [wgt_congr n fun p hp => h p (by lia), h n (by lia)]
theorem pow5_le {a b : Nat} (h : a ≤ b) : 5 ^ a ≤ 5 ^ b := Nat.pow_le_pow_right (by decide) h
theorem wgt_le (bg : List Nat) : ∀ n, wgt bg n ≤ n * 625
  | 0 => Nat.le_refl _
  | n + 1 => by
    have := wgt_le bg n
    have h2 : 5 ^ (4 - cnt bg n) ≤ 5 ^ 4 := pow5_le (by omega)
    show wgt bg n + 5 ^ (4 - cnt bg n) ≤ (n + 1) * 625
    have e : (5 : Nat) ^ 4 = 625 := by decide
    lia
theorem wgt_tail {bg : List Nat} {b k : Nat} (hb : ∀ p, b ≤ p → k ≤ cnt bg p) : ∀ n, b ≤ n → wgt bg n ≤ wgt bg b + (n - b) * 5 ^ (4 - k)
  | 0, h => by have : b = 0 := by lia
               subst this; simp
  | n + 1, h => by
    by_cases e : b = n + 1
    · rw [e]; simp
    · have ih := wgt_tail hb n (by lia)
      have h2 : 5 ^ (4 - cnt bg n) ≤ 5 ^ (4 - k) := pow5_le (by have := hb n (by lia); (clear h e ih; omega))
      show wgt bg n + 5 ^ (4 - cnt bg n) ≤ _
      have e2 : n + 1 - b = (n - b) + 1 := by (clear ih h2; lia)
      rw [e2, Nat.add_mul, Nat.one_mul]
      (clear h e e2; omega)
theorem wgt_learn {bg : List Nat} {h b n : Nat} (s : bg.Pairwise (· < ·)) (e : bg[h]? = some b) (hn : n ≤ 4) (hb : b < n) (hl : bg.length ≤ 4) : wgt bg n < wgt (bg.take h) (b + 1) := by
  have hh : h < bg.length := (List.getElem?_eq_some_iff.mp e).1
  have h1 : wgt (bg.take h) b = wgt bg b := wgt_congr b fun p hp => cnt_take s e hp
  have h2 := wgt_tail (bg := bg) (b := b) (k := h + 1) (fun p hp => cnt_ge s e hp) n (by (clear hn hl hh h1; lia))
  show _ < wgt (bg.take h) b + 5 ^ (4 - cnt (bg.take h) b)
  rw [h1, cnt_at s e]
  have e3 : 5 ^ (4 - h) = 5 * 5 ^ (4 - (h + 1)) := by
    have : 4 - h = (4 - (h + 1)) + 1 := by (clear hn hb h1 h2; lia)
    rw [this, Nat.pow_succ, Nat.mul_comm]
  have h4 : (n - b) * 5 ^ (4 - (h + 1)) ≤ 4 * 5 ^ (4 - (h + 1)) := Nat.mul_le_mul_right _ (by (clear hl hh h1 h2 e3; lia))
  have h5 : 0 < 5 ^ (4 - (h + 1)) := Nat.pow_pos (by decide)
  (clear hn hb hl hh h1; omega)
theorem wgt_dec {bg : List Nat} {n : Nat} : wgt bg n < wgt (bg ++ [n]) (n + 1) := by
  have h1 : wgt (bg ++ [n]) n = wgt bg n := wgt_congr n fun p hp => cnt_snoc hp
  show _ < wgt (bg ++ [n]) n + _
  rw [h1]
  have : 0 < 5 ^ (4 - cnt (bg ++ [n]) n) := Nat.pow_pos (by decide)
  lia
--T S14

structure Lrn (G : List (List Int)) (σ σ' : Sg) : Prop where
  x : σ'.x = σ.x
  ref : σ'.refuted = σ.refuted
  I : Iw G (σ'.bg.length + 1) σ' (wls σ'.wt) No
  clashes : σ'.clashes = σ.clashes + 1
  rows : σ'.rows.length ≤ σ.rows.length + 1
  log : σ'.log.length ≤ σ.log.length + 1
  w : wgt σ.bg σ.row.length < wgt σ'.bg σ'.row.length
theorem Lk.plain {σ σ' : Sg} (L : Lk σ) (e1 : σ'.row = σ.row) (e2 : σ'.kn = σ.kn) (e3 : σ'.ht = σ.ht) (e4 : σ'.cs = σ.cs) (e5 : σ'.lk = σ.lk) (e6 : σ'.heats = σ.heats) (e7 : σ'.bg = σ.bg) (e8 : σ'.seen = σ.seen) : Lk σ' :=
  L.of e1 e2 e3 e4 e5 e6 e7 e8 L.rng L.nd L.kn L.ht L.cs L.dkn L.bkn L.dht L.dcs L.dlk L.blk L.heat L.bgs L.bgl L.sl
theorem Iw.plain {G c σ f ex} {σ' : Sg} (I : Iw G c σ f ex) (L : Lk σ') (e1 : σ'.row = σ.row) (e2 : σ'.bg = σ.bg) (e3 : σ'.rows = σ.rows) (e4 : σ'.seen = σ.seen) (e5 : σ'.cs = σ.cs) (e6 : σ'.wt = σ.wt) : Iw G c σ' f ex :=
  Iw.of e1 e2 e3 e4 e5 e6 L I.ro I.wm I.dk I.wi I.rs I.er I.e0 I.cv
theorem clash0 {G c σ f ex n} (I : Iw G c σ f ex) (hc : Clash σ n) (hb : σ.bg = []) : Ent G [] := by
  obtain ⟨r, hr, hall, _⟩ := hc
  have hrm := List.mem_of_getElem? hr
  refine (I.er r hrm).none (I.ro r hrm).ne fun x hx => ?_
  obtain ⟨p, hp⟩ := List.getElem?_of_mem (hall x hx)
  exact I.e0 p _ hp (by rw [hb]; rfl)
theorem learn_spec {H : AH} {σ : Sg} {G} {n : Nat} (hA : At H σ) (I : Iw G σ.bg.length σ (wls σ.wt) No) (hcl : Clash σ n) (hR : σ.rows.length ≤ 90000) (hlog : σ.log.length ≤ 1000000) (Φ : AV → AH → Prop)
    (h0 : ∀ H' σ', At H' σ' → Fr0 H H' → σ'.x = σ.x → σ'.refuted = true → Ent G [] → Φ .none H')
    (h1 : ∀ H' σ', At H' σ' → Fr0 H H' → Lrn G σ σ' → Φ .none H') : Spec 6 184 [.ref σ.x, .int n] H Φ := by
  refine spec_plain (fun w => rfl) (fun w => rfl) (binds2 (n1 := "self") (n2 := "number") (fun _ _ => rfl) rfl) (by rfl) (by decide) rfl rfl rfl (fun C hroom hfe hlt => ?_)
  generalize hm : (fun x => List.lookup x _ : Loc) = m
  have ms : m (PySem.Str.ofString "self") = some (.ref σ.x) := by rw [← hm]; rfl
  have mn : m (PySem.Str.ofString "number") = some (.int n) := by rw [← hm]; rfl
  clear hm
  have L := I.L
  have hrl := L.rowLen
  have hbl := L.bgLen
  have f : Fr0 H H := .refl
  repeat walk_at "s"
  refine ex_self_f (H0 := H) ?_
  repeat walk_at "s"
  refine ⟨σ, σ.setClashes (σ.clashes + 1), hA, by walk_at "loc", (at_clashes σ · _), f, fun H1 hA1 f1 => ?_⟩
  clear hA f
  repeat walk_at "s"
  refine cv_lenn (l := σ.bg) (hA1 .begins _ _ rfl) (by (clear hR hlog hroom; lia)) ?_
  repeat walk_at "s"
  refine ite_split (fun hb => ?_) (fun hb => ?_)
  · have hb0 : σ.bg = [] := List.eq_nil_of_length_eq_zero (by have := beq_iff_eq.mp hb; (clear hR hlog hroom hrl hbl; lia))
    repeat walk_at "s"
    refine refute_spec hA1 (by show σ.log.length ≤ _; (clear hR hroom hrl hbl; lia)) _ (fun H2 l hA2 f2 => ?_) _ _ (by (clear hR hlog hrl hbl; lia))
    refine ⟨rfl, ?_⟩
    repeat walk_at "s"
    exact h0 _ _ hA2 (f1.trans f2) rfl rfl (clash0 I hcl hb0)
  · have hb1 : 1 ≤ σ.bg.length := by have := beq_eq_false_iff_ne.mp hb; (clear hR hlog hroom hrl hbl; lia)
    have I1 : Iw G (σ.setClashes (σ.clashes + 1)).bg.length (σ.setClashes (σ.clashes + 1)) (wls (σ.setClashes (σ.clashes + 1)).wt) No := I.plain (L.plain rfl rfl rfl rfl rfl rfl rfl rfl) rfl rfl rfl rfl rfl rfl
    have hcl1 : Clash (σ.setClashes (σ.clashes + 1)) n := hcl
    repeat walk_at "s"
    refine lesson_spec hA1 I1 hcl1 hb1 (by show σ.rows.length ≤ _; (clear hlog hroom hrl hbl hb1; lia)) _ (fun H2 lx hsx gx T u B hA2 hh2 f2 hT hen hu hB hnd => ?_) _ _ (by (clear hR hlog hrl hbl hb1; lia))
    repeat walk_at "s"
    have hB' : ∀ l ∈ B, ∃ q : Nat, σ.row[q]? = some (-l) ∧ 0 < cnt σ.bg q ∧ cnt σ.bg q < σ.bg.length := hB
    obtain ⟨pu, hpu, hcu⟩ : ∃ p : Nat, σ.row[p]? = some (-u) ∧ cnt σ.bg p = σ.bg.length := hu
    have hBr : ∀ l ∈ B, 1 ≤ ab l ∧ ab l ≤ 4 := fun l hl => by
      obtain ⟨q, hq, _⟩ := hB' l hl
      have := L.rng _ (List.mem_of_getElem? hq); rw [ab_n] at this; exact this
    have hur : 1 ≤ ab u ∧ ab u ≤ 4 := by have := L.rng _ (List.mem_of_getElem? hpu); rw [ab_n] at this; exact this
    have hBl : B.length ≤ 4 := row_len hBr hnd
    have nzT : ∀ l ∈ u :: B, l ≠ 0 := fun l hl => by
      rcases List.mem_cons.mp hl with rfl | hl
      · exact ab_zero hur.1
      · exact ab_zero (hBr l hl).1
    refine ⟨_, _, _, rfl, hA2 .log _ _ rfl, rfl, ?_⟩
    repeat walk_at "s"
    refine CV.mono (ordered_spec hT (.inl rfl) (by simp; (clear hR hlog hroom hrl hbl hb1 hcu hur; lia)) nzT (fun v H' => Ext H2 H') (fun H' _ e _ _ => e) (fun H' _ _ e _ _ _ _ => e) _ _ (by (clear hR hlog hrl hbl hb1 hcu hur hBl; lia))) (fun v H3 e3 => ?_)
    have hA3 := e3.at hA2
    have hT3 := e3 _ _ hT
    have f3 := (f1.trans f2).trans e3.fr
    clear hA1 hA2 hT f1 f2
    repeat walk_at "s"
    refine cv_append_comp (vs := σ.log) (((σ.setClashes (σ.clashes + 1)).hx lx hsx gx).setLog (σ.log ++ [v])) hA3 .refl (t := .log) rfl (by (clear hR hroom hrl hbl hb1 hcu hur hBl; lia)) (at_log _ · _) ?_
    intro H4 hA4 f4
    have hT4 := f4 _ _ _ hT3 rfl
    have f40 := f3.trans f4
    clear hA3 hT3
    refine ⟨rfl, ?_⟩
    repeat walk_at "s"
    refine ⟨_, rfl, _, _, (u :: B).map .int, rfl, hT4, by simp; (clear hR hlog hroom hrl hbl hb1 hcu hur; lia), fun l5 hl5 => ?_⟩
    have e5 : pickA ((u :: B).map .int) none (some 1) = [.int u] := (pickA_to _ 1).trans rfl
    rw [e5]
    have x5 : Ext H4 (H4.set l5 (.tmp, .list [.int u])) := Ext.new hl5
    have hl5s := AH.set_self (H := H4) (a := l5) (x := (.tmp, .list [.int u]))
    generalize H4.set l5 (.tmp, .list [.int u]) = H5 at *
    have hgt : ∀ l ∈ B, ∃ q : Nat, σ.row[q]? = some (-l) ∧ 0 < cnt σ.bg q ∧ cnt σ.bg q < σ.bg.length ∧ ilook σ.ht (ab l) = some (.int (cnt σ.bg q)) := fun l hl => by
      obtain ⟨q, h1, h2, h3⟩ := hB' l hl
      exact ⟨q, h1, h2, h3, by have := L.ht q _ h1; rw [ab_n] at this; exact this⟩
    let g : Int → Int := fun l => match ilook σ.ht (ab l) with | some (.int i) => i | _ => 0
    have hg : ∀ l ∈ B, ilook σ.ht (ab l) = some (.int (g l)) := fun l hl => by
      obtain ⟨q, _, _, _, h4⟩ := hgt l hl
      show ilook σ.ht (ab l) = some (.int (match ilook σ.ht (ab l) with | some (.int i) => i | _ => 0))
      rw [h4]
    refine ev_sorted_h (g := g) (by (clear hR hlog hrl hbl hb1 hcu hur hBl; lia)) ?_
    repeat walk_at "s"
    refine ⟨_, rfl, _, _, (u :: B).map .int, rfl, x5 _ _ hT4, by simp; (clear hR hlog hroom hrl hbl hb1 hcu hur; lia), fun l6 hl6 => ?_⟩
    have e6 : pickA ((u :: B).map .int) (some 1) none = B.map .int := (pickA_from _ 1).trans rfl
    rw [e6]
    have x6 : Ext H5 (H5.set l6 (.tmp, .list (B.map .int))) := Ext.new hl6
    have hl6s := AH.set_self (H := H5) (a := l6) (x := (.tmp, .list (B.map .int)))
    generalize H5.set l6 (.tmp, .list (B.map .int)) = H6 at *
    refine ⟨l6, .tmp, B, _, rfl, hl6s, (x5.trans x6).at hA4, nv_local (by walk_at "loc"), by (clear hR hlog hroom hrl hbl hb1 hcu hur; omega), hg, fun D r hD hp hs => ?_⟩
    have x7 : Ext H6 (H6.set D (.tmp, .list (r.map .int))) := Ext.new hD
    have hDs := AH.set_self (H := H6) (a := D) (x := (.tmp, .list (r.map .int)))
    generalize H6.set D (.tmp, .list (r.map .int)) = H7 at *
    refine op_addl ((x6.trans x7) _ _ hl5s) hDs (by rw [List.length_map, hp.length_eq]; simp; (clear hR hlog hroom hrl hbl hb1 hcu hur; lia)) (fun T2 hT2 => ?_)
    have x8 : Ext H7 (H7.set T2 (.tmp, .list ([.int u] ++ r.map .int))) := Ext.new hT2
    have hT2s : (H7.set T2 (.tmp, .list ([.int u] ++ r.map .int))) T2 = some (.tmp, intsO (u :: r)) := AH.set_self
    generalize H7.set T2 (.tmp, .list ([.int u] ++ r.map .int)) = H8 at *
    have x48 := x5.trans (x6.trans (x7.trans x8))
    have hA8 := x48.at hA4
    have f8 := f40.trans x48.fr
    clear hA4 f40 x48 hT4 hl5s hl6s hDs hl5 hl6 hD hT2 x5 x6 x7 x8
    repeat walk_at "s"
    have L8' : Lk (((σ.setClashes (σ.clashes + 1)).hx lx hsx gx).setLog (σ.log ++ [v])) := ((L.plain (σ' := σ.setClashes (σ.clashes + 1)) rfl rfl rfl rfl rfl rfl rfl rfl).hx (l := lx) (g := gx) hh2).plain rfl rfl rfl rfl rfl rfl rfl rfl
    have I8' : Iw G σ.bg.length (((σ.setClashes (σ.clashes + 1)).hx lx hsx gx).setLog (σ.log ++ [v])) (wls σ.wt) No := (I1.hx (l := lx) (g := gx) hh2).plain L8' rfl rfl rfl rfl rfl rfl
    obtain ⟨σ8, hσ8⟩ : ∃ τ, τ = ((σ.setClashes (σ.clashes + 1)).hx lx hsx gx).setLog (σ.log ++ [v]) := ⟨_, rfl⟩
    have q_x : σ8.x = σ.x := by rw [hσ8]; rfl
    have q_row : σ8.row = σ.row := by rw [hσ8]; rfl
    have q_bg : σ8.bg = σ.bg := by rw [hσ8]; rfl
    have q_rows : σ8.rows = σ.rows := by rw [hσ8]; rfl
    have q_wt : σ8.wt = σ.wt := by rw [hσ8]; rfl
    have q_ref : σ8.refuted = σ.refuted := by rw [hσ8]; rfl
    have q_cl : σ8.clashes = σ.clashes + 1 := by rw [hσ8]; rfl
    have q_log : σ8.log.length = σ.log.length + 1 := by rw [hσ8]; show (σ.log ++ [v]).length = _; simp
    have q_ht : σ8.ht = σ.ht := by rw [hσ8]; rfl
    rw [← hσ8] at hA8 L8' I8'
    rw [← q_wt] at I8'
    have ms8 : (Loc.set (Loc.set m (PySem.Str.ofString "taught") (.ref T)) (PySem.Str.ofString "taught") (.ref T2)) (PySem.Str.ofString "self") = some (.ref σ8.x) := by rw [q_x]; walk_at "loc"
    have mt8 : (Loc.set (Loc.set m (PySem.Str.ofString "taught") (.ref T)) (PySem.Str.ofString "taught") (.ref T2)) (PySem.Str.ofString "taught") = some (.ref T2) := rfl
    rw [← hσ8]
    clear hσ8
    have rl8 : σ8.row.length ≤ 4 := by rw [q_row]; exact hrl
    cases r with
    | nil =>
      have hB0 : B = [] := hp.nil_eq.symm
      subst hB0
      refine cv_leni (l := [u]) hT2s (by simp) ?_
      repeat walk_at "s"
      refine ite_split (fun q => absurd (of_decide_eq_true q) (by simp)) (fun _ => ?_)
      repeat walk_at "s"
      show CV C _ H8 (.ref 104) [.ref σ8.x, .int ((0 : Nat) : Int)] _
      refine back_to_spec (h := 0) hA8 L8' _ (fun q => absurd q (by rw [q_bg]; (clear hR hlog hroom hrl hbl hur q_cl q_log rl8 hBl q; lia))) (fun b hb9 l9 kn9 lk9 H9 k9 d1 b1 d2 b2 hA9 f9 => ?_) _ _ (by (clear hR hlog hrl hbl hb1 hcu hur q_cl q_log rl8 hBl; lia))
      have I9 := I8'.back (l := l9) hb9 (by (clear hR hlog hroom hrl hbl hur q_cl q_log rl8 hBl; lia)) k9 d1 b1 d2 b2
      have hT9 := f9 _ _ _ hT2s rfl
      have hbb := (L8'.bgl b (List.mem_of_getElem? hb9)).1
      have hlen9 : (σ8.row.take b).length = b := by rw [List.length_take]; (clear hR hlog hroom hrl hbl hb1 hcu hur q_cl q_log rl8 hBl; lia)
      have hb9' : σ.bg[0]? = some b := by rw [← q_bg]; exact hb9
      have hnu : ab u ∉ (σ8.back l9 b 0 kn9 lk9).row.map ab := fun hm => by
        obtain ⟨z, hz, ez⟩ := List.mem_map.mp hm
        obtain ⟨p, hp⟩ := List.getElem?_of_mem (show z ∈ σ8.row.take b from hz)
        obtain ⟨hpb, hp'⟩ := take_get hp
        rw [q_row] at hp'
        have e1 : (σ.row.map ab)[p]? = some (ab u) := by rw [List.getElem?_map, hp']; exact congrArg some ez
        have e2 : (σ.row.map ab)[pu]? = some (ab u) := by rw [List.getElem?_map, hpu]; exact congrArg some (ab_n u)
        have : p = pu := (List.getElem?_inj (List.getElem?_eq_some_iff.mp e1).1 L.nd).mp (e1.trans e2.symm)
        subst this
        have := cnt_lt L.bgs hb9' hpb
        (clear hR hlog hroom hrl hbl hur q_cl q_log rl8 hBl hbb hlen9 ez hpb; lia)
      clear hA8
      refine ⟨rfl, ?_⟩
      repeat walk_at "s"
      refine op_itemi (l := [u]) hT9 (by (clear hR hlog hroom hrl hbl hb1 hcu hur q_cl q_log rl8 hBl hbb hlen9 hnu; lia)) rfl ?_ (by (clear hR hlog hroom hrl hbl hb1 hcu hur q_cl q_log rl8 hBl hbb hlen9 hnu; lia))
      repeat walk_at "s"
      refine cv_leni (l := [u]) hT9 (by simp) ?_
      repeat walk_at "s"
      refine ite_split (fun q => absurd (of_decide_eq_true q) (by simp)) (fun _ => ?_)
      repeat walk_at "s"
      have L9 := I9.L
      have Lb9 : ∀ b' ∈ (σ8.back l9 b 0 kn9 lk9).bg, b' < (σ8.back l9 b 0 kn9 lk9).row.length := fun b' hb' => (L9.bgl b' hb').1
      refine let_specS hA9 (by have := L9.dkn.len; (clear hR hlog hroom hrl hbl hb1 hcu hur q_cl q_log rl8 hBl hbb hlen9 hnu; lia)) (by have := L9.dht.len; (clear hR hlog hroom hrl hbl hb1 hcu hur q_cl q_log rl8 hBl hbb hlen9 hnu; lia)) (by have := L9.dcs.len; (clear hR hlog hroom hrl hbl hb1 hcu hur q_cl q_log rl8 hBl hbb hlen9 hnu; lia)) (by have := L9.rowLen; (clear hR hlog hroom hrl hbl hb1 hcu hur q_cl q_log rl8 hBl hbb hlen9 hnu; lia)) (by have := L9.bgLen; have := L9.rowLen; (clear hR hlog hroom hrl hbl hb1 hcu hur q_cl q_log rl8 hBl hbb hlen9 hnu; lia)) _ (fun H10 hA10 f10 => ?_) _ _ (by (clear hR hlog hrl hbl hb1 hcu hur q_cl q_log rl8 hBl hbb hlen9 hnu; lia))
      have I10 := I9.letS (i := u) (cv := .none) hur.1 hur.2 hnu (.inl ⟨rfl, .inl rfl⟩) (fun _ => hen) Lb9
      refine ⟨rfl, ?_⟩
      repeat walk_at "s"
      refine ex_self_f (H0 := H) ?_
      repeat walk_at "s"
      refine op_fdiv (by decide) (by decide) ?_
      repeat walk_at "s"
      refine ⟨_, ((σ8.back l9 b 0 kn9 lk9).letS u .none).setGain _, hA10, by walk_at "loc", (at_gain _ · _), f8.trans (f9.trans f10), fun H11 hA11 f11 => ?_⟩
      repeat walk_at "s"
      refine h1 _ _ hA11 f11 ⟨q_x, q_ref, I10.plain (I10.L.plain rfl rfl rfl rfl rfl rfl rfl rfl) rfl rfl rfl rfl rfl rfl, q_cl, ?_, ?_, ?_⟩
      · show σ8.rows.length ≤ _; rw [q_rows]; (clear hR hlog hroom hrl hbl hb1 hcu hur q_cl q_log rl8 hBl hbb hlen9 hnu; lia)
      · show σ8.log.length ≤ _; (clear hR hlog hroom hrl hbl hb1 hcu hur q_cl rl8 hBl hbb hlen9 hnu; lia)
      · show _ < wgt (σ8.bg.take 0) (σ8.row.take b ++ [u]).length
        rw [List.length_append, hlen9, q_bg]
        exact wgt_learn L.bgs hb9' hrl (by rw [← q_row]; exact hbb) (by (clear hR hlog hroom hb1 hur q_cl q_log rl8 hBl hbb hlen9 hnu; lia))
    | cons y rest =>
      have hlB : rest.length + 1 = B.length := by have := hp.length_eq; simpa using this
      have hmem : ∀ l, l ∈ y :: rest → l ∈ B := fun l hl => hp.mem_iff.mp hl
      have hyB : y ∈ B := hmem y (by simp)
      obtain ⟨qy, hy1, hy2, hy3, hy4⟩ := hgt y hyB
      have hgc : ∀ l ∈ y :: rest, ∃ q : Nat, σ.row[q]? = some (-l) ∧ g l = (cnt σ.bg q : Nat) := fun l hl => by
        obtain ⟨q, h1, _, _, h4⟩ := hgt l (hmem l hl)
        have := (hg l (hmem l hl)).symm.trans h4
        exact ⟨q, h1, by injection (Option.some.inj this)⟩
      have hgy : g y = (cnt σ.bg qy : Nat) := by
        have := (hg y hyB).symm.trans hy4
        injection (Option.some.inj this)
      have hgle : ∀ l ∈ y :: rest, g l ≤ g y := fun l hl => by
        rcases List.mem_cons.mp hl with rfl | hl
        · (clear hR hlog hroom hrl hbl hb1 hcu hur hBl q_cl q_log rl8 hlB hy2 hy3 hgy; lia)
        · exact (List.pairwise_cons.mp hs).1 l hl
      have hTl : (u :: y :: rest).length ≤ 5 := by simp; (clear hR hlog hroom hrl hbl hb1 hcu hur q_cl q_log rl8 hy2 hy3 hgy; lia)
      refine cv_leni (l := u :: y :: rest) hT2s (by (clear hR hlog hroom hrl hbl hb1 hcu hur hBl q_cl q_log rl8 hlB hy2 hy3 hgy; lia)) ?_
      repeat walk_at "s"
      refine ite_split (fun _ => ?_) (fun q => absurd (of_decide_eq_false q) (by simp; (clear hR hlog hroom hrl hbl hb1 hcu hur q_cl q_log rl8 hy2 hy3 hgy hTl; lia)))
      repeat walk_at "s"
      refine op_itemi (l := u :: y :: rest) hT2s (by (clear hR hlog hroom hrl hbl hb1 hcu hur hBl q_cl q_log rl8 hlB hy2 hy3 hgy hTl; lia)) rfl ?_ (by (clear hR hlog hroom hrl hbl hb1 hcu hur hBl q_cl q_log rl8 hlB hy2 hy3 hgy hTl; lia))
      repeat walk_at "s"
      refine height_of_spec hA8 (i := .int (cnt σ.bg qy : Nat)) (by rw [q_ht]; exact hy4) _ ?_ _ _ (by (clear hR hlog hrl hbl hb1 hcu hur hBl q_cl q_log rl8 hlB hy2 hy3 hgy hTl; lia))
      repeat walk_at "s"
      refine back_to_spec (h := cnt σ.bg qy) hA8 L8' _ (fun q => absurd q (by rw [q_bg]; (clear hR hlog hroom hrl hbl hb1 hur hBl q_cl q_log rl8 hlB hy2 hTl q; lia))) (fun b hb9 l9 kn9 lk9 H9 k9 d1 b1 d2 b2 hA9 f9 => ?_) _ _ (by (clear hR hlog hrl hbl hb1 hcu hur hBl q_cl q_log rl8 hlB hy2 hy3 hgy hTl; lia))
      have I9 := I8'.back (l := l9) hb9 (by (clear hR hlog hroom hrl hbl hb1 hcu hur hBl q_cl q_log rl8 hlB hy2 hgy hTl; omega)) k9 d1 b1 d2 b2
      have hT9 := f9 _ _ _ hT2s rfl
      have hbb := (L8'.bgl b (List.mem_of_getElem? hb9)).1
      have hlen9 : (σ8.row.take b).length = b := by rw [List.length_take]; (clear hR hlog hroom hrl hbl hb1 hcu hur hBl q_cl q_log rl8 hlB hy2 hy3 hgy hTl; lia)
      have hb9' : σ.bg[cnt σ.bg qy]? = some b := by have h9 := hb9; rw [q_bg] at h9; exact h9
      have bgl9 : (σ.bg.take (cnt σ.bg qy)).length = cnt σ.bg qy := by rw [List.length_take]; (clear hR hlog hroom hrl hbl hb1 hur hBl q_cl q_log rl8 hlB hy2 hTl hbb hlen9; lia)
      have r9 : (σ8.back l9 b (cnt σ.bg qy) kn9 lk9).row = σ.row.take b := by show σ8.row.take b = _; rw [q_row]
      have g9 : (σ8.back l9 b (cnt σ.bg qy) kn9 lk9).bg = σ.bg.take (cnt σ.bg qy) := by show σ8.bg.take _ = _; rw [q_bg]
      have n9 : (σ8.back l9 b (cnt σ.bg qy) kn9 lk9).rows = σ.rows := q_rows
      have w9 : (σ8.back l9 b (cnt σ.bg qy) kn9 lk9).wt = σ8.wt := rfl
      have x9 : (σ8.back l9 b (cnt σ.bg qy) kn9 lk9).x = σ8.x := rfl
      have rf9 : (σ8.back l9 b (cnt σ.bg qy) kn9 lk9).refuted = σ.refuted := q_ref
      have cl9 : (σ8.back l9 b (cnt σ.bg qy) kn9 lk9).clashes = σ.clashes + 1 := q_cl
      have lg9 : (σ8.back l9 b (cnt σ.bg qy) kn9 lk9).log.length = σ.log.length + 1 := q_log
      have hb4 : b < σ.row.length := by rw [← q_row]; exact hbb
      -- where the others lie
      have hpos : ∀ l ∈ y :: rest, ∃ q : Nat, (σ.row.take b)[q]? = some (-l) := fun l hl => by
        obtain ⟨q, h1, h2⟩ := hgc l hl
        have h3 := hgle l hl
        have hqb : q < b := by
          apply Nat.lt_of_not_le; intro hle
          have := cnt_ge L.bgs hb9' hle
          (clear hR hlog hroom hrl hbl hb1 hcu hur hBl q_cl q_log rl8 hlB hy2 hy3 hTl hbb hlen9 cl9 lg9 hb4 hle; lia)
        exact ⟨q, get_take hqb h1⟩
      have hqyb : qy < b := by
        apply Nat.lt_of_not_le; intro hle
        have := cnt_ge L.bgs hb9' hle
        (clear hR hlog hroom hrl hbl hb1 hcu hur hBl q_cl q_log rl8 hlB hy2 hy3 hgy hTl hbb hlen9 bgl9 cl9 lg9 hb4 hle; lia)
      have hnu : ab u ∉ (σ.row.take b).map ab := fun hm => by
        obtain ⟨z, hz, ez⟩ := List.mem_map.mp hm
        obtain ⟨p, hp⟩ := List.getElem?_of_mem hz
        obtain ⟨hpb, hp'⟩ := take_get hp
        have e1 : (σ.row.map ab)[p]? = some (ab u) := by rw [List.getElem?_map, hp']; exact congrArg some ez
        have e2 : (σ.row.map ab)[pu]? = some (ab u) := by rw [List.getElem?_map, hpu]; exact congrArg some (ab_n u)
        have : p = pu := (List.getElem?_inj (List.getElem?_eq_some_iff.mp e1).1 L.nd).mp (e1.trans e2.symm)
        subst this
        have := cnt_lt L.bgs hb9' hpb
        (clear hR hlog hroom hrl hbl hb1 hur hBl q_cl q_log rl8 hlB hy2 hTl hbb hlen9 cl9 lg9 hb4 hqyb ez hpb; lia)
      have hur9 : ∀ l ∈ y :: rest, ab l ≠ ab u := fun l hl e => hnu (by
        obtain ⟨q, hq⟩ := hpos l hl
        rw [← e, ← ab_n]; exact List.mem_map_of_mem (List.mem_of_getElem? hq))
      have ok9 : RowOk (u :: y :: rest) := by
        refine ⟨by simp, fun l hl => ?_, ?_⟩
        · rcases List.mem_cons.mp hl with rfl | hl
          · exact hur
          · exact hBr l (hmem l hl)
        · rw [List.map_cons, List.nodup_cons]
          refine ⟨fun q => ?_, ((hp.map ab).nodup_iff).mpr hnd⟩
          obtain ⟨l, hl, e⟩ := List.mem_map.mp q
          exact hur9 l hl e
      have en9 : Ent G (u :: y :: rest) := fun M hM => by
        obtain ⟨l, hl, e⟩ := hen M hM
        refine ⟨l, ?_, e⟩
        rcases List.mem_cons.mp hl with rfl | hl
        · simp
        · exact List.mem_cons_of_mem _ (hp.mem_iff.mpr hl)
      have huy : u ≠ y := fun e => hur9 y (by simp) (by rw [e])
      have abr : ∀ l : Int, 1 ≤ ab l ∧ ab l ≤ 4 → -4 ≤ l ∧ l ≤ 4 := fun l hl => by unfold ab at hl; split at hl <;> lia
      have wl9 : ∀ l, (wls σ8.wt l).length ≤ 1000000 := fun l => by
        have := I8'.wlen l
        rw [q_rows] at this; (clear hlog hroom hrl hbl hb1 hcu hur hBl q_cl q_log rl8 hlB hy2 hy3 hgy hTl hbb hlen9 bgl9 cl9 lg9 hb4 hqyb hnu huy; lia)
      have ms9 := ms8
      rw [← x9] at ms9
      have Lb9 : ∀ b' ∈ (σ8.back l9 b (cnt σ.bg qy) kn9 lk9).bg, b' < (σ8.back l9 b (cnt σ.bg qy) kn9 lk9).row.length := fun b' hb' => (I9.L.bgl b' hb').1
      generalize hσ9 : σ8.back l9 b (cnt σ.bg qy) kn9 lk9 = σ9 at *
      clear hσ9
      rw [← w9] at I9 wl9
      clear hA8 ms8
      refine ⟨rfl, ?_⟩
      repeat walk_at "s"
      refine op_itemi (l := u :: y :: rest) hT9 (by (clear hR hlog hroom hrl hbl hb1 hcu hur hBl q_cl q_log rl8 hlB hy2 hy3 hgy hTl hbb hlen9 bgl9 hb4 hqyb hnu huy cl9 lg9; lia)) rfl ?_ (by (clear hR hlog hroom hrl hbl hb1 hcu hur hBl q_cl q_log rl8 hlB hy2 hy3 hgy hTl hbb hlen9 bgl9 hb4 hqyb hnu huy cl9 lg9; lia))
      repeat walk_at "s"
      refine cv_leni (l := u :: y :: rest) hT9 (by (clear hR hlog hroom hrl hbl hb1 hcu hur hBl q_cl q_log rl8 hlB hy2 hy3 hgy hbb hlen9 bgl9 hb4 hqyb hnu huy cl9 lg9; lia)) ?_
      repeat walk_at "s"
      refine ite_split (fun _ => ?_) (fun q => absurd (of_decide_eq_false q) (by simp; (clear hR hlog hroom hrl hbl hb1 hcu hur q_cl q_log rl8 hy2 hy3 hgy hTl hbb hlen9 bgl9 hb4 hqyb hnu huy cl9 lg9; lia)))
      repeat walk_at "s"
      refine keep_spec hA9 hT9 rfl huy (abr u hur) (abr y (hBr y hyB)) I9.dk (by (clear hR hlog hroom hrl hbl hb1 hcu hur q_cl q_log rl8 hy2 hy3 hgy hTl hbb hlen9 bgl9 hb4 hqyb hnu huy cl9 lg9; lia)) (by rw [n9]; (clear hlog hroom hrl hbl hb1 hcu hur hBl q_cl q_log rl8 hlB hy2 hy3 hgy hTl hbb hlen9 bgl9 hb4 hqyb hnu huy cl9 lg9; lia)) wl9 _ (fun H10 la wta hA10 f10 dka hwa => ?_) _ _ (by (clear hR hlog hrl hbl hb1 hcu hur hBl q_cl q_log rl8 hlB hy2 hy3 hgy hTl hbb hlen9 bgl9 hb4 hqyb hnu huy cl9 lg9; lia))
      have hnu9 : ab u ∉ σ9.row.map ab := by rw [r9]; exact hnu
      have I10 := I9.addRow (l := la) (wt := wta) ok9 en9 dka hwa (fun n l => n = σ9.rows.length ∧ l = y) (fun p q _ _ => absurd (List.mem_map_of_mem (f := ab) (List.mem_of_getElem? q)) (by rw [ab_n]; exact hnu9)) (fun p _ _ _ => ⟨rfl, rfl⟩)
      have t_row : ((σ9.addRow la (u :: y :: rest)).setWt wta).row = σ9.row := rfl
      have t_bg : ((σ9.addRow la (u :: y :: rest)).setWt wta).bg = σ9.bg := rfl
      have t_x : ((σ9.addRow la (u :: y :: rest)).setWt wta).x = σ9.x := rfl
      have t_rows : ((σ9.addRow la (u :: y :: rest)).setWt wta).rows = σ9.rows ++ [(la, u :: y :: rest)] := rfl
      have t_wt : ((σ9.addRow la (u :: y :: rest)).setWt wta).wt = wta := rfl
      have t_rf : ((σ9.addRow la (u :: y :: rest)).setWt wta).refuted = σ9.refuted := rfl
      have t_cl : ((σ9.addRow la (u :: y :: rest)).setWt wta).clashes = σ9.clashes := rfl
      have t_lg : ((σ9.addRow la (u :: y :: rest)).setWt wta).log = σ9.log := rfl
      generalize hτ : (σ9.addRow la (u :: y :: rest)).setWt wta = τ at *
      clear hτ hA9 hwa
      rw [← t_wt] at I10
      have L10 := I10.L
      have ms10 := ms9
      rw [← t_x] at ms10
      clear ms9
      have hgR : τ.R[σ9.rows.length]? = some (u :: y :: rest) := R_get.mpr ⟨la, by rw [t_rows]; simp⟩
      repeat walk_at "s"
      show CV C _ H10 (.ref 97) [.ref σ9.x, .int u, .int σ9.rows.length] _
      rw [← t_x]
      refine let_specS hA10 (by have := L10.dkn.len; (clear hR hlog hroom hrl hbl hb1 hcu hur hBl q_cl q_log rl8 hlB hy2 hy3 hgy hTl hbb hlen9 bgl9 hb4 hqyb hnu huy cl9 lg9 hnu9 t_cl; lia)) (by have := L10.dht.len; (clear hR hlog hroom hrl hbl hb1 hcu hur hBl q_cl q_log rl8 hlB hy2 hy3 hgy hTl hbb hlen9 bgl9 hb4 hqyb hnu huy cl9 lg9 hnu9 t_cl; lia)) (by have := L10.dcs.len; (clear hR hlog hroom hrl hbl hb1 hcu hur hBl q_cl q_log rl8 hlB hy2 hy3 hgy hTl hbb hlen9 bgl9 hb4 hqyb hnu huy cl9 lg9 hnu9 t_cl; lia)) (by have := L10.rowLen; (clear hR hlog hroom hrl hbl hb1 hcu hur hBl q_cl q_log rl8 hlB hy2 hy3 hgy hTl hbb hlen9 bgl9 hb4 hqyb hnu huy cl9 lg9 hnu9 t_cl; lia)) (by have := L10.bgLen; have := L10.rowLen; (clear hR hlog hroom hrl hbl hb1 hcu hur hBl q_cl q_log rl8 hlB hy2 hy3 hgy hTl hbb hlen9 bgl9 hb4 hqyb hnu huy cl9 lg9 hnu9 t_cl; lia)) _ (fun H11 hA11 f11 => ?_) _ _ (by (clear hR hlog hrl hbl hb1 hcu hur hBl q_cl q_log rl8 hlB hy2 hy3 hgy hTl hbb hlen9 bgl9 hb4 hqyb hnu huy cl9 lg9 hnu9 t_cl; lia))
      have I11 := I10.letS (i := u) (cv := .int σ9.rows.length) hur.1 hur.2 (by rw [t_row]; exact hnu9) (.inr ⟨σ9.rows.length, _, rfl, hgR, by simp, fun l hl hne => by
          rw [t_row, r9]
          obtain ⟨q, hq⟩ := hpos l ((List.mem_cons.mp hl).resolve_left hne)
          exact List.mem_of_getElem? hq⟩) (fun q => by
          rw [t_bg, g9] at q; rw [q] at bgl9; simp at bgl9; (clear hR hlog hroom hrl hbl hb1 hcu hur hBl q_cl q_log rl8 hlB hy3 hTl hbb hlen9 hb4 hqyb hnu huy cl9 lg9 hnu9 t_cl; lia)) (by rw [t_bg, t_row]; exact Lb9)
      have I12 : Iw G (cnt σ.bg qy + 1) (τ.letS u (.int σ9.rows.length)) (wls τ.wt) No := I11.exc fun n r l p h1 h2 h3 h4 h5 h6 h7 => by
        obtain ⟨e1, e2⟩ := h7
        have h1' : τ.R[n]? = some r := h1
        rw [e1, hgR] at h1'
        have er := Option.some.inj h1'
        have h3' : (τ.row ++ [u])[p]? = some (-l) := h3
        rw [t_row, r9, e2] at h3'
        have hl9 : (σ.row.take b).length = b := by rw [List.length_take]; (clear hR hlog hroom hrl hbl hb1 hcu hur hBl q_cl q_log rl8 hlB hy2 hy3 hgy hTl hbb bgl9 hqyb hnu huy cl9 lg9 hnu9 t_cl h4 h5 h6 e1 e2; lia)
        refine ⟨u, b, by rw [← er]; exact .inl rfl, ?_, ?_⟩
        · show (τ.row ++ [u])[b]? = some u
          rw [t_row, r9]
          rw [List.getElem?_append_right (by (clear hR hlog hroom hrl hbl hb1 hcu hur hBl q_cl q_log rl8 hlB hy2 hy3 hgy hTl hbb bgl9 hb4 hqyb hnu huy cl9 lg9 hnu9 t_cl h4 h5 h6 e1 e2; lia)), hl9]; simp
        · show cnt τ.bg b ≤ cnt τ.bg p
          rw [t_bg, g9]
          rcases get_app h3' with ⟨_, h3'⟩ | ⟨_, h3'⟩
          · obtain ⟨hpb, hp'⟩ := take_get h3'
            have := pos_inj L.nd hp' hy1
            rw [this, cnt_take L.bgs hb9' hqyb, cnt_at L.bgs hb9']
            exact Nat.le_refl _
          · exact absurd (by rw [← h3', ab_n]) (hur9 y (by simp))
      refine ⟨rfl, ?_⟩
      repeat walk_at "s"
      refine ex_self_f (H0 := H) ?_
      have ms11 : (Loc.set (Loc.set m (PySem.Str.ofString "taught") (.ref T)) (PySem.Str.ofString "taught") (.ref T2)) (PySem.Str.ofString "self") = some (.ref (τ.letS u (.int σ9.rows.length)).x) := ms10
      repeat walk_at "s"
      refine op_fdiv (by decide) (by decide) ?_
      repeat walk_at "s"
      refine ⟨_, (τ.letS u (.int σ9.rows.length)).setGain _, hA11, ms11, (at_gain _ · _), f8.trans (f9.trans (f10.trans f11)), fun H12 hA12 f12 => ?_⟩
      repeat walk_at "s"
      have glen : τ.bg.length = cnt σ.bg qy := by rw [t_bg, g9]; exact bgl9
      rw [← glen] at I12
      refine h1 _ _ hA12 f12 ⟨?_, ?_, ?_, ?_, ?_, ?_, ?_⟩
      · show τ.x = _; rw [t_x, x9, q_x]
      · show τ.refuted = _; rw [t_rf, rf9]
      · exact I12.plain (I12.L.plain rfl rfl rfl rfl rfl rfl rfl rfl) rfl rfl rfl rfl rfl rfl
      · show τ.clashes = _; rw [t_cl, cl9]
      · show τ.rows.length ≤ _; rw [t_rows, n9, List.length_append]; simp
      · show τ.log.length ≤ _; rw [t_lg, lg9]; exact Nat.le_refl _
      · show _ < wgt τ.bg (τ.row ++ [u]).length
        have hl9 : (σ.row.take b).length = b := by rw [List.length_take]; (clear hR hlog hroom hrl hbl hb1 hcu hur hBl q_cl q_log rl8 hlB hy2 hy3 hgy hTl hbb bgl9 hqyb hnu huy cl9 lg9 hnu9 t_cl glen; lia)
        rw [t_bg, g9, t_row, r9, List.length_append, hl9]
        exact wgt_learn L.bgs hb9' hrl hb4 (by (clear hR hlog hroom hb1 hur hBl q_cl q_log rl8 hlB hy2 hy3 hgy hTl hbb hlen9 bgl9 hb4 hqyb hnu huy cl9 lg9 hnu9 t_cl glen hl9; lia))
--T Fw19
section
variable {C : Ctx} {env : Env} {vm m : Loc} {H : AH}
/-- a chain of two comparisons as a test -/
theorem tv_chain2 {l op₁ op₂ r₁ r₂ pos whole Φ} (h : EV C env vm m H (eval l env) (fun a H1 => EV C env vm m H1 (eval r₁ env) (fun b H2 => Op2 C env vm m H2 (compareOp op₁) a b (fun c H3 => TV1 C env vm m H3 truthy c (fun t H4 =>
      if t = true then EV C env vm m H4 (eval r₂ env) (fun d H5 => Op2 C env vm m H5 (compareOp op₂) b d (fun e H6 => TV1 C env vm m H6 truthy e Φ)) else Φ false H4)))))
    (hm : lastMarks [op₁, op₂] [r₁, r₂] = false := by with_unfolding_all rfl) : TV C env vm m H (isTrue (.Compare l [op₁, op₂] [r₁, r₂] pos) env whole) Φ := fun s Q E hs hv hq =>
  isTrue_chain (h s _ E hs hv fun v1 H1 s1 h1 hs1 k1 => test_link (h1 s1 _ E hs1 (hv.step k1) fun v2 H2 s2 h2 hs2 k2 =>
    h2 v1 v2 rfl rfl s2 _ E hs2 ((hv.step k1).step k2) fun v3 H3 s3 h3 hs3 k3 => h3 v3 rfl s3 _ E hs3 (((hv.step k1).step k2).step k3) fun t H4 s4 h4 hs4 k4 => by
      have k14 := k1.trans (k2.trans (k3.trans k4))
      cases t with
      | false =>
        simp only [Bool.false_eq_true, if_false] at h4 ⊢
        exact hq _ H4 s4 h4 hs4 k14
      | true =>
        simp only [if_true] at h4 ⊢
        refine test_last (h4 s4 _ E hs4 (hv.step k14) fun v5 H5 s5 h5 hs5 k5 => h5 v2 v5 rfl rfl s5 _ E hs5 ((hv.step k14).step k5) fun v6 H6 s6 h6 hs6 k6 =>
          h6 v6 rfl s6 Q E hs6 (((hv.step k14).step k5).step k6) fun t7 H7 s7 h7 hs7 k7 => hq _ H7 s7 h7 hs7 (k14.trans (k5.trans (k6.trans k7))))) ) hm
end
local macro_rules | `(tactic| walk_at "s") => `(tactic| first
  | ((with_reducible show TV _ _ _ _ _ (isTrue (Expr.Compare _ [_, _] [_, _] _) _ _) _); refine tv_chain2 ?_))
--T S15

noncomputable def spanAt : Nat → Nat
  | 0 => 16
  | k + 1 => spanAt k + spanAt k / 2
theorem spanAt_big : ∀ k, 13 ≤ k → 2501 ≤ spanAt k
  | 0, h => by lia
  | k + 1, h => by
    by_cases e : k = 12
    · subst e; decide
    · have := spanAt_big k (by lia)
      show 2501 ≤ spanAt k + spanAt k / 2
      (clear h e; lia)
/-- the head of the search's loop: still seeking, refuted, or told -/
inductive Sk (G : List (List Int)) (σ σ1 : Sg) (rst : Int) (k n : Nat) : AV → Prop
  | seek (href : σ1.refuted = false) (I : Iw G (σ1.bg.length + 1) σ1 (wls σ1.wt) No) (hk : k ≤ 13) (hw : σ1.clashes - rst ≤ wgt σ1.bg σ1.row.length) (hn : n = (13 - k) * 2502 + (2501 - wgt σ1.bg σ1.row.length))
      (hr : σ1.rows.length + n ≤ σ.rows.length + 35027) (hl : σ1.log.length + n ≤ σ.log.length + 35027) : Sk G σ σ1 rst k n .none
  | refuted (href : σ1.refuted = true) (e : Ent G []) : Sk G σ σ1 rst k n .none
  | told (I : Iw G (σ1.bg.length + 1) σ1 (wls σ1.wt) No) (hs : σ1.seen = σ1.row.length) (hall : ∀ v, 1 ≤ v → v ≤ 4 → (ilook σ1.kn v).isSome = true) : Sk G σ σ1 rst k n (.bool true)
theorem wgt_top {G c σ f ex} (I : Iw G c σ f ex) : wgt σ.bg σ.row.length ≤ 2500 := by
  have := wgt_le σ.bg σ.row.length
  have := I.L.rowLen
  lia
theorem Lk.blamed {σ : Sg} (L : Lk σ) {d} : Lk (σ.setBlamed d) := L.plain rfl rfl rfl rfl rfl rfl rfl rfl
theorem solve_spec {H : AH} {σ : Sg} {G a t} (hA : At H σ) (hbg : σ.bg = []) (L : Lk σ) (hI : σ.refuted = false → Iw G 1 σ (wls σ.wt) No) (hr : σ.refuted = true → Ent G []) (ha : H a = some (t, .list [])) (ho : t.out = true)
    (hR : σ.rows.length ≤ 1000) (hlog : σ.log.length ≤ 1000) (Φ : AV → AH → Prop) (h0 : ∀ H', Fr0 H H' → Ent G [] → Φ (.bool false) H')
    (h1 : ∀ H' σ', At H' σ' → Fr0 H H' → σ'.x = σ.x → Iw G (σ'.bg.length + 1) σ' (wls σ'.wt) No → σ'.seen = σ'.row.length → (∀ v, 1 ≤ v → v ≤ 4 → (ilook σ'.kn v).isSome = true) → Φ (.bool true) H') : Spec 8 210 [.ref σ.x, .ref a] H Φ := by
  refine spec_plain (fun w => rfl) (fun w => rfl) (binds2 (n1 := "self") (n2 := "assumptions") (fun _ _ => rfl) rfl) (by rfl) (by decide) rfl rfl rfl (fun C hroom hfe hlt => ?_)
  generalize hm : (fun x => List.lookup x _ : Loc) = m
  have ms : m (PySem.Str.ofString "self") = some (.ref σ.x) := by rw [← hm]; rfl
  have ma : m (PySem.Str.ofString "assumptions") = some (.ref a) := by rw [← hm]; rfl
  clear hm
  have hrl := L.rowLen
  have hbl := L.bgLen
  repeat walk_at "s"
  show CV C _ H (.ref 104) [.ref σ.x, .int ((0 : Nat) : Int)] _
  refine back_to_spec (h := 0) hA L _ (fun _ => ?_) (fun b hb => by rw [hbg] at hb; cases hb) _ _ (by (clear hI hr hR hlog hrl hbl; lia))
  refine ⟨rfl, ?_⟩
  repeat walk_at "s"
  refine ex_self_f (H0 := H) ?_
  repeat walk_at "s"
  refine ⟨by simp, fun l hl => ?_⟩
  refine ⟨σ, σ.setBlamed (.ref l), hA.out (.inl hl), by walk_at "loc", (at_blamed σ · _), Fr0.new hl, fun H1 hA1 f1 => ?_⟩
  have ha1 := f1 _ _ _ ha ho
  repeat walk_at "s"
  refine ex_forO ?_
  repeat walk_at "s"
  refine ⟨_, _, src_list ha1, fun i m' H' => m' = m ∧ H' = H1, ⟨rfl, rfl⟩, fun i m2 H2 e => ⟨t, e.2.symm ▸ ha1⟩, fun i v hv => by simp at hv, fun m' H' ⟨e1, e2⟩ => ?_⟩
  subst e1 e2
  refine opqG (fun goalP goalH => ?_)
  obtain ⟨tsp, gsp⟩ := ng_span C.w
  all_goals first | (refine goalH ?_; clear goalH goalP) | skip
  repeat walk_at "s"
  refine ex_tup ?_
  repeat walk_at "s"
  refine ev_globi gsp ?_
  repeat walk_at "s"
  refine ⟨by simp, fun l4 hl4 => ⟨l4, _, _, rfl, AH.set_self, rfl, ?_⟩⟩
  have hA2 := hA1.out (x := (.tmp, .tup [.int σ.clashes, .int σ.clashes, .int 16, .none])) (.inl hl4)
  have f2 := f1.trans (Fr0.new (x := (.tmp, .tup [.int σ.clashes, .int σ.clashes, .int 16, .none])) hl4)
  have ha2 := f2 _ _ _ ha ho
  repeat walk_at "s"
  refine ex_whileO (fun n m2 H2 => ∃ (σ1 : Sg) (rst b : Int) (k : Nat) (told : AV), m2 (PySem.Str.ofString "self") = some (.ref σ1.x) ∧ m2 (PySem.Str.ofString "assumptions") = some (.ref a) ∧ m2 (PySem.Str.ofString "begun") = some (.int b) ∧
      m2 (PySem.Str.ofString "rested") = some (.int rst) ∧ m2 (PySem.Str.ofString "span") = some (.int (spanAt k : Nat)) ∧ m2 (PySem.Str.ofString "told") = some told ∧ At H2 σ1 ∧ Fr0 H H2 ∧ σ1.x = σ.x ∧ Sk G σ σ1 rst k n told)
    (13 * 2502 + (2501 - wgt σ.bg σ.row.length)) ⟨σ.setBlamed (.ref l), σ.clashes, σ.clashes, 0, .none, by walk_at "loc", by walk_at "loc", by walk_at "loc", by walk_at "loc", by walk_at "loc", by walk_at "loc", hA2, f2, rfl, ?_⟩ ?_
  · cases hrf : σ.refuted with
    | true => exact .refuted hrf (hr hrf)
    | false =>
      have I0 := hI hrf
      refine .seek hrf ?_ (by (clear hI hr hR hlog hroom hrl hbl; lia)) ?_ rfl ?_ ?_
      · show Iw G (σ.bg.length + 1) _ _ _
        rw [hbg]
        exact I0.plain L.blamed rfl rfl rfl rfl rfl rfl
      · show σ.clashes - σ.clashes ≤ _; (clear hI hr hR hlog hroom hrl hbl; lia)
      · show σ.rows.length + _ ≤ _; (clear hI hr hR hlog hroom hrl hbl; omega)
      · show σ.log.length + _ ≤ _; (clear hI hr hR hlog hroom hrl hbl; omega)
  clear hA1 hA2 ha1 hA hI hr ha2 f1 f2 ms ma hl hl4
  intro n m2 H2 goalQ
  refine opqG (fun goalP goalH => ?_)
  obtain ⟨σ1, rst, b, k, told, ms, ma, mb, mr, msp, mt, hA, f, hx, hS⟩ := goalQ
  all_goals first | (refine goalH ?_; clear goalH goalP) | skip
  have ha2 := f _ _ _ ha ho
  repeat walk_at "s"
  refine op_is_none ?_ (by cases hS <;> rfl)
  cases hS with
  | told I hs hall =>
    dsimp only [isNone]
    repeat walk_at "s"
    exact h1 H2 σ1 hA f hx I hs hall
  | refuted href he =>
    dsimp only [isNone]
    repeat walk_at "s"
    refine ite_split (fun q => by rw [href] at q; cases q) (fun _ => ?_)
    repeat walk_at "s"
    refine op_eq_nb ?_
    repeat walk_at "s"
    exact h0 H2 f he
  | seek href I hk hw hn hrw hlg =>
    dsimp only [isNone]
    repeat walk_at "s"
    refine ite_split (fun _ => ?_) (fun q => by rw [href] at q; cases q)
    have hwt := wgt_top I
    repeat walk_at "s"
    refine spread_spec hA I (by (clear hlog hroom hrl hbl hk hw hlg hwt; lia)) _ (fun H3 σ2 r hA2 f2 fx hS2 => ?_) _ _ (by (clear hR hlog hrl hbl hk hw hn hrw hlg hwt; lia))
    have f3 := f.trans f2
    have ha3 := f2 _ _ _ ha2 ho
    have hw2 : wgt σ1.bg σ1.row.length ≤ wgt σ2.bg σ2.row.length := by rw [fx.bg]; exact wgt_mono _ fx.row.length_le
    have ms2 := ms
    rw [← fx.x] at ms2
    have hx2 : σ2.x = σ.x := fx.x.trans hx
    clear ms hA f2 f
    repeat walk_at "s"
    refine ite_split (fun hge => ?_) (fun hlt0 => ?_)
    · obtain ⟨n2, rfl, I2, hcl⟩ : ∃ n2 : Nat, r = n2 ∧ Iw G σ2.bg.length σ2 (wls σ2.wt) No ∧ Clash σ2 n2 := hS2.resolve_left (fun q => by rw [q.1] at hge; exact absurd (of_decide_eq_true hge) (by (clear hR hlog hroom hrl hbl hk hw hn hrw hlg hwt hw2 q; omega)))
      have hwt2 := wgt_top I2
      repeat walk_at "s"
      refine learn_spec hA2 I2 hcl (by rw [fx.rows]; (clear hlog hroom hrl hbl hk hw hlg hwt hw2 hwt2; lia)) (by rw [fx.log]; (clear hR hroom hrl hbl hk hw hrw hwt hw2 hwt2; lia)) _ (fun H4 σ3 hA3 f4 hx3 hrf he => ?_) (fun H4 σ3 hA3 f4 hL => ?_) _ _ (by (clear hR hlog hrl hbl hk hw hn hrw hlg hwt hw2 hwt2; lia))
      · refine ⟨rfl, ?_⟩
        rw [← hx3] at ms2
        repeat walk_at "s"
        exact ⟨0, by (clear hR hlog hroom hrl hbl hk hw hrw hlg hw2 hwt2; omega), σ3, rst, b, k, .none, by walk_at "loc", by walk_at "loc", by walk_at "loc", by walk_at "loc", by walk_at "loc", by walk_at "loc", hA3, f3.trans f4, hx3.trans hx2, .refuted hrf he⟩
      · refine ⟨rfl, ?_⟩
        rw [← hL.x] at ms2
        have hw3 := hL.w
        have hwt3 := wgt_top hL.I
        have c3 := hL.clashes
        have r3 := hL.rows
        have l3 := hL.log
        rw [fx.clashes] at c3
        rw [fx.rows] at r3
        rw [fx.log] at l3
        repeat walk_at "s"
        exact ⟨(13 - k) * 2502 + (2501 - wgt σ3.bg σ3.row.length), by (clear hR hlog hroom hrl hbl hk hw hrw hlg hwt2 c3 r3 l3; omega), σ3, rst, b, k, .none, by walk_at "loc", by walk_at "loc", by walk_at "loc", by walk_at "loc", by walk_at "loc", by walk_at "loc", hA3, f3.trans f4, hL.x.trans hx2,
          .seek (by rw [hL.ref, fx.refuted]; exact href) hL.I hk (by (clear hR hlog hroom hrl hbl hk hn hrw hlg hwt hwt2 hwt3 r3 l3; lia)) rfl (by (clear hR hlog hroom hrl hbl hk hw hlg hwt2 c3 l3; lia)) (by (clear hR hlog hroom hrl hbl hk hw hrw hwt2 c3 r3; lia))⟩
    · obtain ⟨hr1, I2, hs2⟩ : r = -1 ∧ Iw G (σ2.bg.length + 1) σ2 (wls σ2.wt) No ∧ σ2.seen = σ2.row.length := hS2.resolve_right (fun ⟨n2, q, _⟩ => by rw [q] at hlt0; exact absurd (of_decide_eq_false hlt0) (by (clear hR hlog hroom hrl hbl hk hw hn hrw hlg hwt hw2; lia)))
      have hwt2 := wgt_top I2
      have hrf2 : σ2.refuted = false := by rw [fx.refuted]; exact href
      repeat walk_at "s"
      repeat walk_at "s"
      refine ite_split (fun q => absurd (of_decide_eq_true q) (by (clear hR hlog hroom hrl hbl hk hw hn hrw hlg hwt hw2 hr1 hs2 hwt2; omega))) (fun _ => ?_)
      repeat walk_at "s"
      refine ite_split (fun hge => ?_) (fun hlt1 => ?_)
      · have hge' : (spanAt k : Int) ≤ σ2.clashes - rst := of_decide_eq_true hge
        have hk12 : k ≤ 12 := by
          apply Nat.le_of_not_lt; intro q
          have := spanAt_big k (by (clear hR hlog hroom hrl hbl hw hn hrw hlg hwt hw2 hr1 hs2 hwt2 hge'; lia))
          rw [fx.clashes] at hge'
          (clear hR hlog hroom hrl hbl hk hn hrw hlg hwt hr1 hs2 q; lia)
        repeat walk_at "s"
        refine ex_tupS (names := [PySem.Str.ofString "rested", PySem.Str.ofString "span"]) ?_
        repeat walk_at "s"
        refine op_fdiv (by decide) (by decide) ?_
        repeat walk_at "s"
        refine ⟨by simp, fun l4 hl4 => ⟨l4, _, _, rfl, AH.set_self, rfl, ?_⟩⟩
        have hsp : ((spanAt k : Nat) : Int) + ((spanAt k : Nat) : Int).fdiv 2 = ((spanAt (k + 1) : Nat) : Int) := by
          show _ = ((spanAt k + spanAt k / 2 : Nat) : Int)
          rw [Int.fdiv_eq_ediv_of_nonneg _ (by (clear hR hlog hroom hrl hbl hk hw hn hrw hlg hwt hw2 hr1 hs2 hwt2 hge' hk12; lia))]
          (clear hR hlog hroom hrl hbl hk hw hn hrw hlg hwt hw2 hr1 hs2 hwt2 hge' hk12; lia)
        rw [hsp]
        have hA4 := hA2.out (x := (.tmp, .tup [.int σ2.clashes, .int (spanAt (k + 1) : Nat)])) (.inl hl4)
        have f4 := f3.trans (Fr0.new (x := (.tmp, .tup [.int σ2.clashes, .int (spanAt (k + 1) : Nat)])) hl4)
        show AS _ _ _ (H3.set l4 (.tmp, .tup [.int σ2.clashes, .int (spanAt (k + 1) : Nat)])) [bindName _ _, bindName _ _] [_, _] _
        generalize H3.set l4 (.tmp, .tup [.int σ2.clashes, .int (spanAt (k + 1) : Nat)]) = H4 at *
        clear hA2 f3 ha3
        repeat walk_at "s"
        show CV C _ H4 (.ref 104) [.ref σ2.x, .int ((0 : Nat) : Int)] _
        refine back_to_spec (h := 0) hA4 I2.L _ (fun hle => ?_) (fun b0 hb0 l5 kn5 lk5 H5 k5 d1 b1 d2 b2 hA5 f5 => ?_) _ _ (by (clear hR hlog hrl hbl hk hw hn hrw hlg hwt hw2 hr1 hs2 hwt2 hge' hk12 hsp; lia))
        · refine ⟨rfl, ?_⟩
          repeat walk_at "s"
          exact ⟨(13 - (k + 1)) * 2502 + (2501 - wgt σ2.bg σ2.row.length), by (clear hR hlog hroom hrl hbl hw hrw hlg hr1 hs2 hge' hsp hle; lia), σ2, σ2.clashes, b, k + 1, .none, by walk_at "loc", by walk_at "loc", by walk_at "loc", by walk_at "loc", by walk_at "loc", by walk_at "loc", hA4, f4, hx2,
            .seek hrf2 I2 (by (clear hR hlog hroom hrl hbl hw hn hrw hlg hwt hw2 hr1 hs2 hwt2 hge' hsp hle; lia)) (by (clear hR hlog hroom hrl hbl hk hw hn hrw hlg hwt hw2 hr1 hs2 hge' hk12 hsp hle; lia)) rfl (by rw [fx.rows]; (clear hR hlog hroom hrl hbl hw hlg hr1 hs2 hge' hsp hle; lia)) (by rw [fx.log]; (clear hR hlog hroom hrl hbl hw hrw hr1 hs2 hge' hsp hle; lia))⟩
        · have I5 := I2.back (l := l5) hb0 (by (clear hR hlog hroom hrl hbl hk hw hn hrw hlg hwt hw2 hr1 hs2 hwt2 hge' hk12 hsp; lia)) k5 d1 b1 d2 b2
          have hwt5 := wgt_top I5
          have q_x : (σ2.back l5 b0 0 kn5 lk5).x = σ2.x := rfl
          have q_bg : (σ2.back l5 b0 0 kn5 lk5).bg = [] := rfl
          have q_rows : (σ2.back l5 b0 0 kn5 lk5).rows = σ2.rows := rfl
          have q_log : (σ2.back l5 b0 0 kn5 lk5).log = σ2.log := rfl
          have q_wt : (σ2.back l5 b0 0 kn5 lk5).wt = σ2.wt := rfl
          have q_ref : (σ2.back l5 b0 0 kn5 lk5).refuted = σ2.refuted := rfl
          have q_cl : (σ2.back l5 b0 0 kn5 lk5).clashes = σ2.clashes := rfl
          rw [← q_wt] at I5
          generalize σ2.back l5 b0 0 kn5 lk5 = σ5 at *
          rw [← q_x] at ms2
          refine ⟨rfl, ?_⟩
          repeat walk_at "s"
          exact ⟨(13 - (k + 1)) * 2502 + (2501 - wgt σ5.bg σ5.row.length), by (clear hR hlog hroom hrl hbl hw hrw hlg hw2 hr1 hs2 hwt2 hge' hsp q_cl; lia), σ5, σ2.clashes, b, k + 1, .none, by walk_at "loc", by walk_at "loc", by walk_at "loc", by walk_at "loc", by walk_at "loc", by walk_at "loc", hA5, f4.trans f5, q_x.trans hx2,
            .seek (q_ref.trans hrf2) (by rw [q_bg]; exact I5) (by (clear hR hlog hroom hrl hbl hw hn hrw hlg hwt hw2 hr1 hs2 hwt2 hge' hsp hwt5 q_cl; lia)) (by rw [q_cl]; (clear hR hlog hroom hrl hbl hk hw hn hrw hlg hwt hw2 hr1 hs2 hwt2 hge' hk12 hsp q_cl; lia)) rfl (by rw [q_rows, fx.rows]; (clear hR hlog hroom hrl hbl hw hlg hw2 hr1 hs2 hwt2 hge' hsp q_cl; lia)) (by rw [q_log, fx.log]; (clear hR hlog hroom hrl hbl hw hrw hw2 hr1 hs2 hwt2 hge' hsp q_cl; lia))⟩
      · repeat walk_at "s"
        refine decide_spec hA2 I2 hs2 ha3 ho _ (fun H4 e4 hall => ?_) (fun H4 i hA4 f4 hi1 hi4 hin => ?_) _ _ (by (clear hR hlog hrl hbl hk hw hn hrw hlg hwt hw2 hr1 hs2 hwt2; lia))
        · repeat walk_at "s"
          exact ⟨0, by (clear hR hlog hroom hrl hbl hk hw hrw hlg hw2 hr1 hs2 hwt2; omega), σ2, rst, b, k, .bool true, by walk_at "loc", by walk_at "loc", by walk_at "loc", by walk_at "loc", by walk_at "loc", by walk_at "loc", e4.at hA2, f3.trans e4.fr, hx2, .told I2 hs2 hall⟩
        · have I4 := I2.decS hs2 hi1 hi4 hin (Nat.le_refl _)
          have hwt4 := wgt_top I4
          have hwd := wgt_dec (bg := σ2.bg) (n := σ2.row.length)
          have q_x : (σ2.decS i).x = σ2.x := rfl
          have q_bg : (σ2.decS i).bg = σ2.bg ++ [σ2.row.length] := rfl
          have q_row : (σ2.decS i).row.length = σ2.row.length + 1 := by show (σ2.row ++ [i]).length = _; simp
          have q_rows : (σ2.decS i).rows = σ2.rows := rfl
          have q_log : (σ2.decS i).log = σ2.log := rfl
          have q_wt : (σ2.decS i).wt = σ2.wt := rfl
          have q_ref : (σ2.decS i).refuted = σ2.refuted := rfl
          have q_cl : (σ2.decS i).clashes = σ2.clashes := rfl
          rw [← q_bg, ← q_row] at hwd
          rw [← q_wt] at I4
          have q_bl : (σ2.decS i).bg.length = σ2.bg.length + 1 := by rw [q_bg]; simp
          rw [← q_bl] at I4
          generalize σ2.decS i = σ5 at *
          rw [← q_x] at ms2
          repeat walk_at "s"
          exact ⟨(13 - k) * 2502 + (2501 - wgt σ5.bg σ5.row.length), by (clear hR hlog hroom hrl hbl hk hw hrw hlg hr1 hs2 hwt2 hi1 hi4 hin q_row q_cl q_bl; omega), σ5, rst, b, k, .none, by walk_at "loc", by walk_at "loc", by walk_at "loc", by walk_at "loc", by walk_at "loc", by walk_at "loc", hA4, f3.trans f4, q_x.trans hx2,
            .seek (q_ref.trans hrf2) I4 hk (by rw [q_cl, fx.clashes]; (clear hR hlog hroom hrl hbl hk hn hrw hlg hwt hr1 hs2 hwt2 hi1 hi4 hin hwt4 q_row q_cl q_bl; lia)) rfl (by rw [q_rows, fx.rows]; (clear hR hlog hroom hrl hbl hk hw hlg hr1 hs2 hwt2 hi1 hi4 hin q_row q_cl q_bl; omega)) (by rw [q_log, fx.log]; (clear hR hlog hroom hrl hbl hk hw hrw hr1 hs2 hwt2 hi1 hi4 hin q_row q_cl q_bl; omega))⟩
--T Fw20
section
open PyProof.V PySem.Spec
/-- a value that reads as data, of depth n at most -/
noncomputable def PD (H : AH) (n : Nat) (a : AV) (d : PyData) : Prop := (∀ (C : Ctx) m s v, St C m H s → er v = a → ∃ as, Reads s.heap v d as) ∧ d.canLay0 = true ∧ d.depth ≤ n
noncomputable def PDs (H : AH) (n : Nat) (vs : List AV) (ds : List PyData) : Prop := (∀ (C : Ctx) m s (its : List Value), St C m H s → its.map er = vs → ∃ as, ReadsAll s.heap its ds as) ∧ PyData.canLayAll0 ds = true ∧ PyData.depthAll ds ≤ n
section
variable {H : AH} {n : Nat}
theorem PD.none : PD H n .none .none := ⟨fun C m s v _ e => by obtain rfl := er_none e; exact ⟨_, .none⟩, rfl, Nat.zero_le _⟩
theorem PD.bool {b} : PD H n (.bool b) (.bool b) := ⟨fun C m s v _ e => by obtain rfl := er_bool e; exact ⟨_, .bool b⟩, rfl, Nat.zero_le _⟩
theorem PD.int {i} : PD H n (.int i) (.int i) := ⟨fun C m s v _ e => by obtain ⟨t, rfl⟩ := er_int e; exact ⟨_, .int i t⟩, rfl, Nat.zero_le _⟩
theorem PDs.nil : PDs H n [] [] := ⟨fun C m s its _ e => by
  obtain rfl : its = [] := by simpa using e
  exact ⟨_, .nil⟩, rfl, Nat.zero_le _⟩
theorem PDs.cons {a d vs ds} (h : PD H n a d) (k : PDs H n vs ds) : PDs H n (a :: vs) (d :: ds) := ⟨fun C m s its hs e => by
  cases its with
  | nil => cases e
  | cons v r =>
    simp only [List.map_cons, List.cons.injEq] at e
    obtain ⟨as, ra⟩ := h.1 C m s v hs e.1
    obtain ⟨bs, rb⟩ := k.1 C m s r hs e.2
    exact ⟨_, .cons ra rb⟩, by simp [PyData.canLayAll0, h.2.1, k.2.1], by simp only [PyData.depthAll]; exact Nat.max_le.mpr ⟨h.2.2, k.2.2⟩⟩
theorem PD.list {l t vs ds} (hH : H l = some (t, .list vs)) (h : PDs H n vs ds) : PD H (n + 1) (.ref l) (.list ds) := ⟨fun C m s v hs e => by
  obtain rfl := er_ref e
  obtain ⟨its, k, e0, hm, _, _⟩ := hs.listAt hH
  obtain ⟨as, r⟩ := h.1 C m s its hs hm
  exact ⟨_, .list e0 rfl rfl r⟩, by simp only [PyData.canLay0]; exact h.2.1, by simp only [PyData.depth]; have := h.2.2; lia⟩
theorem PD.tup {l t vs ds} (hH : H l = some (t, .tup vs)) (h : PDs H n vs ds) : PD H (n + 1) (.ref l) (.tuple ds) := ⟨fun C m s v hs e => by
  obtain rfl := er_ref e
  obtain ⟨its, k, e0, hm, _⟩ := hs.tupAt hH
  obtain ⟨as, r⟩ := h.1 C m s its hs hm
  exact ⟨_, .tuple e0 rfl rfl r⟩, by simp only [PyData.canLay0]; exact h.2.1, by simp only [PyData.depth]; have := h.2.2; lia⟩
theorem PDs.ints : ∀ ns : List Int, PDs H n (ns.map .int) (ns.map .int)
  | [] => .nil
  | _ :: r => .cons .int (PDs.ints r)
theorem PD.ilist {l t} {ns : List Int} (hH : H l = some (t, .list (ns.map .int))) : PD H (n + 1) (.ref l) (.list (ns.map .int)) := .list hH (.ints ns)
theorem PD.ituple {l t} {ns : List Int} (hH : H l = some (t, .tup (ns.map .int))) : PD H (n + 1) (.ref l) (.tuple (ns.map .int)) := .tup hH (.ints ns)
theorem PD.shaped {a d} (h : PD H n a d) (hn : n ≤ 64) : SeqAt.shaped d = true := by
  unfold SeqAt.shaped
  rw [h.2.1, decide_eq_true (Nat.le_trans h.2.2 hn)]; rfl
end
section
variable {C : Ctx} {env : Env} {vm m : Loc} {H : AH}
theorem op_eqd {a b da db Φ n} (pa : PD H n a da) (pb : PD H n b db) (hn : n ≤ 64) (h : Φ (.bool (PyData.eqv da db)) H) : Op2 C env vm m H (compareOp .Eq) a b Φ := fun v1 v2 e1 e2 s Q E hs _ hq => by
  obtain ⟨as, ra⟩ := pa.1 C m s v1 hs e1
  obtain ⟨bs, rb⟩ := pb.1 C m s v2 hs e2
  exact eq_dataH ra rb (pa.shaped hn) (pb.shaped hn) (by have := C.hu; (clear hn h; lia)) (hq _ H s h hs .refl)
theorem op_ned {a b da db Φ n} (pa : PD H n a da) (pb : PD H n b db) (hn : n ≤ 64) (h : Φ (.bool (!PyData.eqv da db)) H) : Op2 C env vm m H (compareOp .NotEq) a b Φ := fun v1 v2 e1 e2 s Q E hs _ hq => by
  obtain ⟨as, ra⟩ := pa.1 C m s v1 hs e1
  obtain ⟨bs, rb⟩ := pb.1 C m s v2 hs e2
  exact ne_dataH ra rb (pa.shaped hn) (pb.shaped hn) (by have := C.hu; (clear hn h; lia)) (hq _ H s h hs .refl)
theorem canAll_of {xs : List PyData} (h : (PyData.list xs).canLay0 = true) : PyData.canLayAll0 xs = true := by simpa [PyData.canLay0] using h
theorem op_ind {a b d xs Φ n} (pa : PD H 1 a d) (pb : PD H n b (.list xs)) (h : Φ (.bool (xs.any fun y => PyData.eqv y d)) H) : Op2 C env vm m H (compareOp .In) a b Φ := fun v1 v2 e1 e2 s Q E hs _ hq => by
  obtain ⟨as, ra⟩ := pa.1 C m s v1 hs e1
  obtain ⟨bs, rb⟩ := pb.1 C m s v2 hs e2
  exact PySem.SeqAt.in_list_reads rb ra (canAll_of pb.2.1) pa.2.1 (by have := C.hu; have := pa.2.2; have := Nat.min_le_right (PyData.depthAll xs) d.depth; lia) (hq _ H s h hs .refl)
theorem op_notind {a b d xs Φ n} (pa : PD H 1 a d) (pb : PD H n b (.list xs)) (h : Φ (.bool (!xs.any fun y => PyData.eqv y d)) H) : Op2 C env vm m H (compareOp .NotIn) a b Φ := fun v1 v2 e1 e2 s Q E hs _ hq => by
  obtain ⟨as, ra⟩ := pa.1 C m s v1 hs e1
  obtain ⟨bs, rb⟩ := pb.1 C m s v2 hs e2
  exact PySem.SeqAt.notIn_list_reads rb ra (canAll_of pb.2.1) pa.2.1 (by have := C.hu; have := pa.2.2; have := Nat.min_le_right (PyData.depthAll xs) d.depth; lia) (hq _ H s h hs .refl)
theorem op_not {a Φ} (h : TV1 C env vm m H truthy a (fun b H' => Φ (.bool (!b)) H')) : Op1 C env vm m H (unaryOp .Not) a Φ := fun v1 e1 s Q E hs hv hq =>
  PyProof.Rows.not_of (h v1 e1 s _ E hs hv fun b H' s' p hs' k => hq _ H' s' p hs' k)
end
theorem eqv_ints (ns ms : List Int) : PyData.eqv (.list (ns.map .int)) (.list (ms.map .int)) = decide (ns = ms) := by rw [PyData.eqv, ked_eqvAll]
theorem eqv_intsT (ns ms : List Int) : PyData.eqv (.tuple (ns.map .int)) (.tuple (ms.map .int)) = decide (ns = ms) := by rw [PyData.eqv, ked_eqvAll]
/-- none, or a tuple of ints -/
noncomputable def od : Option (List Int) → PyData | none => .none | some l => .tuple (l.map .int)
theorem eqv_od (a b : Option (List Int)) : PyData.eqv (od a) (od b) = decide (a = b) := by
  cases a <;> cases b <;> simp [od, PyData.eqv, ked_eqvAll]
theorem eqvAll_od : ∀ a b : List (Option (List Int)), PyData.eqvAll (a.map od) (b.map od) = decide (a = b)
  | [], [] => by simp [PyData.eqvAll]
  | [], _ :: _ => by simp [PyData.eqvAll]
  | _ :: _, [] => by simp [PyData.eqvAll]
  | a :: r, b :: t => by
    simp only [List.map_cons, PyData.eqvAll, eqv_od, eqvAll_od r t]
    by_cases h : a = b <;> by_cases h' : r = t <;> simp [h, h']
theorem eqv_ods (a b : List (Option (List Int))) : PyData.eqv (.list (a.map od)) (.list (b.map od)) = decide (a = b) := by rw [PyData.eqv, eqvAll_od]
/-- a value that stands for none or a tuple of ints -/
noncomputable def Od (H : AH) (a : AV) (o : Option (List Int)) : Prop := match o with | none => a = .none | some l => ∃ x t, a = .ref x ∧ H x = some (t, .tup (l.map .int))
theorem Od.pd {H a o n} (h : Od H a o) : PD H (n + 1) a (od o) := by
  cases o with
  | none => rw [show a = .none from h]; exact .none
  | some l => obtain ⟨x, t, rfl, e⟩ := h; exact PD.ituple e
theorem Od.ext {H H' : AH} {a o} (h : Od H a o) (e : Ext H H') : Od H' a o := by
  cases o with
  | none => exact h
  | some l => obtain ⟨x, t, r, q⟩ := h; exact ⟨x, t, r, e _ _ q⟩
/-- a list of such -/
noncomputable def Ods (H : AH) (vs : List AV) (os : List (Option (List Int))) : Prop := vs.length = os.length ∧ ∀ (i : Nat) a o, vs[i]? = some a → os[i]? = some o → Od H a o
theorem Ods.pds {H n} : ∀ {vs os}, Ods H vs os → PDs H (n + 1) vs (os.map od)
  | [], [], _ => .nil
  | a :: vs, o :: os, h => .cons ((h.2 0 a o rfl rfl).pd) (Ods.pds ⟨by simpa using h.1, fun i b p e q => h.2 (i + 1) b p e q⟩)
  | [], _ :: _, h => by cases h.1
  | _ :: _, [], h => by cases h.1
theorem Ods.ext {H H' : AH} {vs os} (h : Ods H vs os) (e : Ext H H') : Ods H' vs os := ⟨h.1, fun i a o p q => (h.2 i a o p q).ext e⟩
theorem Ods.nil {H} : Ods H [] [] := ⟨rfl, fun i a o e => by cases i <;> cases e⟩
theorem Ods.snoc {H vs os a o} (h : Ods H vs os) (k : Od H a o) : Ods H (vs ++ [a]) (os ++ [o]) := ⟨by simp [h.1], fun i b p e q => by
  by_cases hi : i < vs.length
  · rw [List.getElem?_append_left hi] at e
    rw [List.getElem?_append_left (by rw [← h.1]; exact hi)] at q
    exact h.2 i b p e q
  · have hl := (List.getElem?_eq_some_iff.mp e).1
    rw [List.length_append, List.length_singleton] at hl
    have : i = vs.length := by lia
    subst this
    have e1 : b = a := by simpa using e.symm
    have e2 : p = o := by rw [h.1] at q; simpa using q.symm
    rw [e1, e2]; exact k⟩
end
--T P7
theorem Ent.mono {G G' c} (h : Ent G c) (s : ∀ g ∈ G, g ∈ G') : Ent G' c := fun M hM => h M fun g hg => hM g (s g hg)
theorem Ent.self {G g c} (s : ∀ l ∈ g, l ∈ c) : Ent (G ++ [g]) c := fun M hM => by
  obtain ⟨l, hl, e⟩ := hM g (by simp)
  exact ⟨l, s l hl, e⟩
theorem sub_app {G : List (List Int)} {g} : ∀ x ∈ G, x ∈ G ++ [g] := fun x hx => List.mem_append_left _ hx
/-- a clause is met already, or needs nothing -/
theorem Iw.grow {G c σ f ex} (I : Iw G c σ f ex) {g} (hc : (∃ l, l ∈ g ∧ -l ∈ g) ∨ (∃ l ∈ g, ∃ p, σ.row[p]? = some l ∧ cnt σ.bg p = 0) ∨ (∃ r ∈ σ.R, ∀ l ∈ r, l ∈ g)) : Iw (G ++ [g]) c σ f ex :=
  ⟨I.L, I.ro, I.wm, I.dk, I.wi, I.rs, fun r hr => (I.er r hr).mono sub_app, fun p l hp h0 => (I.e0 p l hp h0).mono sub_app, fun x hx => by
    rcases List.mem_append.mp hx with hx | hx
    · exact I.cv x hx
    · rw [List.mem_singleton.mp hx]; exact hc⟩
/-- a clause with one literal left -/
theorem Iw.unit {G c σ f ex} (I : Iw G c σ f ex) (hbg : σ.bg = []) {g} {i : Int} (h1 : 1 ≤ ab i) (h2 : ab i ≤ 4) (hn : ab i ∉ σ.row.map ab) (hi : i ∈ g) (he : Ent (G ++ [g]) [i]) : Iw (G ++ [g]) c (σ.letS i .none) f ex := by
  refine Iw.of (row := σ.row ++ [i]) (bg := σ.bg) (rows := σ.rows) (seen := σ.seen) (cs := istore σ.cs (ab i) .none) (wt := σ.wt) rfl rfl rfl rfl rfl rfl (I.L.letS h1 h2 hn (.inl rfl)) I.ro I.wm I.dk (fun n r l p hr hw hp hs hcn hx => ?_) (fun p l hp => ?_) (fun r hr => (I.er r hr).mono sub_app) (fun p l hp h0 => ?_) (fun x hx => ?_)
  · rcases get_app hp with ⟨_, hp''⟩ | ⟨e, _⟩
    · obtain ⟨l', q, a1, a2, a3⟩ := I.wi n r l p hr hw hp'' hs hcn hx
      exact ⟨l', q, a1, app_get a2, a3⟩
    · have := I.L.sl
      (clear h1 h2 hn hcn hx; omega)
  · rw [ilook_istore]
    rcases get_app hp with ⟨hlt, hp'⟩ | ⟨rfl, rfl⟩
    · have hne : ab l ≠ ab i := fun e => hn (by rw [← e]; exact List.mem_map_of_mem (List.mem_of_getElem? hp'))
      rw [if_neg hne]
      refine ⟨(I.rs p l hp').1, fun n hn' => ?_⟩
      obtain ⟨r, a1, a2, a3⟩ := (I.rs p l hp').2 n hn'
      refine ⟨r, a1, a2, fun l' b1 b2 => ?_⟩
      obtain ⟨q, b3, b4⟩ := a3 l' b1 b2
      exact ⟨q, b3, app_get b4⟩
    · rw [if_pos rfl]
      refine ⟨fun _ => ?_, fun n hn' => by cases hn'⟩
      left; rw [hbg]; rfl
  · rcases get_app hp with ⟨hlt, hp'⟩ | ⟨rfl, rfl⟩
    · exact (I.e0 p l hp' h0).mono sub_app
    · exact he
  · rcases List.mem_append.mp hx with hx | hx
    · rcases I.cv x hx with h | ⟨l, hl, p, hp, h0⟩ | h
      · exact .inl h
      · exact .inr (.inl ⟨l, hl, p, app_get hp, h0⟩)
      · exact .inr (.inr h)
    · rw [List.mem_singleton.mp hx]
      exact .inr (.inl ⟨i, hi, σ.row.length, by simp, by rw [hbg]; rfl⟩)
/-- a clause is kept as a row -/
theorem Iw.addG {G c σ} (I : Iw G c σ (wls σ.wt) No) {g} {l : Addr} {x y : Int} {rest : List Int} {wt} (ok : RowOk (x :: y :: rest)) (en : Ent (G ++ [g]) (x :: y :: rest)) (sub : ∀ z ∈ x :: y :: rest, z ∈ g) (dk : DK (-4) 4 (wkv wt))
    (hw : ∀ j, wls wt j = if j = x ∨ j = y then wls σ.wt j ++ [σ.rows.length] else wls σ.wt j) (hx : -x ∉ σ.row) (hy : -y ∉ σ.row) :
    Iw (G ++ [g]) c ((σ.addRow l (x :: y :: rest)).setWt wt) (wls wt) No := by
  have hRl : σ.R.length = σ.rows.length := by unfold Sg.R; rw [List.length_map]
  have eR : (σ.rows ++ [(l, x :: y :: rest)]).map (·.2) = σ.R ++ [x :: y :: rest] := by rw [List.map_append]; rfl
  have getR : ∀ {n : Nat} {r : List Int}, (σ.R ++ [x :: y :: rest])[n]? = some r → (n < σ.rows.length ∧ σ.R[n]? = some r) ∨ (n = σ.rows.length ∧ r = x :: y :: rest) := fun {n r} h => by
    by_cases hn : n < σ.R.length
    · rw [List.getElem?_append_left hn] at h; exact .inl ⟨by (clear hx hy; lia), h⟩
    · have hl := (List.getElem?_eq_some_iff.mp h).1
      rw [List.length_append, List.length_singleton] at hl
      have : n = σ.R.length := by (clear hx hy; lia)
      subst this
      refine .inr ⟨hRl, ?_⟩
      simpa using h.symm
  have putR : ∀ {n : Nat} {r : List Int}, σ.R[n]? = some r → (σ.R ++ [x :: y :: rest])[n]? = some r := fun {n r} h => by
    rw [List.getElem?_append_left (List.getElem?_eq_some_iff.mp h).1]; exact h
  have newR : (σ.R ++ [x :: y :: rest])[σ.rows.length]? = some (x :: y :: rest) := by rw [← hRl]; simp
  have lt_of : ∀ {n l}, n ∈ wls σ.wt l → n < σ.rows.length := fun {n l} hn => by
    obtain ⟨r, hr, _⟩ := ((I.wm l).2 n).mp hn
    have := (List.getElem?_eq_some_iff.mp hr).1; (clear hx hy; lia)
  refine Iw.of (row := σ.row) (bg := σ.bg) (rows := σ.rows ++ [(l, x :: y :: rest)]) (seen := σ.seen) (cs := σ.cs) (wt := wt) rfl rfl rfl rfl rfl rfl I.L.addRow.setWt ?_ ?_ dk ?_ ?_ ?_ (fun p l hp h0 => (I.e0 p l hp h0).mono sub_app) ?_
  · rw [eR]; intro r hr
    rcases List.mem_append.mp hr with hr | hr
    · exact I.ro r hr
    · rw [List.mem_singleton.mp hr]; exact ok
  · rw [eR]; intro j
    rw [hw]
    have nd0 := (I.wm j).1
    by_cases hj : j = x ∨ j = y
    · rw [if_pos hj]
      refine ⟨?_, fun n => ?_⟩
      · rw [List.nodup_append]
        exact ⟨nd0, by simp, fun a ha b hb e => by rw [List.mem_singleton.mp hb] at e; have := lt_of ha; (clear hx hy hRl hj; lia)⟩
      · rw [List.mem_append, List.mem_singleton]
        constructor
        · rintro (hn | rfl)
          · obtain ⟨r, hr, hwd⟩ := ((I.wm j).2 n).mp hn
            exact ⟨r, putR hr, hwd⟩
          · exact ⟨_, newR, wd_cons.mpr hj⟩
        · rintro ⟨r, hr, hwd⟩
          rcases getR hr with ⟨_, hr⟩ | ⟨e, _⟩
          · exact .inl (((I.wm j).2 n).mpr ⟨r, hr, hwd⟩)
          · exact .inr e
    · rw [if_neg hj]
      refine ⟨nd0, fun n => ?_⟩
      rw [(I.wm j).2 n]
      constructor
      · rintro ⟨r, hr, hwd⟩; exact ⟨r, putR hr, hwd⟩
      · rintro ⟨r, hr, hwd⟩
        rcases getR hr with ⟨_, hr⟩ | ⟨_, rfl⟩
        · exact ⟨r, hr, hwd⟩
        · exact absurd (wd_cons.mp hwd) hj
  · rw [eR]; intro n r j p hr hwd hp hs hcn hex
    rcases getR hr with ⟨_, hr⟩ | ⟨rfl, rfl⟩
    · exact I.wi n r j p hr hwd hp hs hcn id
    · rcases wd_cons.mp hwd with rfl | rfl
      · exact absurd (List.mem_of_getElem? hp) hx
      · exact absurd (List.mem_of_getElem? hp) hy
  · rw [eR]; intro p j hp
    refine ⟨(I.rs p j hp).1, fun n hn => ?_⟩
    obtain ⟨r, a1, a2⟩ := (I.rs p j hp).2 n hn
    exact ⟨r, putR a1, a2⟩
  · rw [eR]; intro r hr
    rcases List.mem_append.mp hr with hr | hr
    · exact (I.er r hr).mono sub_app
    · rw [List.mem_singleton.mp hr]; exact en
  · rw [eR]; intro q hq
    rcases List.mem_append.mp hq with hq | hq
    · rcases I.cv q hq with h1 | h1 | ⟨r, hr, hs⟩
      · exact .inl h1
      · exact .inr (.inl h1)
      · exact .inr (.inr ⟨r, List.mem_append_left _ hr, hs⟩)
    · rw [List.mem_singleton.mp hq]
      exact .inr (.inr ⟨_, by simp, sub⟩)

/-- a search at height 0, given the rows G -/
structure Adc (G : List (List Int)) (σ : Sg) : Prop where
  bg : σ.bg = []
  L : Lk σ
  I : σ.refuted = false → Iw G 1 σ (wls σ.wt) No
  e : σ.refuted = true → Ent G []
theorem Iw.low {G c σ f ex} (I : Iw G c σ f ex) (hbg : σ.bg = []) {l : Int} (h : l ∈ σ.row) : Ent G [l] := by
  obtain ⟨p, hp⟩ := List.getElem?_of_mem h
  exact I.e0 p l hp (by rw [hbg]; rfl)
/-- what a search that has ended in a choice for each variable tells -/
theorem Iw.model {G σ f} (I : Iw G (σ.bg.length + 1) σ f No) (hs : σ.seen = σ.row.length) (hall : ∀ v, 1 ≤ v → v ≤ 4 → (ilook σ.kn v).isSome = true) (nz : ∀ g ∈ G, ∀ l ∈ g, 1 ≤ ab l ∧ ab l ≤ 4) {M : Int → Bool} (hM : ∀ v, 1 ≤ v → v ≤ 4 → ilook σ.kn v = some (.bool (M v))) : ∀ g ∈ G, Sat M g := by
  have L := I.L
  have tru : ∀ l ∈ σ.row, lit M l = true := fun l hl => by
    have hr := L.rng l hl
    have h1 := L.kn.of_mem L.nd hr.1 hl
    rw [hM _ hr.1 hr.2] at h1
    have h2 : M (ab l) = decide (0 < l) := by injection (Option.some.inj h1)
    unfold lit
    by_cases h0 : 0 < l
    · rw [if_pos h0]
      have : ab l = l := by unfold ab; rw [if_neg (by (clear hs hr; lia))]
      rw [this, decide_eq_true h0] at h2; exact h2
    · rw [if_neg h0]
      have hz := ab_zero hr.1
      have : ab l = -l := by unfold ab; rw [if_pos (by (clear hs hr; lia))]
      rw [this, decide_eq_false h0] at h2; rw [h2]; rfl
  have has : ∀ l, 1 ≤ ab l → ab l ≤ 4 → l ∈ σ.row ∨ -l ∈ σ.row := fun l h1 h4 => by
    have h2 := hall (ab l) h1 h4
    rw [L.kn (ab l) h1] at h2
    have h3 : ab l ∈ σ.row ∨ -(ab l) ∈ σ.row := by
      by_cases q : ab l ∈ σ.row
      · exact .inl q
      · rw [if_neg q] at h2
        by_cases q2 : -(ab l) ∈ σ.row
        · exact .inr q2
        · rw [if_neg q2] at h2; cases h2
    unfold ab at h3
    split at h3
    · rw [Int.neg_neg] at h3; exact h3.symm
    · exact h3
  intro g hg
  rcases I.cv g hg with ⟨l, h1, h2⟩ | ⟨l, hl, p, hp, _⟩ | ⟨r, hr, hsub⟩
  · have hr := nz g hg l h1
    have := ab_zero hr.1
    cases q : lit M l with
    | true => exact ⟨l, h1, q⟩
    | false => exact ⟨-l, h2, by rw [lit_neg this, q]; rfl⟩
  · exact ⟨l, hl, tru l (List.mem_of_getElem? hp)⟩
  · obtain ⟨n, hn⟩ := List.getElem?_of_mem hr
    have ok := I.ro r hr
    match r, ok.1, hn, hsub, ok with
    | x :: y :: rest, _, hn, hsub, ok =>
      have hx := ok.2.1 x (by simp)
      rcases has x hx.1 hx.2 with q | q
      · exact ⟨x, hsub x (by simp), tru x q⟩
      · obtain ⟨p, hp⟩ := List.getElem?_of_mem q
        obtain ⟨l', q', w1, w2, _⟩ := I.wi n _ x p hn (wd_cons.mpr (.inl rfl)) hp (by rw [hs]; exact (List.getElem?_eq_some_iff.mp hp).1) (Nat.lt_succ_of_le (cnt_le _ _)) id
        exact ⟨l', hsub l' w1.mem, tru l' (List.mem_of_getElem? w2)⟩
--T Fw21
section
variable {C : Ctx} {env : Env} {vm m : Loc} {H : AH} {s : Shared}
/-- y = [a list comprehension]: the store comes before the variables are let go -/
theorem ex_comp {elt iter : Expr} {y : Str} {yp : Pos} {x : Str} {xp : Pos} {ifs : List Expr} {scope : Scope} {pos spos : Pos} {Φ} (cl : List (Str × Addr)) (hclos : closureFor scope env = pure cl)
    (h : EV C env m m H (eval iter env) (fun v H1 => ∃ items Inv, Src C H1 v items Inv ∧ items.length ≤ 1048576 ∧ ∃ J : Nat → List AV → AH → Prop, J 0 [] H1 ∧ (∀ i out H', J i out H' → Inv H') ∧
      (∀ i a, items[i]? = some a → ∀ out H', J i out H' → ∀ D, D ≠ C.L →
        TV C (compEnvC scope cl D env) (fun y => if y = x then some a else none) m H' (testsT ifs (compEnvC scope cl D env)) (fun ok H2 =>
          if ok = true then EV C (compEnvC scope cl D env) (fun y => if y = x then some a else none) m H2 (eval elt (compEnvC scope cl D env)) (fun r H3 => J (i + 1) (out ++ [r]) H3) else J (i + 1) out H2)) ∧
      (∀ out H', J items.length out H' → ∀ l, H' l = none → SV C env m (H'.set l (.tmp, .list out)) (storeName env y) (.ref l) (fun m' H2 => Φ .next m' H2))))
    (hsw : swapsWith (.ListComp elt [⟨.Name x xp, iter, ifs, 0⟩] scope pos) (some (.Name y yp)) spos.line env = pure true := by rfl)
    (hcell : ∀ y ∈ scope.names, y.2 ≠ .cell := by decide) (hkind : scope.kind = .function := by rfl)
    (hnames : ∀ y ∈ scope.names, y.2 = .local → scope.names.lookup y.1 = some .local := by decide) (hx : scope.names.lookup x = some .local := by rfl)
    (hfs : ∀ x, foldedSetIterable iter env x = pure x := by intro _; rfl) :
    EX C env m H (exec (.Assign [.Name y yp] (.ListComp elt [⟨.Name x xp, iter, ifs, 0⟩] scope pos) spos) env) Φ := fun hl s Q E hs hq => by
  rw [exec_Assign_Name_used _ _ _ _ hsw]
  refine wpAny_bind (wpAny_standAt (wpAny_bind ?_))
  show wpAny _ C.A (do let _ ← comprehension (.ListComp elt [⟨.Name x xp, iter, ifs, 0⟩] scope pos) scope env _ (newList []) false (eval iter env) (some (assign (.Name y yp) env))) _ _ s
  refine wpAny_bind (wpAny_mono (wpAny_comprehension_free (use := some (assign (.Name y yp) env)) (Q := fun _ s' => Q .next s') rfl hfs hclos hkind hnames (h s _ E hs (vm0 hl) fun v H1 s1 h1 hs1 k1 => ?_))
    (fun _ s' hq => wpAny_pure (wpAny_pure hq)) fun _ _ e => e)
  refine opqG (fun goalP goalH => ?_)
  obtain ⟨items, Inv, src, hz, J, j0, jInv, turn, fin⟩ := h1
  all_goals first | (refine goalH ?_; clear goalH goalP) | skip
  refine src m s1 v _ E rfl hs1 fun ob St' hf it st0 => ?_
  refine opqG (fun goalP goalH => ?_)
  obtain ⟨hs2, k2⟩ := hs1.push (ob := ob) (tk := s1.toks)
  all_goals first | (refine goalH ?_; clear goalH goalP) | skip
  have gI := hs1.gfresh
  have LI := hs1.Lne
  -- the list that is grown
  refine wpAny_newObj_type ?_
  refine opqG (fun goalP goalH => ?_)
  obtain ⟨hs3, k3⟩ := hs2.push (ob := { cls := .type "list", data := .seq ([] : List Value).toArray }) (tk := s1.toks)
  all_goals first | (refine goalH ?_; clear goalH goalP) | skip
  have gA := hs2.gfresh
  have LA := hs2.Lne
  have AI : (s1.heap.push ob).objs.size ≠ s1.heap.objs.size := by rw [Heap.size_push]; exact Nat.succ_ne_self _
  generalize hA : (s1.heap.push ob).objs.size = acc at *
  generalize hI : s1.heap.objs.size = I at *
  refine opqG (fun goalP goalH => ?_)
  obtain ⟨hs4, k4⟩ := hs3.push (ob := { cls := .type "dict", data := .dict #[] }) (tk := s1.toks)
  all_goals first | (refine goalH ?_; clear goalH goalP) | skip
  have gD := hs3.gfresh
  have LD := hs3.Lne
  refine wpAny_newFunctionEnv hcell (by intro y hy; cases hy) (fun h₁ hns₁ hsb₁ => ?_) hkind
  dsimp only [newEnv, Option.isSome_some, if_true] at hns₁ hsb₁ gD LD ⊢
  have hDa : ((s1.heap.push ob).push { cls := .type "list", dict := none, data := .seq ([] : List Value).toArray }).objs.size = acc + 1 := by rw [Heap.size_push, hA]
  generalize ((s1.heap.push ob).push { cls := .type "list", dict := none, data := .seq ([] : List Value).toArray }).objs.size = D at *
  have untr : ∀ {m H} {s : Shared} {i}, St C m H s → St' i s.heap → H I = none := fun hs st => by
    obtain ⟨o, e, vs, hd, hc⟩ := it.there _ _ st; exact hs.notIter e hd hc
  have hIacc : acc = I + 1 := by rw [← hA, Heap.size_push, hI]
  have hacc0 : h₁.PlainList acc #[] := by
    refine ⟨0, (hsb₁.2 acc (neA (by (clear hz j0 st0 hA LA hI LI AI LD hIacc; lia)))).trans (Heap.get?_push_of_some _ ?_)⟩
    have := Heap.get?_push_size (s1.heap.push ob) (o := { cls := .type "list", data := .seq #[] }) rfl
    rw [hA] at this; exact this
  have hlt1 : ∀ (b : Nat) o, s1.heap.get? b = some o → @LT.lt Nat _ b I := fun b o e => hI ▸ Heap.lt_size e
  have hnone : ∀ b : Addr, I ≤ b → H1 b = none := fun b hb => by
    cases q : H1 b with
    | none => rfl
    | some z => have := hs1.lt (t := z.1) (o := z.2) q; rw [hI] at this; exact absurd (Nat.lt_of_lt_of_le this hb) (Nat.lt_irrefl _)
  have hst4 : St C m H1 { s1 with heap := h₁, toks := s1.toks + ([] : List (Str × Value)).length } :=
    hs4.aside (I := D) (hnone D (leA (by (clear hz j0 st0 hA LA hI LI AI LD; lia)))) LD gD fun b o hb e => (hsb₁.2 b hb).trans e
  have hkp4 : Kp C H1 H1 s1.heap h₁ := fun b o e n l => by
    have hb := hlt1 b o e
    exact ⟨(hsb₁.2 b (neA (by (clear hz j0 st0 hA LA hI LI AI LD; lia)))).trans (Heap.get?_push_of_some _ (Heap.get?_push_of_some _ (Heap.get?_push_of_some _ e))), n⟩
  have hit4 : St' 0 h₁ := it.frame _ _ _ st0 fun o e => (hsb₁.2 I (neA (by (clear hz j0 st0 hA LA hI LI AI LD; lia)))).trans (Heap.get?_push_of_some _ (Heap.get?_push_of_some _ e))
  have loop : codeAny (model PG C.w) C.A (.compLoop (.ListComp elt [⟨.Name x xp, iter, ifs, 0⟩] scope pos) 0 (.ref I) (.ref acc) (compEnvC scope cl D env)) (compPost (model PG C.w) C.A E (some (assign (.Name y yp) env)) (fun _ s' => Q .next s') (.ref acc) D) { s1 with heap := h₁, toks := s1.toks + ([] : List (Str × Value)).length } := by
    refine codeAny_compLoop_tests (fun k s' => ∃ i out H' ys mm, k = items.length + 1 - i ∧ i ≤ items.length ∧ St C m H' s' ∧ J i out H' ∧ St' i s'.heap ∧ Kp C H1 H' s1.heap s'.heap ∧ s'.heap.PlainList acc ys ∧ ys.toList.map er = out ∧ out.length ≤ i ∧
        s'.heap.Ns D mm ∧ H' acc = none ∧ H' D = none) ?_ (items.length + 1)
      ⟨0, [], H1, #[], _, rfl, Nat.zero_le _, hst4, j0, hit4, hkp4, hacc0, rfl, Nat.zero_le _, hns₁, hnone acc (leA (by (clear hz j0 st0 hA LA hI LI AI LD hit4; lia))), hnone D (leA (by (clear hz j0 st0 hA LA hI LI AI LD hit4; lia)))⟩
    intro k s' goalQ
    refine opqG (fun goalP goalH => ?_)
    obtain ⟨i, out, H', ys, mm, rfl, hi, hs', hJ, st, kp, hacc, hys, hol, hns, hHa, hHd⟩ := goalQ
    all_goals first | (refine goalH ?_; clear goalH goalP) | skip
    have hI' := untr hs' st
    by_cases hlt : i < items.length
    · refine opqG (fun goalP goalH => ?_)
      obtain ⟨a, ha⟩ : ∃ a, items[i]? = some a := ⟨items[i], by simp [hlt]⟩
      all_goals first | (refine goalH ?_; clear goalH goalP) | skip
      refine it.next i m H' s' _ _ hs' (jInv _ _ _ hJ) st a ha fun v h' tk ev st' kh => ?_
      have hs3 : St C m H' { s' with heap := h', toks := tk } := hs'.aside hI' LI gI kh
      have hns' : h'.Ns D mm := Ns.aside hns fun o e => kh _ o (neA (by (clear hz j0 st0 hA LA hI LI AI LD hit4 hi hJ st hol hlt st'; lia))) e
      refine wpAny_assign_Name (wpAny_storeName_local (env := compEnvC scope cl D env) (lookup_relabel_local hx) hns' (fun h2 hn2 sb2 => ?_) (by simp [compEnvC, relabel, hkind]))
      replace sb2 : Heap.SameBut D h' h2 := sb2
      have hs4 : St C m H' { s' with heap := h2, toks := tk + 1 } := hs3.aside (I := D) hHd LD gD fun b o hb e => (sb2.2 b hb).trans e
      refine opqG (fun goalP goalH => ?_)
      obtain ⟨na, ea⟩ : h2.PlainList acc ys := by
        obtain ⟨n, e⟩ := hacc
        exact ⟨n, (sb2.2 acc (neA (by (clear hz j0 st0 hA LA hI LI AI LD hIacc hit4 hi hJ st hol hlt st'; lia)))).trans (kh _ _ AI e)⟩
      all_goals first | (refine goalH ?_; clear goalH goalP) | skip
      have st2 : St' (i + 1) h2 := it.frame _ _ _ st' fun o e => (sb2.2 I (neA (by (clear hz j0 st0 hA LA hI LI AI LD hit4 hi hJ st hol hlt st'; lia)))).trans e
      have hvm : VM C (compEnvC scope cl D env) (fun y => if y = x then some a else none) m H' h2 := by
        refine .inr ⟨LD, hHd, _, hn2, fun y b e => ?_⟩
        by_cases q : y = x
        · simp only [q, if_true] at e ⊢; cases e; rw [← ev]; rfl
        · simp only [q, if_false] at e; cases e
      have kp2 : Kp C H1 H' s1.heap h2 := fun b o e n l => by
        refine opqG (fun goalP goalH => ?_)
        obtain ⟨p, q⟩ := kp b o e n l
        all_goals first | (refine goalH ?_; clear goalH goalP) | skip
        have := hlt1 b o e
        exact ⟨(sb2.2 b (neA (by (clear hz j0 st0 hA LA hI LI AI LD hit4 hi hJ st hol hlt st' st2; lia)))).trans (kh b o (neA (by (clear hz j0 st0 hA LA hI LI AI LD hit4 hi hJ st hol hlt st' st2; omega))) p), q⟩
      refine turn i a ha out H' hJ D LD _ _ _ hs4 hvm fun ok H3 s5 h5 hs5 k5 => ?_
      refine opqG (fun goalP goalH => ?_)
      obtain ⟨oI, eI, vsI, dI, cI⟩ := it.there _ _ st2
      all_goals first | (refine goalH ?_; clear goalH goalP) | skip
      -- what an evaluation behind leaves
      have after : ∀ (H6 : AH) (s6 : Shared), Kp C H' H6 h2 s6.heap → s6.heap.get? acc = some { cls := .type "list", data := .seq ys na } ∧ H6 acc = none ∧ H6 D = none ∧ H6 I = none ∧ (∃ mm, s6.heap.Ns D mm) ∧ St' (i + 1) s6.heap := fun H6 s6 k6 => by
        refine opqG (fun goalP goalH => ?_)
        obtain ⟨a1, a2⟩ := k6 acc _ ea hHa LA
        all_goals first | (refine goalH ?_; clear goalH goalP) | skip
        refine opqG (fun goalP goalH => ?_)
        obtain ⟨oD, es, ep, eD, rD⟩ := hn2
        all_goals first | (refine goalH ?_; clear goalH goalP) | skip
        refine opqG (fun goalP goalH => ?_)
        obtain ⟨b1, b2⟩ := k6 D _ eD hHd LD
        all_goals first | (refine goalH ?_; clear goalH goalP) | skip
        refine opqG (fun goalP goalH => ?_)
        obtain ⟨c1, c2⟩ := k6 I _ eI hI' LI
        all_goals first | (refine goalH ?_; clear goalH goalP) | skip
        exact ⟨a1, a2, b2, c2, ⟨_, oD, es, ep, b1, rD⟩, it.frame _ _ _ st2 fun o e => by rw [eI] at e; cases e; exact c1⟩
      cases ok with
      | true =>
        simp only [if_true] at h5 ⊢
        refine h5 s5 _ _ hs5 (hvm.step k5) fun r H4 s6 h6 hs6 k6 => ?_
        refine opqG (fun goalP goalH => ?_)
        obtain ⟨a1, a2, a3, a4, ⟨mm6, a5⟩, a6⟩ := after H4 s6 (k5.trans k6)
        all_goals first | (refine goalH ?_; clear goalH goalP) | skip
        have hlen : ys.size ≤ sizeLine := by
          have e1 : ys.toList.length = out.length := by rw [← hys, List.length_map]
          have e2 : ys.size = out.length := by rw [← e1]; simp
          have := sizeLine_big; (clear j0 st0 hA LA hI LI AI LD hDa hIacc hit4 hi hJ st st' st2 cI h6 a6; lia)
        refine wpAny_list_append_plain ⟨na, a1⟩ (fun h7 hacc7 sb7 => ?_) hlen
        have hs7 : St C m H4 { s6 with heap := h7 } := hs6.aside (I := acc) (tk := s6.toks) a2 LA gA fun b o hb e => (sb7.2 b hb).trans e
        have kp7 := kp2.trans (k5.trans k6)
        refine ⟨items.length + 1 - (i + 1), by (clear hz j0 st0 hA LA hI LI AI LD hDa hIacc hit4 hi hJ st hol st' st2 cI h6 a6 hlen; omega), i + 1, out ++ [er r], H4, ys.push r, mm6, rfl, hlt, hs7, h6, ?_, fun b o e n l => ?_, hacc7, by simp [hys], by simp; (clear hz j0 st0 hA LA hI LI AI LD hDa hIacc hit4 hi hJ st hlt st' st2 cI h6 a6 hlen; omega), a5.sameBut sb7 (neA (by (clear hz j0 st0 hA LA hI LI AI LD hIacc hit4 hi hJ st hol hlt st' st2 cI h6 a6 hlen; lia))), a2, a3⟩
        · exact it.frame _ _ _ a6 fun o e => (sb7.2 I (neA (by (clear hz j0 st0 hA LA hI LI AI LD hit4 hi hJ st hol hlt st' st2 cI h6 a6 hlen; lia)))).trans e
        · refine opqG (fun goalP goalH => ?_)
          obtain ⟨p, q⟩ := kp7 b o e n l
          all_goals first | (refine goalH ?_; clear goalH goalP) | skip
          have := hlt1 b o e
          exact ⟨(sb7.2 b (neA (by (clear hz j0 st0 hA LA hI LI AI LD hit4 hi hJ st hol hlt st' st2 cI h6 a6 hlen; lia)))).trans p, q⟩
      | false =>
        simp only [Bool.false_eq_true, if_false] at h5 ⊢
        refine opqG (fun goalP goalH => ?_)
        obtain ⟨a1, a2, a3, a4, ⟨mm6, a5⟩, a6⟩ := after H3 s5 k5
        all_goals first | (refine goalH ?_; clear goalH goalP) | skip
        exact ⟨items.length + 1 - (i + 1), by (clear hz j0 st0 hA LA hI LI AI LD hDa hIacc hit4 hi hJ st hol st' st2 cI h5 a6; omega), i + 1, out, H3, ys, mm6, rfl, hlt, hs5, h5, a6, kp2.trans k5, ⟨na, a1⟩, hys, by (clear hz j0 st0 hA LA hI LI AI LD hDa hIacc hit4 hi hJ st hlt st' st2 cI h5 a6; lia), a5, a2, a3⟩
    · have hin : i = items.length := by (clear hz j0 st0 hA LA hI LI AI LD hDa hIacc hit4 hJ st hol; lia)
      subst hin
      refine it.done m H' s' _ _ hs' (jInv _ _ _ hJ) st fun h' tk kh => ?_
      have hs3 : St C m H' { s' with heap := h', toks := tk } := hs'.aside hI' LI gI kh
      have hns3 : h'.Ns D mm := Ns.aside hns fun o e => kh _ o (neA (by (clear hz j0 st0 hA LA hI LI AI LD hit4 hi hJ st hol hlt; lia))) e
      refine opqG (fun goalP goalH => ?_)
      obtain ⟨na, ea⟩ := hacc
      all_goals first | (refine goalH ?_; clear goalH goalP) | skip
      have e8 : h'.get? acc = some { cls := .type "list", data := .seq ys na } := kh _ _ AI ea
      -- the list is tracked from here on
      have hs9 : St C m (H'.set acc (.tmp, .list out)) { s' with heap := h', toks := tk } := ⟨hs3.fr, fun b u p hb => by
        by_cases q : b = acc
        · subst q
          rw [AH.set_self] at hb; cases hb
          exact ⟨_, e8, ⟨ys.toList, na, by simp, hys⟩, LA, gA, by have := hs1.low; rw [hI] at this; exact Nat.lt_trans this (show @LT.lt Nat _ I _ by (clear hz j0 st0 hI LI LD hit4 hi hJ st hol hlt hA LA AI this; lia))⟩
        · rw [AH.set_ne q] at hb
          exact hs3.hr b u p hb, hs3.sr⟩
      have kp9 : Kp C H1 (H'.set acc (.tmp, .list out)) s1.heap h' := fun b o e n l => by
        refine opqG (fun goalP goalH => ?_)
        obtain ⟨p, q⟩ := kp b o e n l
        all_goals first | (refine goalH ?_; clear goalH goalP) | skip
        have := hlt1 b o e
        exact ⟨kh b o (neA (by (clear hz j0 st0 hA LA hI LI AI LD hit4 hi hJ st hol hlt; omega))) p, by rw [AH.set_ne (neA (by (clear hz j0 st0 hA LA hI LI AI LD hit4 hi hJ st hol hlt; lia)))]; exact q⟩
      have hD9 : (H'.set acc (.tmp, .list out)) D = none := by rw [AH.set_ne (neA (by (clear hz j0 st0 hA LA hI LI AI LD hIacc hit4 hi hJ st hol hlt; lia)))]; exact hHd
      refine wpAny_assign_Name (fin out H' hJ acc hHa hl (.ref acc) _ _ _ rfl hs9 fun m4 H4 s4 h4 hs4 k4 => ?_)
      refine opqG (fun goalP goalH => ?_)
      obtain ⟨oD, es, ep, eD, rD⟩ := hns3
      all_goals first | (refine goalH ?_; clear goalH goalP) | skip
      refine opqG (fun goalP goalH => ?_)
      obtain ⟨c1, c2⟩ := k4 D _ eD hD9 LD
      all_goals first | (refine goalH ?_; clear goalH goalP) | skip
      refine ⟨mm, ⟨oD, es, ep, c1, rD⟩, fun h8 sb8 => ?_⟩
      have hs8 : St C m4 H4 { s4 with heap := h8 } := hs4.aside (I := D) (tk := s4.toks) c2 LD gD fun b o hb e => (sb8.2 b hb).trans e
      refine hq .next m4 H4 _ h4 hs8 (k1.trans fun b o e n l => ?_)
      refine opqG (fun goalP goalH => ?_)
      obtain ⟨p, q⟩ := (kp9.trans k4) b o e n l
      all_goals first | (refine goalH ?_; clear goalH goalP) | skip
      have := hlt1 b o e
      exact ⟨(sb8.2 b (neA (by (clear hz j0 st0 hA LA hI LI AI LD hit4 hi hJ st hol hlt h4 rD; lia)))).trans p, q⟩
  exact codeAny_compStart_list loop (it.self 0 _ _ _ hit4 loop)
end
--T S16

/-- what ordered gives: none at a variable with both signs, else the literals in order -/
noncomputable def OrdR (lits : List Int) : Option (List Int) → Prop
  | none => ∃ l, l ∈ lits ∧ -l ∈ lits
  | some r => (∀ x ∈ lits, -x ∉ lits) ∧ Ord lits r
theorem ordered_od {H : AH} {a : Addr} {t : Tag} {o : AO} {lits : List Int} (hH : H a = some (t, o)) (ho : o = .list (lits.map .int) ∨ o = .tup (lits.map .int)) (hz : lits.length < 60) (nz : ∀ l ∈ lits, l ≠ 0) (Φ : AV → AH → Prop)
    (h : ∀ H' v o, Ext H H' → Od H' v o → OrdR lits o → isConc v = false → isNone v = o.isNone → Φ v H') : Spec 1 69 [.ref a] H Φ :=
  ordered_spec hH ho hz nz Φ (fun H' l e h1 h2 => h H' .none none e rfl ⟨l, h1, h2⟩ rfl rfl) (fun H' l r e _ h2 h3 h4 => h H' (.ref l) (some r) e ⟨l, _, rfl, h2⟩ ⟨h3, h4⟩ rfl rfl)
noncomputable def avd : Option Bool → PyData | none => .none | some b => .bool b
theorem pds_avo {H n} {f : Int → Option Bool} : ∀ r : List Int, PDs H n (r.map fun l => avo (f l)) (r.map fun l => avd (f l))
  | [] => .nil
  | x :: r => .cons (by
      show PD H n (avo (f x)) (avd (f x))
      cases h : f x with
      | none => exact .none
      | some b => exact .bool) (pds_avo r)
theorem any_avd {f : Int → Option Bool} {b : Bool} (r : List Int) : (r.map fun l => avd (f l)).any (fun y => PyData.eqv y (.bool b)) = r.any fun l => f l == some b := by
  rw [List.any_map]
  congr 1
  funext l
  show PyData.eqv (avd (f l)) (.bool b) = (f l == some b)
  cases h : f l with
  | none => simp [avd, PyData.eqv]
  | some c => simp [avd, PyData.eqv]
theorem src_ints {C : Ctx} {H : AH} {a t o} {lits : List Int} (hH : H a = some (t, o)) (ho : o = .list (lits.map .int) ∨ o = .tup (lits.map .int)) : Src C H (.ref a) (lits.map .int) (fun H' => ∃ t, H' a = some (t, o)) := by
  rcases ho with rfl | rfl
  · exact src_list hH
  · exact src_tup hH
theorem ints_get {lits : List Int} {i : Nat} {v : AV} (h : (lits.map AV.int)[i]? = some v) : ∃ x, lits[i]? = some x ∧ v = .int x := by
  rw [List.getElem?_map] at h
  cases q : lits[i]? with
  | none => rw [q] at h; cases h
  | some x => rw [q] at h; exact ⟨x, rfl, (Option.some.inj h).symm⟩
theorem take_map {β : Type} {r : List Int} {f : Int → β} {i : Nat} {x : Int} (h : r[i]? = some x) : (r.take (i + 1)).map f = (r.take i).map f ++ [f x] := by
  rw [List.take_add_one, h]; simp
theorem take_filter {r : List Int} {f : Int → Bool} {i : Nat} {x : Int} (h : r[i]? = some x) : (r.take (i + 1)).filter f = (r.take i).filter f ++ (if f x = true then [x] else []) := by
  rw [List.take_add_one, h, List.filter_append]
  cases q : f x <;> simp [q]
theorem add_spec {H : AH} {σ : Sg} {G a t o} {lits : List Int} (hA : At H σ) (A : Adc G σ) (hH : H a = some (t, o)) (ho : o = .list (lits.map .int) ∨ o = .tup (lits.map .int)) (hz : lits.length < 60) (hl : ∀ l ∈ lits, 1 ≤ ab l ∧ ab l ≤ 4)
    (hR : σ.rows.length ≤ 1000) (hlog : σ.log.length ≤ 1000) (Φ : AV → AH → Prop)
    (h : ∀ H' σ' v, noRef v = true → At H' σ' → Fr0 H H' → σ'.x = σ.x → Adc (G ++ [lits]) σ' → σ'.rows.length ≤ σ.rows.length + 1 → σ'.log.length ≤ σ.log.length + 1 → Φ v H') : Spec 3 130 [.ref σ.x, .ref a] H Φ := by
  refine spec_cells (fun w => rfl) (fun w => rfl) (binds2 (n1 := "self") (n2 := "literals") (fun _ _ => rfl) rfl) (fun _ => rfl) (by decide) rfl rfl rfl (fun C hroom hfe hlt H1 hH1 hcells => ?_)
  have hc : H1 (C.L + 1) = some (.cell, .cell (some (.ref σ.x))) := hcells (PySem.Str.ofString "self") _ rfl
  generalize hm : bindLA _ _ _ = m
  have ml : m (PySem.Str.ofString "literals") = some (.ref a) := by rw [← hm]; rfl
  clear hm hcells
  have e1 : Ext H H1 := hH1
  have hA1 := e1.at hA
  have ha1 := e1 _ _ hH
  have L := A.L
  have hbg := A.bg
  have hrl := L.rowLen
  have nz : ∀ l ∈ lits, l ≠ 0 := fun l q => ab_zero (hl l q).1
  repeat walk_at "s"
  refine ev_methN (nv_cell hc) hA1.inst rfl ?_ (fm_back_to _) (fn_back_to _) (kp_back_to _)
  repeat walk_at "s"
  show CV C _ H1 (.ref 104) [.ref σ.x, .int ((0 : Nat) : Int)] _
  refine back_to_spec (h := 0) hA1 L _ (fun _ => ?_) (fun b hb => by rw [hbg] at hb; cases hb) _ _ (by (clear ho hz hR hlog hrl; lia))
  refine ⟨rfl, ?_⟩
  repeat walk_at "s"
  refine ordered_od ha1 ho hz nz _ (fun H2 v o2 e2 hv hord hvc hvn => ?_) _ _ (by (clear ho hz hR hlog hrl; lia))
  have e12 := e1.trans e2
  have hc2 := e2 _ _ hc
  have hA2 := e12.at hA
  have ha2 := e12 _ _ hH
  clear hA1 ha1 hc e1 e2 hA
  repeat walk_at "s"
  refine ex_forO ?_
  repeat walk_at "s"
  refine ⟨_, _, src_ints ha2 ho, fun i m' H' => H' = H2 ∧ m' (PySem.Str.ofString "clause") = some v, ⟨rfl, by walk_at "loc"⟩, fun i m2 H' q => ⟨t, q.1.symm ▸ ha2⟩, fun i w hw m' H' ⟨e, mv⟩ => ?_, fun m' H' ⟨e, mv⟩ => ?_⟩
  · subst e
    obtain ⟨x, hx, rfl⟩ := ints_get hw
    have hxr := hl x (List.mem_of_getElem? hx)
    obtain ⟨j, hj⟩ := L.heat.all (ab x) hxr.1 hxr.2
    repeat walk_at "s"
    refine ev_fld (nv_cell hc2) (hA2 .inst _ _ rfl) (hA2 .attrs _ _ rfl) rfl rfl ?_
    refine ⟨_, _, _, rfl, hA2 .heats _ _ rfl, rfl, ?_⟩
    repeat walk_at "s"
    refine cv_setdefault (kvs := σ.heats) (hA2 .heats _ _ rfl) (by have := L.heat.dk.len; (clear ho hz hR hlog hroom hrl hxr; lia)) (fun u hu => ?_) (fun hu => by rw [show (if x < 0 then -x else x) = ab x from rfl, hj] at hu; cases hu)
    rw [show (if x < 0 then -x else x) = ab x from rfl, hj] at hu
    cases hu
    refine ⟨rfl, ?_⟩
    repeat walk_at "s"
    exact ⟨rfl, by walk_at "loc"⟩
  subst e
  clear ml
  repeat walk_at "s"
  refine op_is_none ?_ hvc
  rw [hvn]
  cases o2 with
  | none =>
    dsimp only [Option.isNone]
    repeat walk_at "s"
    refine ev_fld (nv_cell hc2) (hA2 .inst _ _ rfl) (hA2 .attrs _ _ rfl) rfl rfl ?_
    refine op_not ?_
    repeat walk_at "s"
    exact h H' σ _ rfl hA2 e12.fr rfl ⟨hbg, L, fun q => (A.I q).grow (.inl hord), fun q => (A.e q).mono sub_app⟩ (Nat.le_succ _) (Nat.le_succ _)
  | some r =>
    obtain ⟨l2, t2, rfl, hl2⟩ : ∃ x t, v = .ref x ∧ H' x = some (t, .tup (r.map .int)) := hv
    have hrl2 : ∀ l ∈ r, 1 ≤ ab l ∧ ab l ≤ 4 := fun l q => hl l ((hord.2.1 l).mp q)
    have ndr : (r.map ab).Nodup := List.pairwise_map.mpr (hord.2.2.imp fun q => Int.ne_of_lt q)
    have hr4 : r.length ≤ 4 := row_len hrl2 ndr
    dsimp only [Option.isNone]
    repeat walk_at "s"
    refine ev_fld (nv_cell hc2) (hA2 .inst _ _ rfl) (hA2 .attrs _ _ rfl) rfl rfl ?_
    repeat walk_at "s"
    refine ite_split (fun hrf => ?_) (fun hrf => ?_)
    · have hrf' : σ.refuted = true := hrf
      repeat walk_at "s"
      refine ev_fld (nv_cell hc2) (hA2 .inst _ _ rfl) (hA2 .attrs _ _ rfl) rfl rfl ?_
      refine op_not ?_
      repeat walk_at "s"
      exact h H' σ _ rfl hA2 e12.fr rfl ⟨hbg, L, (fun q => by rw [hrf'] at q; cases q), fun q => (A.e q).mono sub_app⟩ (Nat.le_succ _) (Nat.le_succ _)
    · have hrf' : σ.refuted = false := hrf
      have I := A.I hrf'
      repeat walk_at "s"
      refine ev_comp [(PySem.Str.ofString "self", C.L + 1)] rfl ?_
      repeat walk_at "s"
      refine ⟨_, _, src_tup hl2, by rw [List.length_map]; (clear ho hz hR hlog hroom hrl; lia), fun i out H3 => H3 = H' ∧ out = (r.take i).map fun l => avo (tv σ.row l), ⟨rfl, rfl⟩, fun i out H3 q => ⟨t2, q.1.symm ▸ hl2⟩, fun i w hw out H3 ⟨e, eo⟩ D hD => ?_, fun out H3 ⟨e, eo⟩ l3 hl3 => ?_⟩
      · subst e
        obtain ⟨x, hx, rfl⟩ := ints_get hw
        have hxr := hrl2 x (List.mem_of_getElem? hx)
        refine tests_nil ?_
        repeat walk_at "s"
        refine ev_methN (nv_cell hc2) hA2.inst rfl ?_ (fm_says _) (fn_says _) (kp_says _)
        repeat walk_at "s"
        refine cv_says hA2 L hxr.1 (by (clear ho hz hR hlog hrl hr4 hxr; lia)) ⟨rfl, ?_⟩
        rw [eo]; exact (take_map hx).symm
      subst e
      rw [List.length_map, List.take_of_length_le (Nat.le_refl _)] at eo
      subst eo
      have e3 : Ext H3 (H3.set l3 (.tmp, .list (r.map fun l => avo (tv σ.row l)))) := Ext.new hl3
      refine op_ind (n := 2) (PD.bool (b := true)) (PD.list AH.set_self (pds_avo r)) ?_
      rw [any_avd]
      have hA3 := e3.at hA2
      have hc3 := e3 _ _ hc2
      have hl23 := e3 _ _ hl2
      have f3 := e12.fr.trans e3.fr
      clear hA2 hc2 hl2 e12 ha2
      generalize H3.set l3 (.tmp, .list (r.map fun l => avo (tv σ.row l))) = H4 at *
      clear e3 hl3
      repeat walk_at "s"
      refine ite_split (fun hany => ?_) (fun hany => ?_)
      · repeat walk_at "s"
        refine ev_fld (nv_cell hc3) (hA3 .inst _ _ rfl) (hA3 .attrs _ _ rfl) rfl rfl ?_
        refine op_not ?_
        repeat walk_at "s"
        obtain ⟨l, hlm, q⟩ := List.any_eq_true.mp hany
        have q2 : l ∈ σ.row := tv_true (by simpa using q)
        obtain ⟨p, hp⟩ := List.getElem?_of_mem q2
        exact h H4 σ _ rfl hA3 f3 rfl ⟨hbg, L, fun _ => I.grow (.inr (.inl ⟨l, (hord.2.1 l).mp hlm, p, hp, by rw [hbg]; rfl⟩)), fun q => (A.e q).mono sub_app⟩ (Nat.le_succ _) (Nat.le_succ _)
      have hnt : ∀ l ∈ r, l ∉ σ.row := fun l hlm q => by
        have := List.any_eq_false.mp hany l hlm
        unfold tv at this
        rw [if_pos q] at this; exact this rfl
      repeat walk_at "s"
      refine ex_comp [(PySem.Str.ofString "self", C.L + 1)] rfl ?_
      repeat walk_at "s"
      refine ⟨_, _, src_tup hl23, by rw [List.length_map]; (clear ho hz hR hlog hroom hrl; lia), fun i out H5 => H5 = H4 ∧ out = ((r.take i).filter fun l => (tv σ.row l).isNone).map .int, ⟨rfl, rfl⟩, fun i out H5 q => ⟨t2, q.1.symm ▸ hl23⟩, fun i w hw out H5 ⟨e, eo⟩ D hD => ?_, fun out H5 ⟨e, eo⟩ l4 hl4 => ?_⟩
      · subst e
        obtain ⟨x, hx, rfl⟩ := ints_get hw
        have hxr := hrl2 x (List.mem_of_getElem? hx)
        refine tests_one ?_
        repeat walk_at "s"
        refine ev_methN (nv_cell hc3) hA3.inst rfl ?_ (fm_says _) (fn_says _) (kp_says _)
        repeat walk_at "s"
        refine cv_says hA3 L hxr.1 (by (clear ho hz hR hlog hrl hr4 hxr; lia)) ?_
        repeat walk_at "s"
        refine op_is_avo ?_
        repeat walk_at "s"
        refine ite_split (fun hq => ?_) (fun hq => ?_)
        · repeat walk_at "s"
          exact ⟨rfl, by rw [eo, take_filter hx, if_pos hq, List.map_append]; rfl⟩
        · exact ⟨rfl, by rw [eo, take_filter hx, if_neg (by rw [hq]; decide), List.append_nil]⟩
      subst e
      rw [List.length_map, List.take_of_length_le (Nat.le_refl _)] at eo
      subst eo
      obtain ⟨k, hk⟩ : ∃ k, k = r.filter fun l => (tv σ.row l).isNone := ⟨_, rfl⟩
      rw [← hk]
      have hkm : ∀ l, l ∈ k ↔ l ∈ r ∧ tv σ.row l = none := fun l => by rw [hk, List.mem_filter, Option.isNone_iff_eq_none]
      have ndk : (k.map ab).Nodup := by rw [hk]; exact ndr.sublist ((List.filter_sublist).map _)
      have hk4 : k.length ≤ 4 := by rw [hk]; exact Nat.le_trans (List.length_filter_le _ _) hr4
      have hkab : ∀ l ∈ k, ab l ∉ σ.row.map ab := fun l q => tv_none_ab ((hkm l).mp q).2
      have hkl : ∀ l ∈ k, l ∈ lits := fun l q => (hord.2.1 l).mp ((hkm l).mp q).1
      -- what is left of the clause
      have hlow : ∀ l ∈ r, l ∉ k → Ent G [-l] := fun l q1 q2 => by
        have h1 := hnt l q1
        have h2 : -l ∈ σ.row := by
          apply Classical.byContradiction; intro h3
          exact q2 ((hkm l).mpr ⟨q1, by unfold tv; rw [if_neg h1, if_neg h3]⟩)
        exact I.low hbg h2
      have hentk : Ent (G ++ [lits]) k := fun M hM => by
        obtain ⟨l, q1, q2⟩ := hM lits (by simp)
        have q3 := (hord.2.1 l).mpr q1
        apply Classical.byContradiction; intro h3
        have h4 : l ∉ k := fun q => h3 ⟨l, q, q2⟩
        have h5 := (hlow l q3 h4).get fun g hg => hM g (List.mem_append_left _ hg)
        rw [lit_neg (nz l q1), q2] at h5; cases h5
      clear hk
      have e4 : Ext H5 (H5.set l4 (.tmp, intsO k)) := Ext.new hl4
      have hA5 := e4.at hA3
      have hc5 := e4 _ _ hc3
      have hk5 : (H5.set l4 (.tmp, intsO k)) l4 = some (.tmp, intsO k) := AH.set_self
      have f5 := f3.trans e4.fr
      clear hA3 hc3 hl23 f3
      show SV C _ _ (H5.set l4 (.tmp, intsO k)) _ (.ref l4) _
      generalize H5.set l4 (.tmp, intsO k) = H6 at *
      clear e4 hl4
      repeat walk_at "s"
      refine cv_leni hk5 (by (clear ho hz hR hlog hroom hrl hr4; lia)) ?_
      repeat walk_at "s"
      refine ex_join (fun m2 H7 => ∃ σ', At H7 σ' ∧ Fr0 H H7 ∧ σ'.x = σ.x ∧ Adc (G ++ [lits]) σ' ∧ σ'.rows.length ≤ σ.rows.length + 1 ∧ σ'.log.length ≤ σ.log.length + 1 ∧ H7 (C.L + 1) = some (.cell, .cell (some (.ref σ.x)))) (fun h0 => ?_) (fun h0 => ?_) (fun m2 H7 ⟨σ', hA7, f7, hx7, A7, r7, g7, hc7⟩ => ?_)
      · have hk0 : k = [] := List.eq_nil_of_length_eq_zero (by have := beq_iff_eq.mp h0; (clear ho hz hR hlog hroom hrl hr4 hk4; lia))
        subst hk0
        repeat walk_at "s"
        refine ev_methN0 (nv_cell hc5) hA5.inst rfl ?_ (fm_refute _) (fn_refute _) (kp_refute _)
        refine refute_spec hA5 (by (clear ho hz hR hroom hrl hr4 hk4; lia)) _ (fun H7 l7 hA7 f7 => ?_) _ _ (by (clear ho hz hR hlog hrl hr4 hk4; lia))
        refine ⟨rfl, ?_⟩
        repeat walk_at "s"
        exact ⟨_, hA7, f5.trans f7, rfl, ⟨hbg, L.plain rfl rfl rfl rfl rfl rfl rfl rfl, (fun q => by cases q), fun _ => hentk⟩, Nat.le_succ _, by show (σ.log ++ [_]).length ≤ _; simp, f7 _ _ _ hc5 rfl⟩
      · repeat walk_at "s"
        refine cv_leni hk5 (by (clear ho hz hR hlog hroom hrl hr4; lia)) ?_
        repeat walk_at "s"
        refine ite_split (fun h1 => ?_) (fun h1 => ?_)
        · obtain ⟨x, hkx⟩ : ∃ x, k = [x] := List.length_eq_one_iff.mp (by have := beq_iff_eq.mp h1; (clear ho hz hR hlog hroom hrl hr4 hk4; lia))
          subst hkx
          have hxl := hkl x (by simp)
          have hxr := hl x hxl
          have hxn := hkab x (by simp)
          repeat walk_at "s"
          refine ev_methN (nv_cell hc5) hA5.inst rfl ?_ (fm_let _) (fn_let _) (kp_let _)
          repeat walk_at "s"
          refine op_itemi (l := [x]) hk5 (by (clear ho hz hR hlog hroom hrl hr4 hk4 hxr hxn; lia)) rfl ?_ (by (clear ho hz hR hlog hroom hrl hr4 hk4 hxr hxn; lia))
          repeat walk_at "s"
          refine let_specS hA5 (by have := L.dkn.len; (clear ho hz hR hlog hroom hrl hr4 hk4 hxr hxn; lia)) (by have := L.dht.len; (clear ho hz hR hlog hroom hrl hr4 hk4 hxr hxn; lia)) (by have := L.dcs.len; (clear ho hz hR hlog hroom hrl hr4 hk4 hxr hxn; lia)) (by (clear ho hz hR hlog hroom hr4 hk4 hxr hxn; lia)) (by have := L.bgLen; (clear ho hz hR hlog hroom hrl hr4 hk4 hxr hxn this; lia)) _ (fun H7 hA7 f7 => ?_) _ _ (by (clear ho hz hR hlog hrl hr4 hk4 hxr hxn; lia))
          have I7 := I.unit (g := lits) hbg hxr.1 hxr.2 hxn hxl hentk
          refine ⟨rfl, ?_⟩
          repeat walk_at "s"
          exact ⟨_, hA7, f5.trans f7, rfl, ⟨hbg, I7.L, fun _ => I7, fun q => by rw [show (σ.letS x .none).refuted = σ.refuted from rfl, hrf'] at q; cases q⟩, Nat.le_succ _, Nat.le_succ _, f7 _ _ _ hc5 rfl⟩
        · match k, hk5, hkab, hkl, hentk, ndk, hk4, h0, h1 with
          | [], _, _, _, _, _, _, h0, _ => simp at h0
          | [x], _, _, _, _, _, _, _, h1 => simp at h1
          | x :: y :: rest, hk5, hkab, hkl, hentk, ndk, hk4, _, _ =>
            have ok : RowOk (x :: y :: rest) := ⟨by simp, fun l q => hl l (hkl l q), ndk⟩
            have abr : ∀ l : Int, 1 ≤ ab l ∧ ab l ≤ 4 → -4 ≤ l ∧ l ≤ 4 := fun l hl => by unfold ab at hl; split at hl <;> lia
            have hxy : x ≠ y := fun q => by
              have := (List.nodup_cons.mp ndk).1
              exact this (by rw [q]; exact List.mem_cons_self ..)
            have nin : ∀ l ∈ x :: y :: rest, -l ∉ σ.row := fun l q q2 => hkab l q (by rw [← ab_n]; exact List.mem_map_of_mem q2)
            repeat walk_at "s"
            refine ev_methN (nv_cell hc5) hA5.inst rfl ?_ (fm_keep _) (fn_keep _) (kp_keep _)
            repeat walk_at "s"
            refine keep_spec hA5 hk5 rfl hxy (abr x (hl x (hkl x (by simp)))) (abr y (hl y (hkl y (by simp)))) I.dk (by simp at hk4; (clear ho hz hR hlog hroom hrl hr4 hxy; lia)) (by (clear ho hz hlog hroom hrl hr4 hk4 hxy; lia)) (fun l => by have := I.wlen l; (clear ho hz hlog hroom hrl hr4 hk4 hxy; lia)) _ (fun H7 la wta hA7 f7 dka hwa => ?_) _ _ (by (clear ho hz hR hlog hrl hr4 hk4 hxy; lia))
            have I7 := I.addG (l := la) ok hentk hkl dka hwa (nin x (by simp)) (nin y (by simp))
            refine ⟨rfl, ?_⟩
            repeat walk_at "s"
            exact ⟨_, hA7, f5.trans f7, rfl, ⟨hbg, I7.L, fun _ => I7, fun q => by rw [show ((σ.addRow la (x :: y :: rest)).setWt wta).refuted = σ.refuted from rfl, hrf'] at q; cases q⟩, by show (σ.rows ++ [_]).length ≤ _; simp, Nat.le_succ _, f7 _ _ _ hc5 rfl⟩
      · rw [← hx7] at hc7
        repeat walk_at "s"
        refine ev_fld (nv_cell hc7) (hA7 .inst _ _ rfl) (hA7 .attrs _ _ rfl) rfl rfl ?_
        refine op_not ?_
        repeat walk_at "s"
        exact h _ σ' _ rfl hA7 f7 hx7 A7 r7 g7
--T Fw22
/-- known objects, by their tags -/
noncomputable def Al (H : AH) (L : List (Tag × Addr × AO)) : Prop := ∀ t a o, (t, a, o) ∈ L → H a = some (t, o)
theorem AH.set_set {H : AH} {a x y} : (H.set a x).set a y = H.set a y := by funext b; unfold AH.set; split <;> rfl
theorem Al.new {H : AH} {L a t o} (h : Al H L) (hn : H a = none) : Al (H.set a (t, o)) ((t, a, o) :: L) := fun u b p hm => by
  rcases List.mem_cons.mp hm with e | hm
  · cases e; exact AH.set_self
  · exact AH.set_new hn (h _ _ _ hm)
theorem Al.put {H : AH} {L a t o o'} (h : Al H ((t, a, o) :: L)) (hn : (L.all fun p => decide (p.1 ≠ t)) = true) : Al (H.set a (t, o')) ((t, a, o') :: L) := fun u b p hm => by
  rcases List.mem_cons.mp hm with e | hm
  · cases e; exact AH.set_self
  · exact AH.set_tag (h _ _ _ (.head _)) (h _ _ _ (.tail _ hm)) (of_decide_eq_true (List.all_eq_true.mp hn _ hm))
theorem Al.ext {H H' : AH} {L} (h : Al H L) (e : Ext H H') : Al H' L := fun t a o hm => e _ _ (h t a o hm)
theorem Al.tail {H : AH} {p L} (h : Al H (p :: L)) : Al H L := fun t a o hm => h t a o (.tail _ hm)
section
variable {C : Ctx} {env : Env} {vm m : Loc} {H H0 : AH}
/-- a field of a new instance: a new thing -/
theorem ex_initN {x xp attr pos' value pos Φ} {xa dx fs L} (t : Tag) (hS : Al H ((.attrs, dx, .attrs fs) :: (.inst, xa, .inst dx) :: L)) (f : Fr0 H0 H) (hx : m x = some (.ref xa))
    (h : EV C env m m H (eval value env) (fun v H1 => ∃ a o H2, v = .ref a ∧ H2 a = none ∧ H1 = H2.set a (.tmp, o) ∧ Ext H H2 ∧ (∀ H', Al H' ((.attrs, dx, .attrs (putA attr (.ref a) fs)) :: (.inst, xa, .inst dx) :: (t, a, o) :: L) → Fr0 H0 H' → Φ .next m H')))
    (ht : takerIn (KK C.w) 227 attr = some none) (hne : (L.all fun p => decide (p.1 ≠ .attrs)) = true := by rfl) (hta : t ≠ .attrs := by decide) (hlen : fs.length ≤ 100 := by exact Nat.le_of_ble_eq_true rfl)
    (hk : env.scope.kind = .function := by with_unfolding_all exact rfl_fn) (hloc : env.kindOf x = some .local := by with_unfolding_all exact rfl_lc) (hd : (x == ("__debug__" : Str)) = false := by decide)
    (hw : swapsWith value (some (.Attribute (.Name x xp) attr pos')) pos.line env = pure false := by with_unfolding_all exact rfl_sw) : EX C env m H (exec (.Assign [.Attribute (.Name x xp) attr pos'] value pos) env) Φ := fun hl s Q E hs hq =>
  plainObj_wpAny_Assign_Attribute (h s _ E hs (vm0 hl) fun v H1 s1 h1 hs1 k1 => by
    obtain ⟨a, o, H2, ev, hn, rfl, e2, hΦ⟩ := h1
    refine ev_local (Φ := fun w H3 => w = .ref xa ∧ H3 = H2.set a (.tmp, o)) hx ⟨rfl, rfl⟩ hk hloc hd s1 _ E hs1 (vm0 hl) fun ov H3 s2 h2 hs2 k2 => ?_
    obtain ⟨eo, rfl⟩ := h2
    obtain rfl := er_ref eo
    have hS2 := hS.ext e2
    obtain ⟨hs3, k3⟩ := hs2.retag (t' := t) (AH.set_self (a := a) (x := (Tag.tmp, o)))
    have hS3 : Al ((H2.set a (.tmp, o)).set a (t, o)) ((t, a, o) :: (.attrs, dx, .attrs fs) :: (.inst, xa, .inst dx) :: L) := by rw [AH.set_set]; exact hS2.new hn
    have f3 : Fr0 H0 ((H2.set a (.tmp, o)).set a (t, o)) := by rw [AH.set_set]; exact (f.trans e2.fr).trans (Fr0.new hn)
    have hX := hS3 .inst xa (.inst dx) (by simp)
    have hD := hS3 .attrs dx (.attrs fs) (by simp)
    refine uv_setattr (env := env) (vm := m) (Φ := fun H4 => H4 = ((H2.set a (.tmp, o)).set a (t, o)).set dx (.attrs, .attrs (putA attr (.ref a) fs))) hX hD hlen rfl ht v ev s2 _ E hs3 (vm0 hl) fun H4 s4 h4 hs4 k4 => ?_
    subst h4
    refine hq .next m _ s4 (hΦ _ ?_ (f3.trans (Fr0.comp hD rfl))) hs4 (k1.trans (k2.trans (k3.trans k4)))
    have hS4 : Al ((H2.set a (.tmp, o)).set a (t, o)) ((.attrs, dx, .attrs fs) :: (.inst, xa, .inst dx) :: (t, a, o) :: L) := fun u b p hm => hS3 u b p (by simp at hm ⊢; rcases hm with h | h | h | h <;> simp [h])
    refine hS4.put ?_
    simp only [List.all_cons, hne, Bool.and_true]
    simp [hta]) hw
/-- a field of a new instance: a plain value -/
theorem ex_initV {x xp attr pos' value pos Φ} {xa dx fs L} (hS : Al H ((.attrs, dx, .attrs fs) :: (.inst, xa, .inst dx) :: L)) (f : Fr0 H0 H) (hx : m x = some (.ref xa))
    (h : EV C env m m H (eval value env) (fun v H1 => H1 = H ∧ (∀ H', Al H' ((.attrs, dx, .attrs (putA attr v fs)) :: (.inst, xa, .inst dx) :: L) → Fr0 H0 H' → Φ .next m H')))
    (ht : takerIn (KK C.w) 227 attr = some none) (hne : (L.all fun p => decide (p.1 ≠ .attrs)) = true := by rfl) (hlen : fs.length ≤ 100 := by exact Nat.le_of_ble_eq_true rfl)
    (hk : env.scope.kind = .function := by with_unfolding_all exact rfl_fn) (hloc : env.kindOf x = some .local := by with_unfolding_all exact rfl_lc) (hd : (x == ("__debug__" : Str)) = false := by decide)
    (hw : swapsWith value (some (.Attribute (.Name x xp) attr pos')) pos.line env = pure false := by with_unfolding_all exact rfl_sw) : EX C env m H (exec (.Assign [.Attribute (.Name x xp) attr pos'] value pos) env) Φ :=
  ex_setattr (h.mono fun a H1 ⟨e, hΦ⟩ => by
    subst e
    have hX := hS .inst xa (.inst dx) (by simp)
    have hD := hS .attrs dx (.attrs fs) (by simp)
    refine ev_local hx ⟨_, _, _, _, _, rfl, hX, hD, hlen, ht, hΦ _ (hS.put ?_) (f.trans (Fr0.comp hD rfl))⟩ hk hloc hd
    simp only [List.all_cons, hne, Bool.and_true]
    simp) hw
end
theorem fn_83 (w : World) : fnIn (KK w) 83 = true := by kernel_rfl
theorem ks_83 (w : World) : ks_superIn (KK w) 227 227 "__init__" = some (some (.ref 83)) := by kernel_rfl
theorem ty_83 (w : World) : typeIn (KK w) (.ref 83) = some (.type "function") := by kernel_rfl
theorem mro_227 (w : World) : mroIn (KK w) 227 (.ref 227) = some true := by kernel_rfl
theorem tp_any (w : World) : nsIn (KK w) cStatics "thirdparty.any" = some none := by kernel_rfl
theorem bt_super : bootBuiltins "super" = some (.type "super") := by decide +kernel
theorem mk_227 (w : World) : makesIn (KK w) 227 = true := by kernel_rfl
theorem in_227 (w : World) : findIn (KK w) (.ref 227) "__init__" = some (some (.ref 125)) := by kernel_rfl
theorem fn_125 (w : World) : isFn (KK w) (.ref 125) = true := by kernel_rfl
theorem kp_Search (w : World) : keepIn (KK w) (.ref 227) = true := by kernel_rfl
--T Fw23
/-- the contract of Search.__init__: its first deed is super().__init__() -/
theorem spec_super {n k : Nat} {xa dx : Addr} {fs} {a1 a2 : AV} {H : AH} {t t'} {Φ Φ1 : AV → AH → Prop} {name qual : Str} {params : Arguments} {rest : List Stmt} {scope : Scope} {dV kV doc pm ct oc : Value} {an od : Option Addr} {osl : Array (Option Value)} {p0 p1 p2 p3 p4 : Pos} {ar : Arg} {n2 n3 : Str}
    (lk : ∀ w, (KK w).lookup 125 = some ⟨oc, od, .func (fnX name qual params (.Expr (.Call (.Attribute (.Call (.Name "super" p0) [] [] p1) "__init__" p2) [] [] p3) p4 :: rest) scope [("__class__", 115)] dV kV doc pm an (.ref 124) ct), osl⟩) (hcd : ∀ w, codeIn (KK w) (.ref 124) qual = true)
    (hbind : ∀ vs : List Value, vs.map er = [.ref xa, a1, a2] → ∃ binds, bindArgs (fnX name qual params (.Expr (.Call (.Attribute (.Call (.Name "super" p0) [] [] p1) "__init__" p2) [] [] p3) p4 :: rest) scope [("__class__", 115)] dV kV doc pm an (.ref 124) ct) ⟨vs, []⟩ = pure binds ∧ binds.map (fun p => (p.1, er p.2)) = [(ar.arg, .ref xa), (n2, a1), (n3, a2)])
    (hp : (params.posonlyargs ++ params.args).head? = some ar) (hself : ([(ar.arg, AV.ref xa), (n2, a1), (n3, a2)].reverse.lookup ar.arg) = some (.ref xa))
    (hloc : (([(ar.arg, AV.ref xa), (n2, a1), (n3, a2)] : List (Str × AV)).all fun y => decide (scope.names.lookup y.1 = some .local)) = true) (hcell : ∀ x ∈ scope.names, x.2 ≠ .cell) (hco : scope.isCoroutine = false) (hgen : scope.isGenerator = false) (hk : scope.kind = .function)
    (hks : scope.names.lookup ("super" : Str) = some .globalImplicit) (hkc : scope.names.lookup ("__class__" : Str) = some .free) (hka : scope.names.lookup ar.arg = some .local)
    (hx : H xa = some (t, .inst dx)) (hd : H dx = some (t', .attrs fs)) (h83 : SpecC k 83 [.ref xa] H Φ1) (hkn : k ≤ n)
    (h : ∀ C' : Ctx, n ≤ C'.room → C'.fenv = envX qual scope C'.L 125 (.ref 124) [("__class__", 115)] → ∀ v H1, Φ1 v H1 → EX C' (envX qual scope C'.L 125 (.ref 124) [("__class__", 115)]) (fun x => ([(ar.arg, .ref xa), (n2, a1), (n3, a2)] : List (Str × AV)).reverse.lookup x) H1 (execs rest (envX qual scope C'.L 125 (.ref 124) [("__class__", 115)])) (fnPost Φ))
    (hi : ∀ L, interactive (envX qual scope L 125 (.ref 124) [("__class__", 115)]) = false := by intro _; rfl)
    (he : ∀ L, eval (.Call (.Attribute (.Call (.Name "super" p0) [] [] p1) "__init__" p2) [] [] p3) (envX qual scope L 125 (.ref 124) [("__class__", 115)]) = (do
      let ov ← attributeBase (.Call (.Name "super" p0) [] [] p1) "__init__" (envX qual scope L 125 (.ref 124) [("__class__", 115)]) (eval (.Call (.Name "super" p0) [] [] p1) (envX qual scope L 125 (.ref 124) [("__class__", 115)]))
      standAt p2.atName
      let (f, first) ← holding [ov] (getMethod ov "__init__" (pure false))
      callWith p3 f first (backTo p3 (starEach [] (envX qual scope L 125 (.ref 124) [("__class__", 115)]))) []) := by intro _; rfl) :
    SpecC (n + 1) 125 [.ref xa, a1, a2] H Φ := fun C m hroom vs hvs s Q E mm hs F r hq => by
  obtain ⟨FG, BG, st, lv⟩ := groundX (R := fun r s' => match r with | .ok (.ret v) => Q v s' | .ok _ => False | .error e => E e s') C.B F hs.led C.hA C.hf C.hke
  obtain ⟨binds, hb, hab⟩ := hbind vs hvs
  have hl : ∀ x ∈ binds, scope.names.lookup x.1 = some .local := fun x hx => by
    have := List.all_eq_true.mp hloc (x.1, er x.2) (by rw [← hab]; exact List.mem_map_of_mem (f := fun p : Str × Value => (p.1, er p.2)) hx)
    exact of_decide_eq_true this
  refine ks_codeAny_call_defAt (fd := fnX name qual params (.Expr (.Call (.Attribute (.Call (.Name "super" p0) [] [] p1) "__init__" p2) [] [] p3) p4 :: rest) scope [("__class__", 115)] dV kV doc pm an (.ref 124) ct) (body := .Expr (.Call (.Attribute (.Call (.Name "super" p0) [] [] p1) "__init__" p2) [] [] p3) p4 :: rest) (binds := binds) (by have := C.hd; lia) ((C.X.keeps F.keep) _ _ (lk _)) rfl (C.T.nolimit.keeps F.keep) (codeRec_of (C.X.keeps F.keep) (hcd _)) rfl (BindsTo.of_eq hb) hcell hl (fun h₁ hns hk₁ => ?_) hco hgen hk
  let C' := callee C H s (envX qual scope s.heap.objs.size 125 (.ref 124) [("__class__", 115)]) ⟨m, hs⟩ (by lia) rfl hk BG st
  have hlr : LocRep (fun x => ([(ar.arg, .ref xa), (n2, a1), (n3, a2)] : List (Str × AV)).reverse.lookup x) (fun x => binds.reverse.lookup x) := fun x a e => by
    have : ∀ l : List (Str × Value), ∀ x a, (l.map fun p => (p.1, er p.2)).lookup x = some a → (l.lookup x).map er = some a := by
      intro l x a h
      induction l with
      | nil => cases h
      | cons p q ih =>
        obtain ⟨p1, p2⟩ := p
        simp only [List.map_cons, List.lookup_cons] at h ⊢
        cases hb : (x == p1) with
        | true => simp only [hb] at h ⊢; simpa using h
        | false => simp only [hb] at h ⊢; exact ih h
    have e' := e
    rw [← hab, ← List.map_reverse] at e'
    exact this _ _ _ e'
  have hs' : St C' (fun x => ([(ar.arg, .ref xa), (n2, a1), (n3, a2)] : List (Str × AV)).reverse.lookup x) H { s with heap := h₁, toks := s.toks + binds.length } := by
    refine ⟨⟨_, ⟨hns, fun b o e => hk₁ b o (of_hideAll _ e), Nat.le_of_eq (hideAll_size _ _)⟩, hlr⟩, fun a t o e => ?_, ?_⟩
    · obtain ⟨ob, e1, r1, n1, g1⟩ := hs.hr a t o e
      exact ⟨ob, hk₁ _ _ e1, r1, Nat.ne_of_lt (Heap.lt_size e1), hideAll_none _ (List.mem_map_of_mem (f := (·.1)) ((ledH_mem (p := (a, ob))).mpr ⟨by rw [e]; rfl, e1⟩)), g1.2⟩
    · obtain ⟨h0, tk0, e0⟩ := hs.sr; exact ⟨h₁, _, by rw [e0]⟩
  obtain ⟨mm', F', r'⟩ := hs'.fr
  have hv : mm' ar.arg = some (.ref xa) := by
    have := r' ar.arg (.ref xa) hself
    cases q : mm' ar.arg with
    | none => rw [q] at this; cases this
    | some v => rw [q] at this; exact congrArg some (er_ref (Option.some.inj this))
  obtain ⟨es, nn, I, hr⟩ := hs'.inst hx hd
  have X' : (KK C'.w).In C'.g := C'.X
  refine ks_wpAt_execs_cons (ks_wpAt_Expr_any (ks_wpAt_MethodCall ?_ (he _)) (hi _))
  refine ks_node (C := 227) (D := 227) (K := KK C'.w) F' X' allOf_news C'.T (lk _) hp hv I rfl rfl (by decide +kernel) rfl rfl (mro_227 _) (nb_super _) (by decide) hks hkc hka hk (by decide +kernel) bt_super (fun so h2 F2 N2 l2 => ?_)
  have keep2 := News.keepAll (F₀ := F') F2 N2
  obtain ⟨hs2, k2⟩ := hs'.keptN (tk := s.toks + binds.length) r' F2 keep2
  obtain ⟨es2, nn2, I2, hr2⟩ := hs2.inst hx hd
  refine ks_method (K := KK C'.w) F2 X' N2 (.head _) I2 (tp_any _) (ks_83 _) (ty_83 _) (by decide) (fun q h3 F3 N3 l3 => ?_)
  have N3' : News C'.g C'.L h3 ((q, methodObj (.ref 83) (.ref xa)) :: allOf C'.g C'.L h₁) := fun p hp => N3 p (by
    rcases List.mem_cons.mp hp with rfl | hp
    · exact .head _
    · exact .tail _ (.tail _ hp))
  obtain ⟨hs3, k3⟩ := hs'.keptN (tk := s.toks + binds.length + 1) r' F3 (News.keepAll (F₀ := F') F3 N3')
  refine callWith_M0 (K := KK C'.w) (methP N3 (.head _) (X'.keeps F3.keep)) (fn_83 _) ?_
  refine call_meth N3 (.head _) ?_
  refine h83 C' _ (by show k ≤ C.room - 1; omega) [.ref xa] rfl _ _ _ _ hs3 F3 r' fun v H4 s4 h4 hs4 k4 F4 => ?_
  refine wpAt_of_wpAny ?_
  refine h C' (by show n ≤ C.room - 1; omega) rfl (er v) H4 h4 rfl _ _ _ hs4 fun f m' H' s' p hs'' k' => ?_
  refine lv _ _ (back (C' := C') hs F r rfl rfl rfl hs'' fun h1 k1 F2 => ?_)
  cases f with
  | ret v => exact hq v H' s' p h1 k1 F2
  | next => exact hq .none H' s' p h1 k1 F2
  | brk => exact p.elim
  | cont => exact p.elim
--T P8
noncomputable def hts0 : List (Int × AV) := [(1, .int 0), (2, .int 0), (3, .int 0), (4, .int 0)]
theorem heat0 : Heat hts0 := by
  refine ⟨⟨fun p hp => ?_, by decide⟩, fun v h1 h4 => ?_, fun p hp => ?_⟩
  · simp only [hts0, List.mem_cons, List.not_mem_nil, or_false] at hp
    rcases hp with rfl | rfl | rfl | rfl <;> exact ⟨by decide, by decide⟩
  · have : v = 1 ∨ v = 2 ∨ v = 3 ∨ v = 4 := by lia
    rcases this with rfl | rfl | rfl | rfl <;> exact ⟨0, rfl⟩
  · simp only [hts0, List.mem_cons, List.not_mem_nil, or_false] at hp
    rcases hp with rfl | rfl | rfl | rfl <;> exact ⟨0, rfl⟩
/-- a new search -/
noncomputable def sg0 (x dx a1 a2 a3 a4 a5 a7 b1 b2 b3 b4 : Addr) (bl : AV) : Sg :=
  { x := x, dx := dx, aKn := a1, aHt := a2, aCs := a3, aRow := a4, aBg := a5, aLk := a7, aRows := b1, aWt := b2, aHeats := b3, aLog := b4, kn := [], ht := [], cs := [], row := [], bg := [], seen := 0, lk := [], rows := [], wt := [],
    heats := hts0, gain := 1, log := [], refuted := false, blamed := bl, clashes := 0 }
theorem adc0 {x dx a1 a2 a3 a4 a5 a7 b1 b2 b3 b4 : Addr} {bl : AV} : Adc [] (sg0 x dx a1 a2 a3 a4 a5 a7 b1 b2 b3 b4 bl) := by
  have L : Lk (sg0 x dx a1 a2 a3 a4 a5 a7 b1 b2 b3 b4 bl) := by
    refine ⟨fun l hl => (by cases hl), List.nodup_nil, fun v hv => rfl, fun p l hp => (by cases hp), fun l hl => (by cases hl), DK.nil, fun p hp => (by cases hp), DK.nil, DK.nil, DK.nil, fun p hp => (by cases hp), heat0, List.Pairwise.nil, fun b hb => (by cases hb), Nat.le_refl _⟩
  refine ⟨rfl, L, fun _ => ?_, fun q => (by cases q)⟩
  refine ⟨L, fun r hr => (by cases hr), fun l => ⟨List.nodup_nil, fun n => ⟨fun h => (by cases h), fun ⟨r, hr, _⟩ => (by cases hr)⟩⟩, DK.nil, fun n r l p hr => (by cases hr), fun p l hp => (by cases hp), fun r hr => (by cases hr), fun p l hp => (by cases hp), fun g hg => (by cases hg)⟩
--T S17

theorem values_init {H : AH} {xa dx : Addr} (hS : Al H [(.attrs, dx, .attrs []), (.inst, xa, .inst dx)]) (Φ : AV → AH → Prop)
    (h : ∀ H' a1 a2 a3 a4 a5 a7, Fr0 H H' → Al H' [(.attrs, dx, .attrs [("known", .ref a1), ("heights", .ref a2), ("causes", .ref a3), ("row", .ref a4), ("begins", .ref a5), ("seen", .int 0), ("liked", .ref a7)]), (.inst, xa, .inst dx),
      (.liked, a7, .idict []), (.begins, a5, .list []), (.row, a4, .list []), (.causes, a3, .idict []), (.heights, a2, .idict []), (.known, a1, .idict [])] → Φ .none H') : SpecC 1 83 [.ref xa] H Φ := by
  refine spec_plainC (fun w => rfl) (fun w => rfl) (binds1 (n1 := "self") (fun _ => rfl) rfl) (by rfl) (by decide) rfl rfl rfl (fun C hroom hfe hlt => ?_)
  generalize hm : (fun x => List.lookup x _ : Loc) = m
  have ms : m (PySem.Str.ofString "self") = some (.ref xa) := by rw [← hm]; rfl
  clear hm
  repeat walk_at "s"
  refine ex_initN (H0 := H) .known hS .refl ms ?_ (tk_known _)
  repeat walk_at "s"
  intro a1 hn1
  refine ⟨a1, _, H, rfl, hn1, rfl, .refl, fun H1 hS1 f1 => ?_⟩
  replace hS1 : Al H1 [(.attrs, dx, .attrs [("known", .ref a1)]), (.inst, xa, .inst dx), (.known, a1, .idict [])] := hS1
  clear hS hn1
  repeat walk_at "s"
  refine ex_initN (H0 := H) .heights hS1 f1 ms ?_ (tk_heights _)
  repeat walk_at "s"
  intro a2 hn
  refine ⟨a2, _, H1, rfl, hn, rfl, .refl, fun H2 hS2 f2 => ?_⟩
  replace hS2 : Al H2 [(.attrs, dx, .attrs [("known", .ref a1), ("heights", .ref a2)]), (.inst, xa, .inst dx), (.heights, a2, .idict []), (.known, a1, .idict [])] := hS2
  clear hS1 f1 hn
  repeat walk_at "s"
  refine ex_initN (H0 := H) .causes hS2 f2 ms ?_ (tk_causes _)
  repeat walk_at "s"
  intro a3 hn
  refine ⟨a3, _, H2, rfl, hn, rfl, .refl, fun H3 hS3 f3 => ?_⟩
  replace hS3 : Al H3 [(.attrs, dx, .attrs [("known", .ref a1), ("heights", .ref a2), ("causes", .ref a3)]), (.inst, xa, .inst dx), (.causes, a3, .idict []), (.heights, a2, .idict []), (.known, a1, .idict [])] := hS3
  clear hS2 f2 hn
  repeat walk_at "s"
  refine ex_initN (H0 := H) .row hS3 f3 ms ?_ (tk_row _)
  repeat walk_at "s"
  refine ⟨by simp, fun a4 hn => ?_⟩
  refine ⟨a4, _, H3, rfl, hn, rfl, .refl, fun H4 hS4 f4 => ?_⟩
  replace hS4 : Al H4 [(.attrs, dx, .attrs [("known", .ref a1), ("heights", .ref a2), ("causes", .ref a3), ("row", .ref a4)]), (.inst, xa, .inst dx), (.row, a4, .list []), (.causes, a3, .idict []), (.heights, a2, .idict []), (.known, a1, .idict [])] := hS4
  clear hS3 f3 hn
  repeat walk_at "s"
  refine ex_initN (H0 := H) .begins hS4 f4 ms ?_ (tk_begins _)
  repeat walk_at "s"
  refine ⟨by simp, fun a5 hn => ?_⟩
  refine ⟨a5, _, H4, rfl, hn, rfl, .refl, fun H5 hS5 f5 => ?_⟩
  replace hS5 : Al H5 [(.attrs, dx, .attrs [("known", .ref a1), ("heights", .ref a2), ("causes", .ref a3), ("row", .ref a4), ("begins", .ref a5)]), (.inst, xa, .inst dx), (.begins, a5, .list []), (.row, a4, .list []), (.causes, a3, .idict []), (.heights, a2, .idict []), (.known, a1, .idict [])] := hS5
  clear hS4 f4 hn
  repeat walk_at "s"
  refine ex_initV (H0 := H) hS5 f5 ms ?_ (tk_seen _)
  repeat walk_at "s"
  refine ⟨rfl, fun H6 hS6 f6 => ?_⟩
  replace hS6 : Al H6 [(.attrs, dx, .attrs [("known", .ref a1), ("heights", .ref a2), ("causes", .ref a3), ("row", .ref a4), ("begins", .ref a5), ("seen", .int 0)]), (.inst, xa, .inst dx), (.begins, a5, .list []), (.row, a4, .list []), (.causes, a3, .idict []), (.heights, a2, .idict []), (.known, a1, .idict [])] := hS6
  clear hS5 f5
  repeat walk_at "s"
  refine ex_initN (H0 := H) .liked hS6 f6 ms ?_ (tk_liked _)
  repeat walk_at "s"
  intro a7 hn
  refine ⟨a7, _, H6, rfl, hn, rfl, .refl, fun H7 hS7 f7 => ?_⟩
  replace hS7 : Al H7 [(.attrs, dx, .attrs [("known", .ref a1), ("heights", .ref a2), ("causes", .ref a3), ("row", .ref a4), ("begins", .ref a5), ("seen", .int 0), ("liked", .ref a7)]), (.inst, xa, .inst dx), (.liked, a7, .idict []), (.begins, a5, .list []), (.row, a4, .list []), (.causes, a3, .idict []), (.heights, a2, .idict []), (.known, a1, .idict [])] := hS7
  clear hS6 f6 hn
  repeat walk_at "s"
  exact h _ _ _ _ _ _ _ f7 hS7
/-- rows to be given: lists or tuples of ints -/
noncomputable def Cls (H : AH) (vs : List AV) (ls : List (List Int)) : Prop := vs.length = ls.length ∧ ∀ (i : Nat) v l, vs[i]? = some v → ls[i]? = some l → ∃ a t o, v = .ref a ∧ H a = some (t, o) ∧ t.out = true ∧ (o = .list (l.map .int) ∨ o = .tup (l.map .int))
theorem Cls.fr {H H' : AH} {vs ls} (h : Cls H vs ls) (f : Fr0 H H') : Cls H' vs ls := ⟨h.1, fun i v l e q => by
  obtain ⟨a, t, o, h1, h2, h3, h4⟩ := h.2 i v l e q
  exact ⟨a, t, o, h1, f _ _ _ h2 h3, h3, h4⟩⟩
theorem search_init {H : AH} {xa dx ac : Addr} {tc : Tag} {vs : List AV} {ls : List (List Int)} (hS : Al H [(.attrs, dx, .attrs []), (.inst, xa, .inst dx)]) (hc : H ac = some (tc, .list vs)) (hto : tc.out = true) (hcl : Cls H vs ls)
    (hz : ls.length ≤ 100) (hl : ∀ l ∈ ls, l.length < 60 ∧ ∀ x ∈ l, 1 ≤ ab x ∧ ab x ≤ 4) (Φ : AV → AH → Prop)
    (h : ∀ H' σ, At H' σ → Fr0 H H' → σ.x = xa → Adc ls σ → σ.rows.length ≤ ls.length → σ.log.length ≤ ls.length → Φ .none H') : SpecC 5 125 [.ref xa, .ref ac, .int 4] H Φ := by
  refine spec_super (n := 4) (k := 1) (ar := { arg := "self", annotation := none, pos := ⟨56, 17, 56, 21⟩ }) (n2 := "clauses") (n3 := "many") (fun w => rfl) (fun w => rfl) (binds3 (fun _ _ _ => rfl) rfl) rfl rfl (by rfl) (by decide) rfl rfl rfl (by rfl) (by rfl) (by rfl)
    (hS .inst xa (.inst dx) (by simp)) (hS .attrs dx (.attrs []) (by simp)) (values_init hS (fun v H' => ∃ a1 a2 a3 a4 a5 a7, Fr0 H H' ∧ Al H' [(.attrs, dx, .attrs [("known", .ref a1), ("heights", .ref a2), ("causes", .ref a3), ("row", .ref a4), ("begins", .ref a5), ("seen", .int 0), ("liked", .ref a7)]), (.inst, xa, .inst dx),
      (.liked, a7, .idict []), (.begins, a5, .list []), (.row, a4, .list []), (.causes, a3, .idict []), (.heights, a2, .idict []), (.known, a1, .idict [])]) (fun H' a1 a2 a3 a4 a5 a7 f k => ⟨a1, a2, a3, a4, a5, a7, f, k⟩)) (by lia) (fun C hroom hfe v H1 hP => ?_)
  obtain ⟨a1, a2, a3, a4, a5, a7, f1, hS1⟩ := hP
  generalize hm : (fun x => List.lookup x _ : Loc) = m
  have ms : m (PySem.Str.ofString "self") = some (.ref xa) := by rw [← hm]; rfl
  have mc : m (PySem.Str.ofString "clauses") = some (.ref ac) := by rw [← hm]; rfl
  have mm : m (PySem.Str.ofString "many") = some (.int 4) := by rw [← hm]; rfl
  clear hm hS
  repeat walk_at "s"
  refine ex_initN (H0 := H) .rows hS1 f1 ms ?_ (tk_rows _)
  repeat walk_at "s"
  refine ⟨by simp, fun b1 hn => ?_⟩
  refine ⟨b1, _, H1, rfl, hn, rfl, .refl, fun H2 hS2 f2 => ?_⟩
  replace hS2 : Al H2 [(.attrs, dx, .attrs [("known", .ref a1), ("heights", .ref a2), ("causes", .ref a3), ("row", .ref a4), ("begins", .ref a5), ("seen", .int 0), ("liked", .ref a7), ("rows", .ref b1)]), (.inst, xa, .inst dx),
      (.rows, b1, .list []), (.liked, a7, .idict []), (.begins, a5, .list []), (.row, a4, .list []), (.causes, a3, .idict []), (.heights, a2, .idict []), (.known, a1, .idict [])] := hS2
  clear hS1 f1 hn
  repeat walk_at "s"
  refine ex_initN (H0 := H) .watching hS2 f2 ms ?_ (tk_watching _)
  repeat walk_at "s"
  intro b2 hn
  refine ⟨b2, _, H2, rfl, hn, rfl, .refl, fun H3 hS3 f3 => ?_⟩
  replace hS3 : Al H3 [(.attrs, dx, .attrs [("known", .ref a1), ("heights", .ref a2), ("causes", .ref a3), ("row", .ref a4), ("begins", .ref a5), ("seen", .int 0), ("liked", .ref a7), ("rows", .ref b1), ("watching", .ref b2)]), (.inst, xa, .inst dx),
      (.watching, b2, .idict []), (.rows, b1, .list []), (.liked, a7, .idict []), (.begins, a5, .list []), (.row, a4, .list []), (.causes, a3, .idict []), (.heights, a2, .idict []), (.known, a1, .idict [])] := hS3
  clear hS2 f2 hn
  repeat walk_at "s"
  refine ex_initN (H0 := H) .heats hS3 f3 ms ?_ (tk_heats _)
  refine ev_dcomp [] rfl ?_
  repeat walk_at "s"
  refine cv_range2 (fun r hr => ?_)
  have er := Ext.new (x := (.tmp, .rng 1 (4 + 1))) hr
  refine ⟨_, _, src_rng AH.set_self (by decide), by decide, fun i out H4 => H4 = H3.set r (.tmp, .rng 1 (4 + 1)) ∧ out = hts0.take i, ⟨rfl, rfl⟩, fun _ _ _ _ => trivial, fun i a ha out H4 ⟨e, eo⟩ D hD => ?_, fun out H4 ⟨e, eo⟩ l hl4 => ?_⟩
  · obtain ⟨hi, rfl⟩ := rng_get ha
    have hi4 : i < 4 := by simpa using hi
    repeat walk_at "s"
    refine ⟨_, rfl, ?_⟩
    repeat walk_at "s"
    refine ⟨e, ?_⟩
    rw [eo]
    have : i = 0 ∨ i = 1 ∨ i = 2 ∨ i = 3 := by (clear hz hroom hi; lia)
    rcases this with rfl | rfl | rfl | rfl <;> rfl
  · subst e
    rw [rng_len] at eo
    replace eo : out = hts0 := eo
    subst eo
    refine ⟨l, _, _, rfl, hl4, rfl, er, fun H5 hS5 f5 => ?_⟩
    replace hS5 : Al H5 [(.attrs, dx, .attrs [("known", .ref a1), ("heights", .ref a2), ("causes", .ref a3), ("row", .ref a4), ("begins", .ref a5), ("seen", .int 0), ("liked", .ref a7), ("rows", .ref b1), ("watching", .ref b2), ("heats", .ref l)]), (.inst, xa, .inst dx), (.heats, l, .idict hts0), (.watching, b2, .idict []), (.rows, b1, .list []), (.liked, a7, .idict []), (.begins, a5, .list []), (.row, a4, .list []), (.causes, a3, .idict []), (.heights, a2, .idict []), (.known, a1, .idict [])] := hS5
    clear hS3 f3 hl4 er hr
    repeat walk_at "s"
    refine ex_initV (H0 := H) hS5 f5 ms ?_ (tk_gain _)
    repeat walk_at "s"
    refine ⟨rfl, fun H6 hS6 f6 => ?_⟩
    replace hS6 : Al H6 [(.attrs, dx, .attrs [("known", .ref a1), ("heights", .ref a2), ("causes", .ref a3), ("row", .ref a4), ("begins", .ref a5), ("seen", .int 0), ("liked", .ref a7), ("rows", .ref b1), ("watching", .ref b2), ("heats", .ref l), ("gain", .int 1)]), (.inst, xa, .inst dx), (.heats, l, .idict hts0), (.watching, b2, .idict []), (.rows, b1, .list []), (.liked, a7, .idict []), (.begins, a5, .list []), (.row, a4, .list []), (.causes, a3, .idict []), (.heights, a2, .idict []), (.known, a1, .idict [])] := hS6
    clear hS5 f5
    repeat walk_at "s"
    refine ex_initN (H0 := H) .log hS6 f6 ms ?_ (tk_log _)
    repeat walk_at "s"
    refine ⟨by simp, fun b4 hn => ⟨b4, _, H6, rfl, hn, rfl, .refl, fun H7 hS7 f7 => ?_⟩⟩
    replace hS7 : Al H7 [(.attrs, dx, .attrs [("known", .ref a1), ("heights", .ref a2), ("causes", .ref a3), ("row", .ref a4), ("begins", .ref a5), ("seen", .int 0), ("liked", .ref a7), ("rows", .ref b1), ("watching", .ref b2), ("heats", .ref l), ("gain", .int 1), ("log", .ref b4)]), (.inst, xa, .inst dx), (.log, b4, .list []), (.heats, l, .idict hts0), (.watching, b2, .idict []), (.rows, b1, .list []), (.liked, a7, .idict []), (.begins, a5, .list []), (.row, a4, .list []), (.causes, a3, .idict []), (.heights, a2, .idict []), (.known, a1, .idict [])] := hS7
    clear hS6 f6 hn
    repeat walk_at "s"
    refine ex_initV (H0 := H) hS7 f7 ms ?_ (tk_is_refuted _)
    repeat walk_at "s"
    refine ⟨rfl, fun H8 hS8 f8 => ?_⟩
    replace hS8 : Al H8 [(.attrs, dx, .attrs [("known", .ref a1), ("heights", .ref a2), ("causes", .ref a3), ("row", .ref a4), ("begins", .ref a5), ("seen", .int 0), ("liked", .ref a7), ("rows", .ref b1), ("watching", .ref b2), ("heats", .ref l), ("gain", .int 1), ("log", .ref b4), ("is_refuted", .bool false)]), (.inst, xa, .inst dx), (.log, b4, .list []), (.heats, l, .idict hts0), (.watching, b2, .idict []), (.rows, b1, .list []), (.liked, a7, .idict []), (.begins, a5, .list []), (.row, a4, .list []), (.causes, a3, .idict []), (.heights, a2, .idict []), (.known, a1, .idict [])] := hS8
    clear hS7 f7
    repeat walk_at "s"
    refine ex_initN (H0 := H) .tmp hS8 f8 ms ?_ (tk_blamed _)
    repeat walk_at "s"
    refine ⟨by simp, fun b5 hn => ⟨b5, _, H8, rfl, hn, rfl, .refl, fun H9 hS9 f9 => ?_⟩⟩
    replace hS9 : Al H9 [(.attrs, dx, .attrs [("known", .ref a1), ("heights", .ref a2), ("causes", .ref a3), ("row", .ref a4), ("begins", .ref a5), ("seen", .int 0), ("liked", .ref a7), ("rows", .ref b1), ("watching", .ref b2), ("heats", .ref l), ("gain", .int 1), ("log", .ref b4), ("is_refuted", .bool false), ("blamed", .ref b5)]), (.inst, xa, .inst dx), (.tmp, b5, .tup []), (.log, b4, .list []), (.heats, l, .idict hts0), (.watching, b2, .idict []), (.rows, b1, .list []), (.liked, a7, .idict []), (.begins, a5, .list []), (.row, a4, .list []), (.causes, a3, .idict []), (.heights, a2, .idict []), (.known, a1, .idict [])] := hS9
    clear hS8 f8 hn
    repeat walk_at "s"
    refine ex_initV (H0 := H) hS9 f9 ms ?_ (tk_clashes _)
    repeat walk_at "s"
    refine ⟨rfl, fun H10 hS10 f10 => ?_⟩
    replace hS10 : Al H10 [(.attrs, dx, .attrs [("known", .ref a1), ("heights", .ref a2), ("causes", .ref a3), ("row", .ref a4), ("begins", .ref a5), ("seen", .int 0), ("liked", .ref a7), ("rows", .ref b1), ("watching", .ref b2), ("heats", .ref l), ("gain", .int 1), ("log", .ref b4), ("is_refuted", .bool false), ("blamed", .ref b5), ("clashes", .int 0)]), (.inst, xa, .inst dx), (.tmp, b5, .tup []), (.log, b4, .list []), (.heats, l, .idict hts0), (.watching, b2, .idict []), (.rows, b1, .list []), (.liked, a7, .idict []), (.begins, a5, .list []), (.row, a4, .list []), (.causes, a3, .idict []), (.heights, a2, .idict []), (.known, a1, .idict [])] := hS10
    clear hS9 f9
    repeat walk_at "s"
    refine ex_initV (H0 := H) hS10 f10 ms ?_ (tk_conflict_limit _)
    repeat walk_at "s"
    refine ⟨rfl, fun H11 hS11 f11 => ?_⟩
    replace hS11 : Al H11 [(.attrs, dx, .attrs [("known", .ref a1), ("heights", .ref a2), ("causes", .ref a3), ("row", .ref a4), ("begins", .ref a5), ("seen", .int 0), ("liked", .ref a7), ("rows", .ref b1), ("watching", .ref b2), ("heats", .ref l), ("gain", .int 1), ("log", .ref b4), ("is_refuted", .bool false), ("blamed", .ref b5), ("clashes", .int 0), ("conflict_limit", .int 0)]), (.inst, xa, .inst dx), (.tmp, b5, .tup []), (.log, b4, .list []), (.heats, l, .idict hts0), (.watching, b2, .idict []), (.rows, b1, .list []), (.liked, a7, .idict []), (.begins, a5, .list []), (.row, a4, .list []), (.causes, a3, .idict []), (.heights, a2, .idict []), (.known, a1, .idict [])] := hS11
    clear hS10 f10
    have hA : At H11 (sg0 xa dx a1 a2 a3 a4 a5 a7 b1 b2 l b4 (.ref b5)) := fun t a o e => by
      cases t with
      | inst => cases e; exact hS11 .inst xa (.inst dx) (by simp)
      | attrs => cases e; exact hS11 .attrs dx _ (.head _)
      | known => cases e; exact hS11 .known a1 (.idict []) (by simp)
      | heights => cases e; exact hS11 .heights a2 (.idict []) (by simp)
      | causes => cases e; exact hS11 .causes a3 (.idict []) (by simp)
      | row => cases e; exact hS11 .row a4 (.list []) (by simp)
      | begins => cases e; exact hS11 .begins a5 (.list []) (by simp)
      | liked => cases e; exact hS11 .liked a7 (.idict []) (by simp)
      | rows => cases e; exact hS11 .rows b1 (.list []) (by simp)
      | watching => cases e; exact hS11 .watching b2 (.idict []) (by simp)
      | heats => cases e; exact hS11 .heats l (.idict hts0) (by simp)
      | log => cases e; exact hS11 .log b4 (.list []) (by simp)
      | clause i => cases i <;> cases e
      | watch k => cases e
      | law => cases e
      | tmp => cases e
      | cell => cases e
    clear hS11
    have hcl' := hcl.fr f11
    have hc11 := f11 _ _ _ hc hto
    repeat walk_at "s"
    refine ex_forO ?_
    repeat walk_at "s"
    refine ⟨_, _, src_list hc11, fun i m' H' => m' (PySem.Str.ofString "self") = some (.ref xa) ∧ ∃ σ, At H' σ ∧ Fr0 H11 H' ∧ σ.x = xa ∧ Adc (ls.take i) σ ∧ σ.rows.length ≤ i ∧ σ.log.length ≤ i,
      ⟨ms, _, hA, .refl, rfl, adc0, Nat.zero_le _, Nat.zero_le _⟩, fun i m' H' ⟨_, σ, _, f, _⟩ => ⟨tc, f _ _ _ hc11 hto⟩, fun i v hv m' H' ⟨ms', σ, hA', f, hx, A, hr, hg⟩ => ?_, fun m' H' ⟨ms', σ, hA', f, hx, A, hr, hg⟩ => ?_⟩
    · have hi : i < ls.length := by rw [← hcl.1]; exact (List.getElem?_eq_some_iff.mp hv).1
      obtain ⟨lv, hlv⟩ : ∃ lv, ls[i]? = some lv := ⟨_, List.getElem?_eq_getElem hi⟩
      obtain ⟨av, tv', ov, rfl, e2, e3, e4⟩ := hcl'.2 i v lv hv hlv
      obtain ⟨hlz, hlr⟩ := hl lv (List.mem_of_getElem? hlv)
      rw [← hx] at ms'
      repeat walk_at "s"
      refine add_spec hA' A (f _ _ _ e2 e3) e4 hlz hlr (by (clear hroom hg e4 hlz; lia)) (by (clear hroom hr e4 hlz; lia)) _ (fun H12 σ2 v2 hv2 hA2 f2 hx2 A2 r2 g2 => ?_) _ _ (by (clear hz hr hg hi e4 hlz; lia))
      refine ⟨hv2, ?_⟩
      repeat walk_at "s"
      refine ⟨by rw [← hx]; walk_at "loc", σ2, hA2, f.trans f2, hx2.trans hx, ?_, by (clear hz hroom hg hi e4 hlz g2; lia), by (clear hz hroom hr hi e4 hlz r2; lia)⟩
      rw [List.take_add_one, hlv]; exact A2
    · rw [hcl.1] at A hr hg
      rw [List.take_of_length_le (Nat.le_refl _)] at A
      repeat walk_at "s"
      exact h H' σ hA' (f11.trans f) hx A hr hg
--T S18
/-- Search(clauses, 4) -/
theorem cv_Search {C : Ctx} {m : Loc} {H : AH} {ac : Addr} {tc : Tag} {vs : List AV} {ls : List (List Int)} {Φ : AV → AH → Prop} (hroom : 6 ≤ C.room) (hc : H ac = some (tc, .list vs)) (hto : tc.out = true) (hcl : Cls H vs ls)
    (hz : ls.length ≤ 100) (hl : ∀ l ∈ ls, l.length < 60 ∧ ∀ x ∈ l, 1 ≤ ab x ∧ ab x ≤ 4)
    (h : ∀ H' σ, At H' σ → Fr0 H H' → Adc ls σ → σ.rows.length ≤ ls.length → σ.log.length ≤ ls.length → Φ (.ref σ.x) H') : CV C m H (.ref 227) [.ref ac, .int 4] Φ := fun vs' e s Q E hs hq => by
  obtain ⟨v1, v2, rfl, e1, e2⟩ := vs2 e
  obtain ⟨mm, F, r⟩ := hs.fr
  refine call_cls F C.X allOf_news (mk_227 _) (in_227 _) (fn_125 _) (fun x dx h' F' N' l1 l2 => ?_)
  have Nd := N' (dx, dictOf [] 0) (.tail _ (.head _))
  have Nx := N' (x, instObj 227 dx) (.head _)
  have N1 : News C.g C.L h' ((dx, dictOf [] 0) :: allOf C.g C.L s.heap) := fun p hp => N' p (.tail _ hp)
  have keep := News.keepAll (F₀ := F) F' N1
  have hdx : s.heap.get? dx = none := by
    cases q : s.heap.get? dx with
    | none => rfl
    | some o => exact absurd (l1 (dx, o) (allOf_mem.mpr ⟨Nd.2.1, Nd.2.2, q⟩)) (Nat.lt_irrefl _)
  have hxx : s.heap.get? x = none := by
    cases q : s.heap.get? x with
    | none => rfl
    | some o => exact absurd (Nat.lt_trans (l1 (x, o) (allOf_mem.mpr ⟨Nx.2.1, Nx.2.2, q⟩)) l2) (Nat.lt_irrefl _)
  have low : sysModules < dx := by
    obtain ⟨ob, e0, _, nL, g1⟩ := hs.hr ac tc _ hc
    exact Nat.lt_trans g1.2 (l1 (ac, ob) (allOf_mem.mpr ⟨nL, g1.1, e0⟩))
  obtain ⟨s1, k1, n1⟩ := hs.grownN (t := .attrs) (o := .attrs []) (tk := s.toks) r F' keep hdx Nd.2.1 low Nd.1 ⟨[], 0, rfl, rfl⟩
  have n2 : H x = none := by
    cases q : H x with
    | none => rfl
    | some y => obtain ⟨ob1, e1, _⟩ := hs.hr x y.1 y.2 q; rw [hxx] at e1; cases e1
  have hne : x ≠ dx := fun q => by rw [q] at l2; exact Nat.lt_irrefl _ l2
  let H1 : AH := (H.set dx (.attrs, .attrs [])).set x (.inst, .inst dx)
  have s2 : St C m H1 { s with heap := h', toks := s.toks } := ⟨s1.fr, fun b t o eb => by
    by_cases q : b = x
    · subst q
      have eb' : ((H.set dx (.attrs, .attrs [])).set b (.inst, .inst dx)) b = some (t, o) := eb
      rw [AH.set_self] at eb'; cases eb'
      exact ⟨_, Nx.1, rfl, Nx.2.1, Nx.2.2, Nat.lt_trans low l2⟩
    · have eb' : ((H.set dx (.attrs, .attrs [])).set x (.inst, .inst dx)) b = some (t, o) := eb
      rw [AH.set_ne q] at eb'
      exact s1.hr b t o eb', s1.sr⟩
  have k2 : Kp C H H1 s.heap h' := fun b o eb n l => by
    obtain ⟨p, q⟩ := k1 b o eb n l
    refine ⟨p, ?_⟩
    show ((H.set dx (.attrs, .attrs [])).set x (.inst, .inst dx)) b = none
    rw [AH.set_ne (by rintro rfl; rw [hxx] at eb; cases eb)]; exact q
  have f1 : Fr0 H H1 := (Fr0.new n1).trans (Fr0.new (by rw [AH.set_ne hne]; exact n2))
  have hS : Al H1 [(.attrs, dx, .attrs []), (.inst, x, .inst dx)] := fun t a o hm => by
    simp only [List.mem_cons, List.not_mem_nil, or_false] at hm
    rcases hm with hm | hm
    · cases hm
      show ((H.set dx (.attrs, .attrs [])).set x (.inst, .inst dx)) dx = _
      rw [AH.set_ne (Ne.symm hne)]; exact AH.set_self
    · cases hm; exact AH.set_self
  let C2 : Ctx := { C with A := C.A.under (.builtin "type.__call__" ⟨[.ref 227, v1, v2], []⟩), room := C.room - 1, hA := C.hA, hd := by have := C.hd; show C.A.depth + 1 + (C.room - 1) < recursionLimit; (clear hz l2 Nd Nx low; omega), hu := by have := C.hu; show C.A.units + 1 + 10 * (C.room - 1) + 100 < cLine; (clear hz l2 Nd Nx low; lia), hh := C.hh }
  have s3 : St C2 m H1 { s with heap := h', toks := s.toks } := ⟨s2.fr, s2.hr, s2.sr⟩
  have spec := search_init (xa := x) (dx := dx) hS (f1 _ _ _ hc hto) hto (hcl.fr f1) hz hl (fun v H' => v = .none ∧ ∃ σ, At H' σ ∧ Fr0 H1 H' ∧ σ.x = x ∧ Adc ls σ ∧ σ.rows.length ≤ ls.length ∧ σ.log.length ≤ ls.length) (fun H' σ a b c d e f => ⟨rfl, σ, a, b, c, d, e, f⟩)
  have := spec C2 m (by show 5 ≤ C.room - 1; (clear hz l2 Nd Nx low; omega)) [.ref x, v1, v2] (by show [er (.ref x), er v1, er v2] = _; rw [e1, e2]; rfl) { s with heap := h', toks := s.toks } (fun v s' => v = .none ∧ Q (.ref x) s') E mm s3 F' r (fun v H' s4 p hs4 k4 F4 => by
    obtain ⟨ev, σ, hA, f, hx, A, hr, hg⟩ := p
    refine ⟨er_none ev, hq (.ref x) H' s4 ?_ ⟨hs4.fr, hs4.hr, hs4.sr⟩ (k2.trans k4)⟩
    have := h H' σ hA (f1.trans f) A hr hg
    rw [hx] at this; exact this)
  exact codeAny_mono this fun res s' z => by
    rcases res with e | (v | _ | _ | _) <;> exact z
--T Fw24
noncomputable def slook (kvs : List (Str × AV)) (k : Str) : Option AV := (kvs.find? fun kv => kv.1 = k).map (·.2)
noncomputable def sstore (kvs : List (Str × AV)) (k : Str) (v : AV) : List (Str × AV) := if kvs.any (fun kv => kv.1 = k) then kvs.map (fun kv => if kv.1 = k then (kv.1, v) else kv) else kvs ++ [(k, v)]
theorem slook_of (kvs : List (Str × Value)) (k : Str) : (valueAt kvs k).map er = slook (kvs.map erk) k := by
  induction kvs with
  | nil => rfl
  | cons p r ih =>
    unfold valueAt slook at *
    simp only [List.map_cons, List.find?_cons]
    by_cases h : p.1 = k
    · simp [h]
    · simpa [h] using ih
theorem sstore_of (kvs : List (Str × Value)) (k : Str) (v : Value) : (stored kvs k v).map erk = sstore (kvs.map erk) k (er v) := by
  unfold stored sstore
  have : (kvs.map erk).any (fun kv => decide (kv.1 = k)) = kvs.any (fun kv => decide (kv.1 = k)) := by
    rw [List.any_map]; rfl
  rw [this]
  split
  · simp only [List.map_map]
    apply List.map_congr_left
    intro p _
    by_cases h : p.1 = k <;> simp [h]
  · simp [erk]
section
variable {C : Ctx} {env : Env} {vm m : Loc} {H : AH} {s : Shared}
theorem St.sdictAt {a t kvs} (hs : St C m H s) (hH : H a = some (t, .sdict kvs)) :
    ∃ (ob : Obj) (kvs' : List (Str × Value)), s.heap.get? a = some ob ∧ ob.IsDictOf (PySem.strKind PG C.w) kvs' ∧ kvs'.map erk = kvs ∧ s.heap.DictOf (PySem.strKind PG C.w) a kvs' ∧ (a == sysModules) = false ∧ (a, ob) ∈ allOf C.g C.L s.heap := by
  obtain ⟨ob, e, ⟨kvs', hd, hm⟩, nL, ng⟩ := hs.hr a t _ hH
  exact ⟨ob, kvs', e, hd, hm, Heap.dictOf_iff.mpr ⟨ob, e, hd⟩, beq_eq_false_iff_ne.mpr (Nat.ne_of_gt ng.2), allOf_mem.mpr ⟨nL, ng.1, e⟩⟩
theorem op_item_sdict {value slice d t kvs k x Φ} (hH : H d = some (t, .sdict kvs)) (hx : slook kvs k = some x) (h : Φ x H)
    (hsub : ∀ u, subscripted slice false (.ref d) (.str k u) = operate [.ref d, .str k u] (getItem (.ref d) (.str k u)) := by intro _; rfl) :
    Op2 C env vm m H (subscriptTail value slice) (.ref d) (.str k) Φ := fun v1 v2 e1 e2 s Q E hs _ hq => by
  obtain rfl := er_ref e1
  obtain ⟨u, rfl⟩ := er_str e2
  obtain ⟨ob, kvs', e, hd, hm, hD, lo, hmem⟩ := hs.sdictAt hH
  rw [← hm, ← slook_of] at hx
  cases e' : valueAt kvs' k with
  | none => rw [e'] at hx; cases hx
  | some y =>
    rw [e'] at hx
    have hy : er y = x := Option.some.inj hx
    exact kba_turn (value' := .Name (PySem.Str.ofString "_") ⟨0, 0, 0, 0⟩) (fun _ => rfl) (kda_item (knd := PySem.strKind PG C.w) allOf_news hmem hd (strKind_is _ _ _ _) e' (hq y H _ (by rw [hy]; exact h) (hs.tok _) .refl) (hsub u) (fun _ => rfl))
theorem op_set_sdict {d t kvs k x Φ} (hH : H d = some (t, .sdict kvs)) (hz : kvs.length ≤ 1048576) (h : Φ (H.set d (t, .sdict (sstore kvs k x)))) : Op3 C env vm m H setItem (.ref d) (.str k) x Φ := fun v1 v2 v3 e1 e2 e3 s Q E hs _ hq => by
  obtain rfl := er_ref e1
  obtain ⟨u, rfl⟩ := er_str e2
  subst e3
  obtain ⟨ob, kvs', e, hd, hm, hD, lo, hmem⟩ := hs.sdictAt hH
  have hz' : kvs'.length ≤ sizeLine := by rw [← hm, List.length_map] at hz; exact Nat.le_trans hz sizeLine_big
  refine wpAny_setItem_pairs (knd := PySem.strKind PG C.w) (hsz := hz') (strKind_is _ _ _ _) hD fun h' hmm sb => ?_
  obtain ⟨o', ho', hd'⟩ := Heap.dictOf_iff.mp hmm
  obtain ⟨s1, k1⟩ := hs.sameBut (t' := t) (tk := s.toks + 1) hH sb ho' (o' := .sdict (sstore kvs k (er v3))) ⟨_, hd', by rw [← hm, ← sstore_of]⟩
  exact hq _ _ h s1 k1
/-- a thing that lies in the heap is tracked from here on -/
theorem St.track {t D ob o} (hs : St C m H s) (e : s.heap.get? D = some ob) (rep : o.rep C.w ob) (nL : D ≠ C.L) (hg : C.g.get? D = none) (low : sysModules < D) : St C m (H.set D (t, o)) s := ⟨hs.fr, fun b u p hb => by
  by_cases q : b = D
  · subst q; rw [AH.set_self] at hb; cases hb; exact ⟨ob, e, rep, nL, hg, low⟩
  · rw [AH.set_ne q] at hb; exact hs.hr b u p hb, hs.sr⟩
theorem newDict_isDictOfS {w : World} : Obj.IsDictOf (PySem.strKind PG w) { cls := .type "dict", data := .dict #[] } [] :=
  ⟨#[], 0, ⟨rfl, rfl, rfl⟩, rfl, fun _ h => by simp at h, Pairs.nil, List.nodup_nil⟩
/-- {k1: e1, k2: e2} with written keys -/
theorem ev_sdict2 {k1 k2 : Str} {kk1 kk2 : Nat} {p1 p2 : Pos} {e1 e2 : Expr} {pos : Pos} {Φ} (hk : k1 ≠ k2)
    (h : EV C env vm m H (eval e1 env) (fun a H1 => EV C env vm m H1 (eval e2 env) (fun b H2 => ∀ d, H2 d = none → Φ (.ref d) (H2.set d (.tmp, .sdict [(k1, a), (k2, b)]))))) :
    EV C env vm m H (eval (.Dict [some (.Constant (.str k1) kk1 p1), some (.Constant (.str k2) kk2 p2)] [e1, e2] pos) env) Φ := fun s Q E hs hv hq => by
  refine wpAny_Dict_walk (knd := PySem.strKind PG C.w) rfl rfl (by simp) (by exact Nat.le_of_ble_eq_true rfl) ?_
  obtain ⟨hs0, q0⟩ := hs.push (ob := { cls := .type "dict", data := .dict #[] }) (tk := s.toks)
  have hg := hs.gfresh
  have hL := hs.Lne
  have hlow := hs.low
  have hDn : H s.heap.objs.size = none := hs.fresh
  have he0 : (s.heap.push { cls := .type "dict", data := .dict #[] }).get? s.heap.objs.size = some { cls := .type "dict", data := .dict #[] } := Heap.get?_push_size _ rfl
  refine pairTrees_cons_walk (Constant_str ?_)
  have hs1 := hs0.tok (s.toks + 1)
  refine h _ _ E hs1 (hv.step q0) fun v1 H1 s1 h1 hs1 q1 => ?_
  refine pairTrees_cons_walk (Constant_str ?_)
  have hs1' := hs1.tok (s1.toks + 1)
  refine h1 _ _ E hs1' ((hv.step q0).step q1) fun v2 H2 s2 h2 hs2 q2 => ?_
  refine pairTrees_nil_walk ?_
  obtain ⟨g1, n1⟩ := q1 _ _ he0 hDn hL
  obtain ⟨g2, n2⟩ := q2 _ _ g1 n1 hL
  refine ⟨[(k1, v1), (k2, v2)], ⟨strKind_is _ _ _ _, rfl, strKind_is _ _ _ _, rfl, trivial⟩, Heap.dictOf_iff.mpr ⟨_, g2, newDict_isDictOfS⟩, fun h' hmm sb => ?_⟩
  obtain ⟨o', ho', hd'⟩ := Heap.dictOf_iff.mp hmm
  have hs3 : St C m H2 { s2 with heap := h', toks := s2.toks + 2 } := hs2.aside (I := s.heap.objs.size) n2 hL hg fun b o hb e => (sb.2 b hb).trans e
  have hmg : merged ([] : List (Str × Value)) [(k1, v1), (k2, v2)] = [(k1, v1), (k2, v2)] := by
    simp [merged, stored, hk]
  rw [hmg] at hd'
  have hs4 := hs3.track (t := .tmp) (o := .sdict [(k1, er v1), (k2, er v2)]) ho' ⟨_, hd', rfl⟩ hL hg hlow
  refine hq (.ref s.heap.objs.size) _ _ (h2 _ n2) hs4 fun b o e n l => ?_
  obtain ⟨p, q⟩ := (q0.trans (q1.trans q2)) b o e n l
  have hb : b ≠ s.heap.objs.size := Nat.ne_of_lt (Heap.lt_size e)
  exact ⟨(sb.2 b hb).trans p, by rw [AH.set_ne hb]; exact q⟩
/-- xs[:n], xs a list of the ground -/
theorem ev_slice_g {value : Expr} {upper : Expr} {p pos : Pos} {Φ : AV → AH → Prop} {a : Addr} {its : List Value} {vs : List AV} {n : Nat} (hg : C.g.IsList a its.toArray) (hvs : its.map er = vs) (hz : its.length ≤ 1048576)
    (h : EV C env vm m H (eval value env) (fun o H1 => o = .ref a ∧ EV C env vm m H1 (eval upper env) (fun i H3 => i = .int n ∧ ∀ l, H3 l = none → Φ (.ref l) (H3.set l (.tmp, .list (vs.take n)))))) :
    EV C env vm m H (eval (.Subscript value (.Slice none (some upper) none p) pos) env) Φ := fun s Q E hs hv hq =>
  Subscript_ (h s _ E hs hv fun o H1 s1 h1 hs1 k1 => wpAny_Slice (by
    obtain ⟨eo, h1⟩ := h1
    obtain rfl := er_ref eo
    rw [evalPart_none]
    refine wpAny_pure ?_
    rw [evalPart_some]
    refine h1 s1 _ E hs1 (hv.step k1) fun v H3 s3 h3 hs3 k3 => ?_
    obtain ⟨ei, h3⟩ := h3
    obtain ⟨tk, rfl⟩ := er_int ei
    obtain ⟨mm, F, _⟩ := hs3.fr
    have hl : s3.heap.IsList a its.toArray := by
      obtain ⟨o, e, r⟩ := hg
      exact ⟨o, F.keep _ _ e, r⟩
    have hlen : its.length ≤ sizeLine := by have := sizeLine_big; lia
    refine wpAny_pure (slice_end (ops := [.ref s3.heap.objs.size, .ref a]) hl .none (.int n tk) .none (by simp) ?_ (by simpa using hlen) rfl)
    obtain ⟨s4, k4⟩ := hs3.push (ob := { cls := .type "slice", data := .fields #[.none, .int n tk, .none] }) (tk := s3.toks)
    obtain ⟨s5, k5⟩ := s4.alloc (t := .tmp) (o := .list (vs.take n)) (ob := { cls := .type "list", data := .seq (slicePick its.toArray none (some (n : Int)) none) }) (tk := s3.toks)
      ⟨kms_pick its none (some (n : Int)), 0, by rw [kms_pick_eq], by rw [pickA_of, hvs, pickA_to]⟩ rfl
    have hsz : (s3.heap.push { cls := .type "slice", data := .fields #[.none, .int n tk, .none] }).objs.size = s3.heap.objs.size + 1 := Heap.size_push ..
    have hf := s4.fresh
    rw [show ({ s3 with heap := s3.heap.push { cls := .type "slice", data := .fields #[.none, .int n tk, .none] }, toks := s3.toks } : Shared).heap.objs.size = s3.heap.objs.size + 1 from hsz] at s5 k5 hf
    exact hq _ _ _ (h3 _ hf) s5 (k1.trans (k3.trans (k4.trans k5)))))
/-- isinstance -/
theorem cv_isi_tt {a t vs Φ} (hH : H a = some (t, .tup vs)) (h : Φ (.bool true) H) : CV C m H (.builtin "isinstance") [.ref a, .conc (.type "tuple")] Φ := fun vs' e s Q E hs hq => by
  obtain ⟨v1, v2, rfl, e1, e2⟩ := vs2 e
  obtain rfl := er_ref e1
  obtain rfl := er_conc e2
  obtain ⟨its, n, e, hm, _⟩ := hs.tupAt hH
  exact PySem.IsiPair.tuple_tuple e rfl (hq (.bool true) H s h hs .refl)
theorem cv_isi_ii {i : Int} {Φ} (h : Φ (.bool true) H) : CV C m H (.builtin "isinstance") [.int i, .conc (.type "int")] Φ := fun vs' e s Q E hs hq => by
  obtain ⟨v1, v2, rfl, e1, e2⟩ := vs2 e
  obtain ⟨u, rfl⟩ := er_int e1
  obtain rfl := er_conc e2
  exact PySem.IsiPair.int_int (hq (.bool true) H s h hs .refl)
theorem cv_isi_ib {i : Int} {Φ} (h : Φ (.bool false) H) : CV C m H (.builtin "isinstance") [.int i, .conc (.type "bool")] Φ := fun vs' e s Q E hs hq => by
  obtain ⟨v1, v2, rfl, e1, e2⟩ := vs2 e
  obtain ⟨u, rfl⟩ := er_int e1
  obtain rfl := er_conc e2
  exact PySem.IsiPair.int_bool (hq (.bool false) H _ h (hs.tok _) .refl)
theorem map_int_inj : ∀ {a b : List Int}, a.map AV.int = b.map AV.int → a = b
  | [], [], _ => rfl
  | [], _ :: _, h => by cases h
  | _ :: _, [], h => by cases h
  | x :: a, y :: b, h => by
    simp only [List.map_cons, List.cons.injEq, AV.int.injEq] at h
    rw [h.1, map_int_inj h.2]
theorem cv_sum {a t} {ns : List Int} {Φ} (hH : H a = some (t, .list (ns.map .int))) (h : Φ (.int ns.sum) H) : CV C m H (.builtin "sum") [.ref a] Φ := fun vs' e s Q E hs hq => by
  obtain ⟨v1, rfl, e1⟩ := vs1 e
  obtain rfl := er_ref e1
  obtain ⟨its, n, e, hm, _, hl⟩ := hs.listAt hH
  obtain ⟨xs, hxs⟩ := (IntsAre.allInts (er_ints hm)).items
  rw [hxs] at hl
  have hns : xs.toList.map (·.1) = ns := by
    refine map_int_inj ?_
    rw [← hm]
    have h2 : its = (intItems xs).toList := by rw [← hxs]
    rw [h2]
    simp [intItems, er]
  refine sum_intListG C.hh hl fun h' tk t' k => ?_
  rw [preSum_eq, List.take_of_length_le (by simp), hns]
  obtain ⟨s1, k1⟩ := hs.keeps (tk := tk) k
  exact hq _ H _ h s1 k1
end
--T S19

/-- the dice: its cells, its throws -/
noncomputable def Dc (H : AH) (d c : Addr) (n : Int) : Prop := ∃ t tc ns, H d = some (t, .sdict [(PySem.Str.ofString "cells", .ref c), (PySem.Str.ofString "throws", .int n)]) ∧ H c = some (tc, .list ((ns : List Int).map .int)) ∧ t.out = true ∧ tc.out = true ∧ ns.length ≤ 60
noncomputable def ExtB (d : Addr) (H H' : AH) : Prop := ∀ b x, b ≠ d → H b = some x → H' b = some x
theorem ExtB.refl {d H} : ExtB d H H := fun _ _ _ e => e
theorem ExtB.trans {d} {a b c : AH} (h : ExtB d a b) (k : ExtB d b c) : ExtB d a c := fun x y n e => k x y n (h x y n e)
theorem Ext.b {d} {H H' : AH} (e : Ext H H') : ExtB d H H' := fun b x _ q => e b x q
theorem ExtB.set {d x} {H : AH} : ExtB d H (H.set d x) := fun b y hb e => by rw [AH.set_ne hb]; exact e
theorem Dc.ext {H H' : AH} {d c n} (h : Dc H d c n) (e : Ext H H') : Dc H' d c n := by
  obtain ⟨t, tc, ns, h1, h2, r⟩ := h
  exact ⟨t, tc, ns, e _ _ h1, e _ _ h2, r⟩
theorem Dc.set {H : AH} {d c n l x} (h : Dc H d c n) (h1 : l ≠ d) (h2 : l ≠ c) : Dc (H.set l x) d c n := by
  obtain ⟨t, tc, ns, a, b, r⟩ := h
  exact ⟨t, tc, ns, by rw [AH.set_ne (Ne.symm h1)]; exact a, by rw [AH.set_ne (Ne.symm h2)]; exact b, r⟩
theorem pip_spec {H : AH} {d c : Addr} {n many : Int} (hD : Dc H d c n) (h0 : 0 ≤ n) (h1 : n ≤ 1000) (hm : 0 < many) (hm2 : many < 1000) (Φ : AV → AH → Prop)
    (h : ∀ v, 0 ≤ v → v < many → ∀ H', Dc H' d c (n + 1) → ExtB d H H' → Φ (.int v) H') : Spec 1 243 [.ref d, .int many] H Φ := by
  refine spec_plain (fun w => rfl) (fun w => rfl) (binds2 (n1 := "dice") (n2 := "many") (fun _ _ => rfl) rfl) (by rfl) (by decide) rfl rfl rfl (fun C hroom hfe hlt => ?_)
  generalize hmm : (fun x => List.lookup x _ : Loc) = m
  have md : m (PySem.Str.ofString "dice") = some (.ref d) := by rw [← hmm]; rfl
  have mm : m (PySem.Str.ofString "many") = some (.int many) := by rw [← hmm]; rfl
  clear hmm
  obtain ⟨t, tc, ns, hd, hc, ht, htc, hns⟩ := hD
  have hcd : c ≠ d := fun q => by rw [q] at hc; rw [hc] at hd; cases hd
  have hdc : Dc (H.set d (t, .sdict [(PySem.Str.ofString "cells", .ref c), (PySem.Str.ofString "throws", .int (n + 1))])) d c (n + 1) := ⟨t, tc, ns, AH.set_self, by rw [AH.set_ne hcd]; exact hc, ht, htc, hns⟩
  repeat walk_at "s"
  refine op_item_sdict hd rfl ?_
  repeat walk_at "s"
  refine op_set_sdict hd (by simp) ?_
  walk_at "s"
  walk_at "s"
  show EX C _ _ (H.set d (t, .sdict [(PySem.Str.ofString "cells", .ref c), (PySem.Str.ofString "throws", .int (n + 1))])) _ _
  have hd2 : (H.set d (t, .sdict [(PySem.Str.ofString "cells", .ref c), (PySem.Str.ofString "throws", .int (n + 1))])) d = some (t, .sdict [(PySem.Str.ofString "cells", .ref c), (PySem.Str.ofString "throws", .int (n + 1))]) := AH.set_self
  have hc2 : (H.set d (t, .sdict [(PySem.Str.ofString "cells", .ref c), (PySem.Str.ofString "throws", .int (n + 1))])) c = some (tc, intsO ns) := by rw [AH.set_ne hcd]; exact hc
  have hE : ExtB d H (H.set d (t, .sdict [(PySem.Str.ofString "cells", .ref c), (PySem.Str.ofString "throws", .int (n + 1))])) := .set
  generalize H.set d (t, .sdict [(PySem.Str.ofString "cells", .ref c), (PySem.Str.ofString "throws", .int (n + 1))]) = H1 at *
  repeat walk_at "s"
  refine op_item_sdict hd2 rfl ?_
  repeat walk_at "s"
  refine op_item_sdict hd2 rfl ?_
  repeat walk_at "s"
  refine cv_leni hc2 (by (clear h0 h1 hm hm2 hroom; lia)) ?_
  repeat walk_at "s"
  have hmod : ∀ x : Int, 0 ≤ x.fmod many ∧ x.fmod many < many := fun x => ⟨Int.fmod_nonneg_of_pos x hm, Int.fmod_lt_of_pos x hm⟩
  refine ite_split (fun hle => ?_) (fun hgt => ?_)
  · have hle' : n + 1 ≤ ns.length := of_decide_eq_true hle
    repeat walk_at "s"
    refine op_item_sdict hd2 rfl ?_
    repeat walk_at "s"
    refine op_item_sdict hd2 rfl ?_
    repeat walk_at "s"
    refine op_itemi (x := ns[n.toNat]'(by (clear hm hm2 hroom; lia))) hc2 (by (clear hm hm2 hroom hns hle'; lia)) (by rw [show (n + 1 - 1).toNat = n.toNat by (clear hm hm2 hroom hns hle'; lia)]; exact List.getElem?_eq_getElem _) ?_ (by (clear hm hm2 hroom hns hle'; lia))
    repeat walk_at "s"
    refine op_mod (by (clear h0 h1 hroom hns hle'; lia)) ?_
    repeat walk_at "s"
    exact h _ (hmod _).1 (hmod _).2 _ hdc hE
  · repeat walk_at "s"
    refine op_item_sdict hd2 rfl ?_
    repeat walk_at "s"
    refine op_mul ?_ (.of_right (intBits_le_64 (by (clear h0 h1 hm hm2 hroom hns; lia)) (by (clear h0 h1 hm hm2 hroom hns; lia))))
    repeat walk_at "s"
    refine op_item_sdict hd2 rfl ?_
    repeat walk_at "s"
    refine op_item_sdict hd2 rfl ?_
    refine op_mul ?_ (.of_left (intBits_le_64 (by (clear hm hm2 hroom hns; lia)) (by (clear hm hm2 hroom hns; lia))))
    repeat walk_at "s"
    refine op_fdiv (by decide) (by decide) ?_
    repeat walk_at "s"
    refine op_mod (by decide) ?_
    repeat walk_at "s"
    refine op_mod (by (clear h0 h1 hroom hns; lia)) ?_
    repeat walk_at "s"
    exact h _ (hmod _).1 (hmod _).2 _ hdc hE
theorem ExtB.new {d l x} {H : AH} (h : H l = none) : ExtB d H (H.set l x) := fun b y _ e => AH.set_new h e
theorem ExtB.upd {d l x} {H H' : AH} (e : ExtB d H H') (h : H l = none) : ExtB d H (H'.set l x) := fun b y hb q => by
  rw [AH.set_ne (by rintro rfl; rw [h] at q; cases q)]; exact e b y hb q
theorem row_spec {H : AH} {d c : Addr} {n : Int} (hD : Dc H d c n) (h0 : 0 ≤ n) (h1 : n ≤ 900) (Φ : AV → AH → Prop)
    (h : ∀ H' l ns n', H' l = some (.tmp, intsO ns) → ns.length ≤ 6 → (∀ x ∈ ns, 1 ≤ ab x ∧ ab x ≤ 4) → Dc H' d c n' → n ≤ n' → n' ≤ n + 13 → ExtB d H H' → H l = none → Φ (.ref l) H') : Spec 2 250 [.ref d] H Φ := by
  refine spec_plain (fun w => rfl) (fun w => rfl) (binds1 (n1 := "dice") (fun _ => rfl) rfl) (by rfl) (by decide) rfl rfl rfl (fun C hroom hfe hlt => ?_)
  generalize hmm : (fun x => List.lookup x _ : Loc) = m
  have md : m (PySem.Str.ofString "dice") = some (.ref d) := by rw [← hmm]; rfl
  clear hmm
  have hds : H d ≠ none := by obtain ⟨t, tc, ns, a, _⟩ := hD; rw [a]; simp
  have hcs : H c ≠ none := by obtain ⟨t, tc, ns, _, a, _⟩ := hD; rw [a]; simp
  repeat walk_at "s"
  refine ⟨by simp, fun l hl => ?_⟩
  have hld : l ≠ d := fun q => hds (q ▸ hl)
  have hlc : l ≠ c := fun q => hcs (q ▸ hl)
  have hD1 := hD.set (x := (.tmp, .list [])) hld hlc
  have hl1 : (H.set l (.tmp, .list [])) l = some (.tmp, intsO []) := AH.set_self
  have e1 : ExtB d H (H.set l (.tmp, .list [])) := .new hl
  generalize H.set l (.tmp, .list []) = H1 at *
  repeat walk_at "s"
  refine ex_forO ?_
  repeat walk_at "s"
  refine pip_spec hD1 h0 (by lia) (by decide) (by decide) _ (fun v hv0 hv7 H2 hD2 e2 => ?_) _ _ (by (clear h0 h1; omega))
  repeat walk_at "s"
  refine cv_range1 (fun r hr => ?_)
  have hrd : r ≠ d := fun q => by obtain ⟨t, tc, ns, a, _⟩ := hD2; rw [q, a] at hr; cases hr
  have hrc : r ≠ c := fun q => by obtain ⟨t, tc, ns, _, a, _⟩ := hD2; rw [q, a] at hr; cases hr
  have hl2 := e2 _ _ hld hl1
  have hrl : l ≠ r := fun q => by rw [← q, hl2] at hr; cases hr
  have hD3 := hD2.set (x := (.tmp, .rng 0 v)) hrd hrc
  have hl3 : (H2.set r (.tmp, .rng 0 v)) l = some (.tmp, intsO []) := by rw [AH.set_ne hrl]; exact hl2
  have e3 : ExtB d H (H2.set r (.tmp, .rng 0 v)) := (e1.trans e2).trans (.new hr)
  have hr3 : (H2.set r (.tmp, .rng 0 v)) r = some (.tmp, .rng 0 v) := AH.set_self
  generalize H2.set r (.tmp, .rng 0 v) = H3 at *
  refine ⟨_, _, src_rng hr3 (by have : v = 0 ∨ v = 1 ∨ v = 2 ∨ v = 3 ∨ v = 4 ∨ v = 5 ∨ v = 6 := by (clear h0 h1 hroom; lia)
                                rcases this with rfl | rfl | rfl | rfl | rfl | rfl | rfl <;> decide), fun i m' H' => m' (PySem.Str.ofString "dice") = some (.ref d) ∧ m' (PySem.Str.ofString "found") = some (.ref l) ∧ ∃ ns n', H' l = some (.tmp, intsO ns) ∧ ns.length = i ∧ (∀ x ∈ ns, 1 ≤ ab x ∧ ab x ≤ 4) ∧
      Dc H' d c n' ∧ n + 1 ≤ n' ∧ n' ≤ n + 1 + 2 * i ∧ ExtB d H H', ⟨by walk_at "loc", by walk_at "loc", [], n + 1, hl3, rfl, by simp, hD3, by (clear h0 h1 hroom hv0 hv7; lia), by (clear h0 h1 hroom hv0 hv7; lia), e3⟩, fun _ _ _ _ => trivial, fun i u hu m' H' ⟨md', mf, ns, n', hl', hlen, hns, hD', hn1, hn2, e'⟩ => ?_, fun m' H' ⟨md', mf, ns, n', hl', hlen, hns, hD', hn1, hn2, e'⟩ => ?_⟩
  · obtain ⟨hi, rfl⟩ := rng_get hu
    have hi6 : i < 6 := by (clear h0 h1 hroom; omega)
    repeat walk_at "s"
    refine pip_spec hD' (by (clear hroom hv0 hv7 hi; lia)) (by (clear hroom hv0 hv7 hi; lia)) (by decide) (by decide) _ (fun v1 a1 a2 H4 hD4 e4 => ?_) _ _ (by (clear h0 h1 hv0 hv7 hlen hn1 hn2 hi hi6; omega))
    repeat walk_at "s"
    have hl4 := e4 _ _ hld hl'
    refine ⟨_, _, _, rfl, hl4, rfl, ?_⟩
    repeat walk_at "s"
    refine pip_spec hD4 (by (clear hroom hv0 hv7 hi a1 a2; lia)) (by (clear hroom hv0 hv7 hi a1 a2; lia)) (by decide) (by decide) _ (fun v2 b1 b2 H5 hD5 e5 => ?_) _ _ (by (clear h0 h1 hv0 hv7 hlen hn1 hn2 hi hi6 a1 a2; omega))
    have hl5 := e5 _ _ hld hl4
    have fin : ∀ x : Int, 1 ≤ ab x → ab x ≤ 4 → ∀ m2 : Loc, m2 (PySem.Str.ofString "dice") = some (.ref d) → m2 (PySem.Str.ofString "found") = some (.ref l) → m2 (PySem.Str.ofString "dice") = some (.ref d) ∧ m2 (PySem.Str.ofString "found") = some (.ref l) ∧ ∃ ns2 n2, (H5.set l (.tmp, .list (ns.map AV.int ++ [.int x]))) l = some (.tmp, intsO ns2) ∧ ns2.length = i + 1 ∧ (∀ x ∈ ns2, 1 ≤ ab x ∧ ab x ≤ 4) ∧
      Dc (H5.set l (.tmp, .list (ns.map AV.int ++ [.int x]))) d c n2 ∧ n + 1 ≤ n2 ∧ n2 ≤ n + 1 + 2 * ((i + 1 : Nat) : Int) ∧ ExtB d H (H5.set l (.tmp, .list (ns.map AV.int ++ [.int x]))) := fun x hx1 hx4 m2 q1 q2 =>
      ⟨q1, q2, ns ++ [x], n' + 1 + 1, by rw [AH.set_self]; simp [intsO], by simp [hlen], fun y hy => (List.mem_append.mp hy).elim (hns y) (fun q => by rw [List.mem_singleton.mp q]; exact ⟨hx1, hx4⟩), hD5.set hld hlc, by (clear h0 h1 hroom hv0 hv7 hlen hn2 hi hi6 a1 a2 b1 b2 hx1 hx4; lia), by (clear h0 h1 hroom hv0 hv7 hn1 hi hi6 a1 a2 b1 b2 hx1 hx4; lia), ((e'.trans e4).trans e5).upd hl⟩
    repeat walk_at "s"
    refine ite_split (fun _ => ?_) (fun _ => ?_)
    · repeat walk_at "s"
      refine cv_append hl5 (by rw [List.length_map]; (clear h0 h1 hroom hv0 hv7 hn1 hn2 hi a1 a2 b1 b2; lia)) ?_
      refine ⟨rfl, ?_⟩
      repeat walk_at "s"
      exact fin (1 + v1) (by unfold ab; split <;> lia) (by unfold ab; split <;> lia) _ (by walk_at "loc") (by walk_at "loc")
    · repeat walk_at "s"
      refine cv_append hl5 (by rw [List.length_map]; (clear h0 h1 hroom hv0 hv7 hn1 hn2 hi a1 a2 b1 b2; lia)) ?_
      refine ⟨rfl, ?_⟩
      repeat walk_at "s"
      exact fin (0 - (1 + v1)) (by unfold ab; split <;> lia) (by unfold ab; split <;> lia) _ (by walk_at "loc") (by walk_at "loc")
  · rw [rng_len] at hlen hn2
    repeat walk_at "s"
    exact h H' l ns n' hl' (by (clear h0 h1 hroom hn1 hn2; omega)) hns hD' (by (clear h0 h1 hroom hv0 hv7 hlen hn2; lia)) (by (clear h0 h1 hroom hlen hn1; omega)) e' hl
--T P9
/-- what a row says of a variable -/
noncomputable def dl (row : List Int) (v : Int) : List Int := if v ∈ row then [v] else if -v ∈ row then [-v] else []
noncomputable def dueL (row : List Int) : Nat → List Int
  | 0 => []
  | i + 1 => dueL row i ++ dl row ((i : Int) + 1)
theorem dl_mem {row : List Int} {v x : Int} (h : x ∈ dl row v) : x ∈ row ∧ (x = v ∨ x = -v) := by
  unfold dl at h
  split at h
  · rename_i q; rw [List.mem_singleton.mp h]; exact ⟨q, .inl rfl⟩
  · split at h
    · rename_i q; rw [List.mem_singleton.mp h]; exact ⟨q, .inr rfl⟩
    · cases h
theorem dueL_mem {row : List Int} {x : Int} : ∀ {i}, x ∈ dueL row i → x ∈ row ∧ 1 ≤ ab x ∧ ab x ≤ i
  | 0, h => by cases h
  | i + 1, h => by
    rcases List.mem_append.mp h with h | h
    · obtain ⟨a, b, c⟩ := dueL_mem h; exact ⟨a, b, by push_cast; lia⟩
    · obtain ⟨a, b⟩ := dl_mem h
      refine ⟨a, ?_⟩
      rcases b with rfl | rfl
      · rw [ab_pos (by lia)]; push_cast; lia
      · rw [ab_neg (by lia)]; push_cast; lia
theorem dueL_all {row : List Int} (nb : ∀ v : Int, 1 ≤ v → v ≤ 4 → ¬ (v ∈ row ∧ -v ∈ row)) {x : Int} (hx : x ∈ row) (h1 : 1 ≤ ab x) (h4 : ab x ≤ 4) : ∀ {i : Nat}, ab x ≤ i → x ∈ dueL row i
  | 0, h => by lia
  | i + 1, h => by
    by_cases e : ab x = (i : Int) + 1
    · refine List.mem_append_right _ ?_
      rw [← e]
      unfold dl
      by_cases hlt : x < 0
      · have ea : ab x = -x := by unfold ab; rw [if_pos hlt]
        have hn : ab x ∉ row := fun q => nb (ab x) h1 h4 ⟨q, by rw [ea, Int.neg_neg]; exact hx⟩
        rw [if_neg hn, if_pos (by rw [ea, Int.neg_neg]; exact hx), ea, Int.neg_neg]; simp
      · have ea : ab x = x := by unfold ab; rw [if_neg hlt]
        rw [if_pos (by rw [ea]; exact hx), ea]; simp
    · exact List.mem_append_left _ (dueL_all nb hx h1 h4 (by push_cast at h; (clear h1 h4; lia)))
theorem dl_pw (row : List Int) (v : Int) : (dl row v).Pairwise (fun x y => ab x < ab y) := by
  unfold dl; split
  · simp
  · split <;> simp
theorem dueL_pw (row : List Int) : ∀ i, (dueL row i).Pairwise (fun x y => ab x < ab y)
  | 0 => List.Pairwise.nil
  | i + 1 => List.pairwise_append.mpr ⟨dueL_pw row i, dl_pw row _, fun x hx y hy => by
      have h1 := (dueL_mem hx).2.2
      have h2 := (dl_mem hy).2
      rcases h2 with rfl | rfl
      · rw [ab_pos (v := (i : Int) + 1) (by lia)]; lia
      · rw [ab_neg (v := (i : Int) + 1) (by lia)]; lia⟩
theorem ordR_due {row : List Int} (hr : ∀ x ∈ row, 1 ≤ ab x ∧ ab x ≤ 4) (nb : ∀ v : Int, 1 ≤ v → v ≤ 4 → ¬ (v ∈ row ∧ -v ∈ row)) : OrdR row (some (dueL row 4)) := by
  refine ⟨fun x hx hn => ?_, fun x => ⟨fun h => (dueL_mem h).1, fun h => dueL_all nb h (hr x h).1 (hr x h).2 (by have := (hr x h).2; omega)⟩, dueL_pw row 4⟩
  have hx' := hr x hx
  by_cases hlt : x < 0
  · have ea : ab x = -x := by unfold ab; rw [if_pos hlt]
    exact nb (-x) (by lia) (by omega) ⟨hn, by rw [Int.neg_neg]; exact hx⟩
  · have ea : ab x = x := by unfold ab; rw [if_neg hlt]
    exact nb x (by lia) (by lia) ⟨hx, hn⟩
/-- strictly ordered lists with the same members are the same -/
theorem ord_unique : ∀ {a b : List Int}, a.Pairwise (fun x y => ab x < ab y) → b.Pairwise (fun x y => ab x < ab y) → (∀ x, x ∈ a ↔ x ∈ b) → a = b
  | [], [], _, _, _ => rfl
  | [], y :: b, _, _, h => by have := (h y).mpr (by simp); cases this
  | x :: a, [], _, _, h => by have := (h x).mp (by simp); cases this
  | x :: a, y :: b, ha, hb, h => by
    rw [List.pairwise_cons] at ha hb
    have hxy : x = y := by
      have h1 := (h x).mp (by simp)
      have h2 := (h y).mpr (by simp)
      rcases List.mem_cons.mp h1 with e | h1
      · exact e
      · rcases List.mem_cons.mp h2 with e | h2
        · exact e.symm
        · have := ha.1 y h2; have := hb.1 x h1; (clear ha hb; lia)
    subst hxy
    have : a = b := ord_unique ha.2 hb.2 fun z => by
      constructor
      · intro hz
        rcases List.mem_cons.mp ((h z).mp (List.mem_cons_of_mem _ hz)) with e | h1
        · have := ha.1 z hz; rw [e] at this; (clear ha hb e; lia)
        · exact h1
      · intro hz
        rcases List.mem_cons.mp ((h z).mpr (List.mem_cons_of_mem _ hz)) with e | h1
        · have := hb.1 z hz; rw [e] at this; (clear ha hb e; lia)
        · exact h1
    rw [this]
theorem OrdR.unique {row : List Int} {a b : Option (List Int)} (ha : OrdR row a) (hb : OrdR row b) : a = b := by
  cases a with
  | none =>
    cases b with
    | none => rfl
    | some r => obtain ⟨l, h1, h2⟩ := ha; exact absurd h2 (hb.1 l h1)
  | some r =>
    cases b with
    | none => obtain ⟨l, h1, h2⟩ := hb; exact absurd h2 (ha.1 l h1)
    | some q => rw [ord_unique ha.2.2 hb.2.2 fun x => (ha.2.1 x).trans (hb.2.1 x).symm]
theorem OrdR.congr {row row' : List Int} {o} (h : OrdR row o) (e : ∀ x, x ∈ row ↔ x ∈ row') : OrdR row' o := by
  cases o with
  | none => obtain ⟨l, h1, h2⟩ := h; exact ⟨l, (e l).mp h1, (e _).mp h2⟩
  | some r => exact ⟨fun x hx hn => h.1 x ((e x).mpr hx) ((e _).mpr hn), fun x => (h.2.1 x).trans (e x), h.2.2⟩
/-- a turn of the literals that keeps signs apart and the order of the variables -/
theorem OrdR.map {row : List Int} {o} (h : OrdR row o) (f : Int → Int) (hn : ∀ x, f (-x) = -(f x)) (hi : ∀ x y, f x = f y → x = y) (hm : ∀ x y, ab x < ab y → ab (f x) < ab (f y)) : OrdR (row.map f) (o.map (·.map f)) := by
  cases o with
  | none => obtain ⟨l, h1, h2⟩ := h; exact ⟨f l, List.mem_map_of_mem h1, by rw [← hn]; exact List.mem_map_of_mem h2⟩
  | some r =>
    refine ⟨fun x hx hx2 => ?_, fun x => ?_, ?_⟩
    · obtain ⟨y, hy, rfl⟩ := List.mem_map.mp hx
      rw [← hn] at hx2
      obtain ⟨z, hz, e⟩ := List.mem_map.mp hx2
      exact h.1 y hy (by rw [← hi _ _ e]; exact hz)
    · rw [List.mem_map, List.mem_map]
      exact ⟨fun ⟨y, hy, e⟩ => ⟨y, (h.2.1 y).mp hy, e⟩, fun ⟨y, hy, e⟩ => ⟨y, (h.2.1 y).mpr hy, e⟩⟩
    · exact List.pairwise_map.mpr (h.2.2.imp fun q => hm _ _ q)
/-- a world's choice -/
noncomputable def Mw (w : Nat) : Int → Bool := fun v => decide (w / 2 ^ (v - 1).toNat % 2 = 1)
noncomputable def holds (w : Nat) (row : List Int) : Bool := row.any fun l => lit (Mw w) l
theorem holds_iff {w row} : holds w row = true ↔ Sat (Mw w) row := by unfold holds Sat; rw [List.any_eq_true]
theorem holds_congr {w} {a b : List Int} (h : ∀ x, x ∈ a ↔ x ∈ b) : holds w a = holds w b := by
  rw [Bool.eq_iff_iff, holds_iff, holds_iff]
  exact ⟨fun ⟨l, h1, h2⟩ => ⟨l, (h l).mp h1, h2⟩, fun ⟨l, h1, h2⟩ => ⟨l, (h l).mpr h1, h2⟩⟩
theorem holds_both {w} {row : List Int} {l : Int} (h0 : l ≠ 0) (h1 : l ∈ row) (h2 : -l ∈ row) : holds w row = true := by
  rw [holds_iff]
  cases q : lit (Mw w) l with
  | true => exact ⟨l, h1, q⟩
  | false => exact ⟨-l, h2, by rw [lit_neg h0, q]; rfl⟩
/-- the world of a choice -/
noncomputable def wof (M : Int → Bool) : Nat := (if M 1 then 1 else 0) + (if M 2 then 2 else 0) + (if M 3 then 4 else 0) + (if M 4 then 8 else 0)
theorem wof_lt (M : Int → Bool) : wof M < 16 := by unfold wof; cases M 1 <;> cases M 2 <;> cases M 3 <;> cases M 4 <;> decide
theorem Mw_wof (M : Int → Bool) {v : Int} (h1 : 1 ≤ v) (h4 : v ≤ 4) : Mw (wof M) v = M v := by
  have : v = 1 ∨ v = 2 ∨ v = 3 ∨ v = 4 := by lia
  unfold Mw wof
  rcases this with rfl | rfl | rfl | rfl <;> cases M 1 <;> cases M 2 <;> cases M 3 <;> cases M 4 <;> decide
theorem sat_congr {M M' : Int → Bool} {row : List Int} (hr : ∀ x ∈ row, 1 ≤ ab x ∧ ab x ≤ 4) (h : ∀ v, 1 ≤ v → v ≤ 4 → M v = M' v) : Sat M row ↔ Sat M' row := by
  have key : ∀ l ∈ row, lit M l = lit M' l := fun l hl => by
    have := hr l hl
    unfold lit
    by_cases h0 : 0 < l
    · rw [if_pos h0, if_pos h0]
      have e : ab l = l := by unfold ab; rw [if_neg (by lia)]
      exact h l (by lia) (by lia)
    · rw [if_neg h0, if_neg h0]
      have hz := ab_zero this.1
      have e : ab l = -l := by unfold ab; rw [if_pos (by lia)]
      rw [h (-l) (by (clear h0 hz; lia)) (by (clear h0 hz; lia))]
  exact ⟨fun ⟨l, h1, h2⟩ => ⟨l, h1, by rw [← key l h1]; exact h2⟩, fun ⟨l, h1, h2⟩ => ⟨l, h1, by rw [key l h1]; exact h2⟩⟩
--T S20

noncomputable def gr (x : Int) : Int := x * 10 ^ 40 + x
theorem great_spec {H : AH} {x : Int} (hx : ab x ≤ 4) (Φ : AV → AH → Prop) (h : Φ (.int (gr x)) H) : Spec 1 262 [.int x] H Φ := by
  refine spec_plain (fun w => rfl) (fun w => rfl) (binds1 (n1 := "one") (fun _ => rfl) rfl) (by rfl) (by decide) rfl rfl rfl (fun C hroom hfe hlt => ?_)
  have hx' : -4 ≤ x ∧ x ≤ 4 := by unfold ab at hx; split at hx <;> lia
  repeat walk_at "s"
  refine op_pow (by decide) (by decide) (by decide) ?_
  refine op_mul ?_ (.of_left (intBits_le_64 (by (clear hx h hroom; omega)) (by (clear hx h hroom; omega))))
  repeat walk_at "s"
  exact h
theorem eqv_bools (bs : List Bool) : PyData.eqv (.list (bs.map .bool)) (.list []) = bs.isEmpty := by
  cases bs <;> rfl
theorem pds_bools {H n} : ∀ bs : List Bool, PDs H n (bs.map .bool) (bs.map .bool)
  | [] => .nil
  | b :: r => .cons .bool (pds_bools r)
theorem any_bools (bs : List Bool) (b : Bool) : (bs.map PyData.bool).any (fun y => PyData.eqv y (.bool b)) = bs.any (· == b) := by
  rw [List.any_map]; rfl
theorem holds_spec {H : AH} {a : Addr} {t : Tag} {o : AO} {row : List Int} {w : Nat} (hH : H a = some (t, o)) (ho : o = .list (row.map .int) ∨ o = .tup (row.map .int)) (hz : row.length ≤ 100) (hr : ∀ x ∈ row, 1 ≤ ab x ∧ ab x ≤ 4) (hw : w < 16) (Φ : AV → AH → Prop)
    (h : ∀ H', Ext H H' → Φ (.bool (holds w row)) H') : Spec 1 267 [.ref a, .int w] H Φ := by
  refine spec_cells (fun w => rfl) (fun w => rfl) (binds2 (n1 := "row") (n2 := "world") (fun _ _ => rfl) rfl) (fun _ => rfl) (by decide) rfl rfl rfl (fun C hroom hfe hlt H1 hH1 hcells => ?_)
  have hc : H1 (C.L + 1) = some (.cell, .cell (some (.int w))) := hcells (PySem.Str.ofString "world") _ rfl
  generalize hm : bindLA _ _ _ = m
  have mr : m (PySem.Str.ofString "row") = some (.ref a) := by rw [← hm]; rfl
  clear hm hcells
  have e1 : Ext H H1 := hH1
  have ha1 := e1 _ _ hH
  repeat walk_at "s"
  refine ev_comp [(PySem.Str.ofString "world", C.L + 1)] rfl ?_
  repeat walk_at "s"
  refine ⟨_, _, src_ints ha1 ho, by rw [List.length_map]; (clear ho hw hroom; lia), fun i out H2 => H2 = H1 ∧ out = ((row.take i).filter fun l => lit (Mw w) l).map .int, ⟨rfl, rfl⟩, fun i out H2 q => ⟨t, q.1.symm ▸ ha1⟩, fun i u hu out H2 ⟨e, eo⟩ D hD => ?_, fun out H2 ⟨e, eo⟩ l hl => ?_⟩
  · subst e
    obtain ⟨x, hx, rfl⟩ := ints_get hu
    have hxr := hr x (List.mem_of_getElem? hx)
    refine tests_one ?_
    repeat walk_at "s"
    refine ev_cell hc ?_
    repeat walk_at "s"
    rw [show (if x < 0 then -x else x) = ab x from rfl]
    refine op_pow (by (clear ho hz hw hroom; lia)) (by (clear ho hz hw hroom; lia)) (by decide) ?_
    have h28 : (1 : Int) ≤ 2 ^ (ab x - 1).toNat ∧ (2 : Int) ^ (ab x - 1).toNat ≤ 8 := by
      have : (ab x - 1).toNat = 0 ∨ (ab x - 1).toNat = 1 ∨ (ab x - 1).toNat = 2 ∨ (ab x - 1).toNat = 3 := by (clear ho hz hw hroom; lia)
      rcases this with q | q | q | q <;> rw [q] <;> decide
    refine op_fdiv (by (clear ho hz hw hroom hxr; omega)) (by (clear ho hz hw hroom hxr; omega)) ?_
    repeat walk_at "s"
    refine op_mod (by decide) ?_
    repeat walk_at "s"
    have hval : (((w : Int).fdiv (2 ^ (ab x - 1).toNat)).fmod 2 == 1) = Mw w (ab x) := by
      unfold Mw
      rw [Int.fdiv_eq_ediv_of_nonneg _ (by (clear ho hz hw hroom hxr; lia)), Int.fmod_eq_emod_of_nonneg _ (by decide)]
      have : ((w : Int) / 2 ^ (ab x - 1).toNat) % 2 = ((w / 2 ^ (ab x - 1).toNat % 2 : Nat) : Int) := by push_cast; rfl
      rw [this, Bool.eq_iff_iff, beq_iff_eq, decide_eq_true_iff]
      (clear ho hz hw hroom hxr h28 this; omega)
    rw [hval]
    have hlit : (Mw w (ab x) == decide (0 < x)) = lit (Mw w) x := by
      unfold lit
      by_cases h0 : 0 < x
      · have e : ab x = x := by unfold ab; rw [if_neg (by (clear ho hz hw hroom hxr h28; lia))]
        rw [if_pos h0, e, decide_eq_true h0]; simp
      · have hz := ab_zero hxr.1
        have e : ab x = -x := by unfold ab; rw [if_pos (by (clear ho hw hroom hxr h28; lia))]
        rw [if_neg h0, e, decide_eq_false h0]; simp
    rw [hlit]
    refine ite_split (fun hq => ?_) (fun hq => ?_)
    · repeat walk_at "s"
      exact ⟨rfl, by rw [eo, take_filter hx, if_pos hq, List.map_append]; rfl⟩
    · exact ⟨rfl, by rw [eo, take_filter hx, if_neg (by rw [hq]; decide), List.append_nil]⟩
  · subst e
    rw [List.length_map, List.take_of_length_le (Nat.le_refl _)] at eo
    subst eo
    repeat walk_at "s"
    refine ⟨by simp, fun l2 hl2 => ?_⟩
    have e2 := Ext.new (x := (.tmp, intsO (row.filter fun l => lit (Mw w) l))) hl
    have e3 := Ext.new (x := (.tmp, .list [])) hl2
    refine op_ned (n := 2) (PD.ilist (ns := row.filter fun l => lit (Mw w) l) (e3 _ _ AH.set_self)) (PD.list AH.set_self .nil) (by decide) ?_
    have : (!PyData.eqv (.list ((row.filter fun l => lit (Mw w) l).map .int)) (.list [])) = holds w row := by
      rw [show (PyData.list []) = .list (([] : List Int).map .int) from rfl, eqv_ints]
      unfold holds
      rw [Bool.eq_iff_iff, List.any_eq_true, Bool.not_eq_true', decide_eq_false_iff_not]
      constructor
      · intro q
        obtain ⟨y, hy⟩ := List.exists_mem_of_ne_nil _ q
        exact ⟨y, (List.mem_filter.mp hy).1, (List.mem_filter.mp hy).2⟩
      · rintro ⟨y, hy, q⟩ e
        have : y ∈ row.filter fun l => lit (Mw w) l := List.mem_filter.mpr ⟨hy, q⟩
        rw [e] at this; cases this
    rw [this]
    repeat walk_at "s"
    exact h _ (e1.trans (e2.trans e3))
noncomputable def sgn (row : List Int) (v : Int) : List Bool := (row.filter fun o => o == v || o + v == 0).map fun o => decide (0 < o)
theorem sgn_mem {row : List Int} {v : Int} (hv : 1 ≤ v) (b : Bool) : (sgn row v).any (· == b) = true ↔ (if b = true then v else -v) ∈ row := by
  unfold sgn
  rw [List.any_eq_true]
  constructor
  · rintro ⟨c, hc, e⟩
    obtain ⟨o, ho, rfl⟩ := List.mem_map.mp hc
    obtain ⟨h1, h2⟩ := List.mem_filter.mp ho
    have e' : decide (0 < o) = b := by simpa using e
    have h3 : o = v ∨ o + v = 0 := by simpa using h2
    cases b with
    | true =>
      have := of_decide_eq_true e'
      rw [if_pos rfl]
      have : o = v := by omega
      rw [← this]; exact h1
    | false =>
      have := of_decide_eq_false e'
      rw [if_neg (by decide)]
      have : o = -v := by lia
      rw [← this]; exact h1
  · intro h
    refine ⟨b, List.mem_map.mpr ⟨_, List.mem_filter.mpr ⟨h, ?_⟩, ?_⟩, by simp⟩
    · cases b with
      | true => simp
      | false => rw [if_neg (by decide)]; simp; lia
    · cases b with
      | true => rw [if_pos rfl]; exact decide_eq_true (by lia)
      | false => rw [if_neg (by decide)]; exact decide_eq_false (by lia)
theorem dl_len (row : List Int) (v : Int) : (dl row v).length ≤ 1 := by
  unfold dl; split
  · simp
  · split <;> simp
theorem dueL_len (row : List Int) : ∀ i, (dueL row i).length ≤ i
  | 0 => Nat.le_refl _
  | i + 1 => by
    show (dueL row i ++ dl row ((i : Int) + 1)).length ≤ i + 1
    rw [List.length_append]
    have := dueL_len row i
    have := dl_len row ((i : Int) + 1)
    lia
theorem sgn_nil {row : List Int} {v : Int} (hv : 1 ≤ v) (h : sgn row v = []) : dl row v = [] := by
  have h1 : v ∉ row := fun q => by have := (sgn_mem hv true).mpr (by simpa using q); rw [h] at this; cases this
  have h2 : -v ∉ row := fun q => by have := (sgn_mem hv false).mpr (by simpa using q); rw [h] at this; cases this
  unfold dl; rw [if_neg h1, if_neg h2]
theorem sgn_cons {row : List Int} {v : Int} {b r} (hv : 1 ≤ v) (h : sgn row v = b :: r) (nb : ¬ (v ∈ row ∧ -v ∈ row)) : dl row v = [if b = true then v else 0 - v] := by
  have h1 := (sgn_mem (row := row) hv b).mp (by rw [h]; simp)
  cases b with
  | true =>
    rw [if_pos rfl] at h1 ⊢
    unfold dl; rw [if_pos h1]
  | false =>
    rw [if_neg (by decide)] at h1 ⊢
    unfold dl; rw [if_neg (fun q => nb ⟨q, h1⟩), if_pos h1]; simp
theorem due_spec {H : AH} {a : Addr} {t : Tag} {row : List Int} (hH : H a = some (t, intsO row)) (hz : row.length ≤ 100) (hr : ∀ x ∈ row, 1 ≤ ab x ∧ ab x ≤ 4) (Φ : AV → AH → Prop)
    (h : ∀ H' v o, Ext H H' → Od H' v o → OrdR row o → isConc v = false → isNone v = o.isNone → Φ v H') : Spec 1 255 [.ref a] H Φ := by
  refine spec_cells (fun w => rfl) (fun w => rfl) (binds1 (n1 := "row") (fun _ => rfl) rfl) (fun _ => rfl) (by decide) rfl rfl rfl (fun C hroom hfe hlt H1 hH1 hcells => ?_)
  have hcv : H1 (C.L + 1) = some (.cell, .cell none) := hcells (PySem.Str.ofString "v") _ rfl
  have hcs : H1 (C.L + 1 + 1) = some (.cell, .cell none) := hcells (PySem.Str.ofString "signs") _ rfl
  generalize hm : bindLA _ _ _ = m
  have mr : m (PySem.Str.ofString "row") = some (.ref a) := by rw [← hm]; rfl
  clear hm hcells
  have e1 : Ext H H1 := hH1
  have ltH : ∀ b x, H b = some x → @LT.lt Nat _ b C.L := fun b x q => hlt b x q
  have upC : ∀ {H2 : AH} {x} (c : Nat), Ext H H2 → @LT.lt Nat _ C.L c → Ext H (H2.set c x) := fun c e hk b y q => by
    have h1 := ltH b y q
    rw [AH.set_ne (neA (by (clear hz hroom; lia)))]; exact e _ _ q
  repeat walk_at "s"
  refine ⟨by simp, fun f0 hf0 => ?_⟩
  have hcv1 := AH.set_new (x := (Tag.tmp, AO.list [])) hf0 hcv
  have hcs1 := AH.set_new (x := (Tag.tmp, AO.list [])) hf0 hcs
  have hf1 : (H1.set f0 (.tmp, .list [])) f0 = some (.tmp, intsO []) := AH.set_self
  have e2 : Ext H (H1.set f0 (.tmp, .list [])) := e1.trans (Ext.new hf0)
  generalize H1.set f0 (.tmp, .list []) = H2 at *
  clear hcv hcs e1 hH1
  repeat walk_at "s"
  refine ex_forO ?_
  repeat walk_at "s"
  refine cv_range2 (fun r hrn => ?_)
  have er := Ext.new (x := (Tag.tmp, AO.rng 1 5)) hrn
  refine ⟨_, _, src_rng AH.set_self (by decide), fun i m' H' => m' (PySem.Str.ofString "row") = some (.ref a) ∧ Ext H H' ∧ (∃ o1, H' (C.L + 1) = some (.cell, .cell o1)) ∧ (∃ o2, H' (C.L + 1 + 1) = some (.cell, .cell o2)) ∧
      (∃ f, m' (PySem.Str.ofString "found") = some (.ref f) ∧ H' f = some (.tmp, intsO (dueL row i))) ∧ ∀ v : Int, 1 ≤ v → v ≤ i → ¬ (v ∈ row ∧ -v ∈ row),
    ⟨by walk_at "loc", e2.trans er, ⟨_, er _ _ hcv1⟩, ⟨_, er _ _ hcs1⟩, ⟨f0, by walk_at "loc", er _ _ hf1⟩, by (clear hz hroom; omega)⟩, fun _ _ _ _ => trivial, fun i u hu m' H' ⟨mr', e', ⟨o1, hv'⟩, ⟨o2, hs'⟩, ⟨f, mf, hf⟩, nb⟩ => ?_, fun m' H' ⟨mr', e', _, _, ⟨f, mf, hf⟩, nb⟩ => ?_⟩
  · obtain ⟨hi, rfl⟩ := rng_get hu
    have hi4 : i < 4 := by simpa using hi
    intro _ _
    refine sv_cell hv' ?_
    have hv2 : (H'.set (C.L + 1) (.cell, .cell (some (.int (1 + (i : Nat)))))) (C.L + 1) = some (.cell, .cell (some (.int (1 + (i : Nat))))) := AH.set_self
    have hs2 : (H'.set (C.L + 1) (.cell, .cell (some (.int (1 + (i : Nat)))))) (C.L + 1 + 1) = some (.cell, .cell o2) := by rw [AH.set_ne (neA (by (clear hz hroom hi hi4; lia)))]; exact hs'
    have hf2 : (H'.set (C.L + 1) (.cell, .cell (some (.int (1 + (i : Nat)))))) f = some (.tmp, intsO (dueL row i)) := AH.set_tag hv' hf (by intro q; cases q)
    have e3 : Ext H (H'.set (C.L + 1) (.cell, .cell (some (.int (1 + (i : Nat)))))) := upC _ e' (by (clear hz hroom hi hi4; lia))
    generalize H'.set (C.L + 1) (.cell, .cell (some (.int (1 + (i : Nat))))) = H3 at *
    have ha3 := e3 _ _ hH
    clear e' hv' hs' hf
    obtain ⟨v, hvv⟩ : ∃ v, v = 1 + ((i : Nat) : Int) := ⟨_, rfl⟩
    rw [← hvv] at hv2
    have hv1 : 1 ≤ v := by (clear hz hroom hi; lia)
    repeat walk_at "s"
    refine ev_comp [(PySem.Str.ofString "v", C.L + 1)] rfl ?_
    repeat walk_at "s"
    refine ⟨_, _, src_list ha3, by rw [List.length_map]; (clear hroom hi hi4 hvv hv1; lia), fun j out H4 => H4 = H3 ∧ out = ((row.take j).filter fun o => o == v || o + v == 0).map fun o => AV.bool (decide (0 < o)), ⟨rfl, rfl⟩, fun j out H4 q => ⟨t, q.1.symm ▸ ha3⟩, fun j u hu out H4 ⟨e, eo⟩ D hD => ?_, fun out H4 ⟨e, eo⟩ l hl => ?_⟩
    · subst e
      obtain ⟨x, hx, rfl⟩ := ints_get hu
      have yes : (x == v || x + v == 0) = true → H4 = H4 ∧ out ++ [.bool (decide (0 < x))] = ((row.take (j + 1)).filter fun o => o == v || o + v == 0).map fun o => AV.bool (decide (0 < o)) := fun q =>
        ⟨rfl, by rw [eo, take_filter hx, if_pos q, List.map_append]; rfl⟩
      refine tests_one ?_
      repeat walk_at "s"
      refine ev_cell hv2 ?_
      repeat walk_at "s"
      refine ite_split (fun q => ?_) (fun q => ?_)
      · repeat walk_at "s"
        exact yes (by rw [q]; rfl)
      · repeat walk_at "s"
        refine ev_cell hv2 ?_
        repeat walk_at "s"
        refine ite_split (fun q2 => ?_) (fun q2 => ?_)
        · repeat walk_at "s"
          exact yes (by rw [q2, Bool.or_true])
        · repeat walk_at "s"
          exact ⟨rfl, by rw [eo, take_filter hx, if_neg (by rw [q, q2]; decide), List.append_nil]⟩
    · subst e
      rw [List.length_map, List.take_of_length_le (Nat.le_refl _)] at eo
      have eo2 : out = (sgn row v).map .bool := by rw [eo]; unfold sgn; rw [List.map_map]; rfl
      subst eo2
      clear eo
      have e4 := Ext.new (x := (Tag.tmp, AO.list ((sgn row v).map .bool))) hl
      have hv4 := e4 _ _ hv2
      have hs4 := e4 _ _ hs2
      have hf4 := e4 _ _ hf2
      have hl4 : (H4.set l (.tmp, .list ((sgn row v).map .bool))) l = some (.tmp, .list ((sgn row v).map .bool)) := AH.set_self
      have e5 := e3.trans e4
      show SV C _ _ (H4.set l (.tmp, .list ((sgn row v).map .bool))) _ (.ref l) _
      generalize H4.set l (.tmp, .list ((sgn row v).map .bool)) = H5 at *
      clear hv2 hs2 hf2 e4 e3 hl ha3
      refine sv_cell hs4 ?_
      have hv6 : (H5.set (C.L + 1 + 1) (.cell, .cell (some (.ref l)))) (C.L + 1) = some (.cell, .cell (some (.int v))) := by rw [AH.set_ne (neA (by (clear hz hroom hi hi4 hvv hv1; lia)))]; exact hv4
      have hs6 : (H5.set (C.L + 1 + 1) (.cell, .cell (some (.ref l)))) (C.L + 1 + 1) = some (.cell, .cell (some (.ref l))) := AH.set_self
      have hf6 : (H5.set (C.L + 1 + 1) (.cell, .cell (some (.ref l)))) f = some (.tmp, intsO (dueL row i)) := AH.set_tag hs4 hf4 (by intro q; cases q)
      have hl6 : (H5.set (C.L + 1 + 1) (.cell, .cell (some (.ref l)))) l = some (.tmp, .list ((sgn row v).map .bool)) := AH.set_tag hs4 hl4 (by intro q; cases q)
      have e6 : Ext H (H5.set (C.L + 1 + 1) (.cell, .cell (some (.ref l)))) := upC _ e5 (by (clear hz hroom hi hi4 hvv hv1; lia))
      generalize H5.set (C.L + 1 + 1) (.cell, .cell (some (.ref l))) = H6 at *
      clear hv4 hs4 hf4 e5 hl4
      refine seq_next ?_
      walk_at "s"
      refine ex_seq ?_
      refine ex_if ?_
      refine TV.mono (Φ := fun b H' => H' = H6 ∧ b = decide (v ∈ row ∧ -v ∈ row)) ?_ (fun b H' eb => ?_)
      · repeat walk_at "s"
        refine ev_cell hs6 ?_
        refine op_ind (n := 2) (PD.bool (b := true)) (PD.list hl6 (pds_bools _)) ?_
        rw [any_bools]
        repeat walk_at "s"
        refine ite_split (fun q1 => ?_) (fun q1 => ?_)
        · repeat walk_at "s"
          refine ev_cell hs6 ?_
          refine op_ind (n := 2) (PD.bool (b := false)) (PD.list hl6 (pds_bools _)) ?_
          rw [any_bools]
          repeat walk_at "s"
          refine ite_split (fun q2 => ?_) (fun q2 => ?_)
          · repeat walk_at "s"
            exact ⟨rfl, (decide_eq_true ⟨by simpa using (sgn_mem hv1 true).mp q1, by simpa using (sgn_mem hv1 false).mp q2⟩).symm⟩
          · exact ⟨rfl, (decide_eq_false (fun ⟨_, q⟩ => by have := (sgn_mem hv1 false).mpr (by simpa using q); rw [q2] at this; cases this)).symm⟩
        · exact ⟨rfl, (decide_eq_false (fun ⟨q, _⟩ => by have := (sgn_mem hv1 true).mpr (by simpa using q); rw [q1] at this; cases this)).symm⟩
      obtain ⟨rfl, rfl⟩ := eb
      refine ite_split (fun hb => ?_) (fun hb => ?_)
      · have hb' := of_decide_eq_true hb
        repeat walk_at "s"
        exact h _ _ none e6 rfl ⟨v, hb'⟩ rfl rfl
      have nbv := of_decide_eq_false hb
      repeat walk_at "s"
      refine ev_comp [(PySem.Str.ofString "v", C.L + 1), (PySem.Str.ofString "signs", C.L + 1 + 1)] rfl ?_
      repeat walk_at "s"
      refine ev_cell hs6 ?_
      repeat walk_at "s"
      refine ⟨by simp, fun l7 hl7 => ?_⟩
      have e7 := Ext.new (x := (Tag.tmp, AO.list [])) hl7
      refine op_ned (n := 2) (PD.list (e7 _ _ hl6) (pds_bools _)) (PD.list AH.set_self .nil) (by decide) ?_
      rw [eqv_bools]
      repeat walk_at "s"
      refine cv_intb ?_
      repeat walk_at "s"
      refine cv_range1 (fun r7 hr7 => ?_)
      have e8 := Ext.new (x := (Tag.tmp, AO.rng 0 (if (!(sgn row v).isEmpty) = true then 1 else 0))) hr7
      have hv8 := e8 _ _ (e7 _ _ hv6)
      have hs8 := e8 _ _ (e7 _ _ hs6)
      have hf8 := e8 _ _ (e7 _ _ hf6)
      have hl8 := e8 _ _ (e7 _ _ hl6)
      have E8 := (e6.trans e7).trans e8
      have hr8 : ((H'.set l7 (Tag.tmp, AO.list [])).set r7 (Tag.tmp, AO.rng 0 (if (!(sgn row v).isEmpty) = true then 1 else 0))) r7 = some (Tag.tmp, AO.rng 0 (if (!(sgn row v).isEmpty) = true then 1 else 0)) := AH.set_self
      generalize (H'.set l7 (Tag.tmp, AO.list [])).set r7 (Tag.tmp, AO.rng 0 (if (!(sgn row v).isEmpty) = true then 1 else 0)) = H8 at *
      refine ⟨_, _, src_rng hr8 (by cases (sgn row v).isEmpty <;> decide), by rw [rng_len]; cases (sgn row v).isEmpty <;> decide, fun j out H9 => H9 = H8 ∧ out = ((dl row v).take j).map .int, ⟨rfl, rfl⟩, fun _ _ _ _ => trivial, fun j u hu out H9 ⟨e9, eo⟩ D hD => ?_, fun out H9 ⟨e9, eo⟩ l9 hl9 => ?_⟩
      · subst e9
        obtain ⟨hj, rfl⟩ := rng_get hu
        cases hsg : sgn row v with
        | nil => rw [hsg] at hj; simp at hj
        | cons b0 br =>
          have hj0 : j = 0 := by rw [hsg] at hj; simpa using hj
          subst hj0
          have hdl := sgn_cons hv1 hsg nbv
          refine tests_nil ?_
          repeat walk_at "s"
          refine ev_cell hs8 ?_
          repeat walk_at "s"
          refine op_item_list (x := .bool b0) hl8 (by decide) (by rw [hsg]; rfl) ?_ (by decide)
          repeat walk_at "s"
          refine ite_split (fun q => ?_) (fun q => ?_)
          · refine ev_cell hv8 ?_
            exact ⟨rfl, by rw [eo, hdl, q]; simp⟩
          · repeat walk_at "s"
            refine ev_cell hv8 ?_
            repeat walk_at "s"
            exact ⟨rfl, by rw [eo, hdl, q]; simp⟩
      · subst e9
        have eo2 : out = (dl row v).map .int := by
          rw [eo, rng_len]
          cases hsg : sgn row v with
          | nil => rw [sgn_nil hv1 hsg]; simp
          | cons b0 br => rw [sgn_cons hv1 hsg nbv]; rfl
        subst eo2
        have e9 := Ext.new (x := (Tag.tmp, AO.list ((dl row v).map .int))) hl9
        refine op_addl (vs := (dueL row i).map .int) (ws := (dl row v).map .int) (e9 _ _ hf8) AH.set_self (by have := dueL_len row i; have := dl_len row v; simp only [List.length_map]; (clear hz hroom hi hv1 nbv; lia)) (fun l10 hl10 => ?_)
        have e10 := Ext.new (x := (Tag.tmp, AO.list ((dueL row i).map .int ++ (dl row v).map .int))) hl10
        repeat walk_at "s"
        refine ⟨by walk_at "loc", (E8.trans e9).trans e10, ⟨_, e10 _ _ (e9 _ _ hv8)⟩, ⟨_, e10 _ _ (e9 _ _ hs8)⟩, ⟨l10, by walk_at "loc", ?_⟩, fun w h1 h4 => ?_⟩
        · rw [AH.set_self]
          show some (Tag.tmp, AO.list _) = some (Tag.tmp, AO.list ((dueL row i ++ dl row ((i : Int) + 1)).map .int))
          rw [List.map_append, hvv, Int.add_comm 1]
        · by_cases hwi : w ≤ i
          · exact nb w h1 hwi
          · have : w = v := by push_cast at h4; (clear hz hroom hi hi4 hv1 nbv h1; lia)
            rw [this]; exact nbv
  · rw [rng_len] at hf nb
    repeat walk_at "s"
    refine cv_tuple hf (by have := dueL_len row (5 - 1 : Int).toNat; rw [List.length_map]; have : (5 - 1 : Int).toNat = 4 := rfl; (clear hz hroom; lia)) (fun l2 hl2 => ?_)
    repeat walk_at "s"
    refine h _ _ (some (dueL row 4)) (e'.trans (Ext.new hl2)) ⟨l2, _, rfl, AH.set_self⟩ (ordR_due hr (fun v h1 h4 => nb v h1 (by simpa using h4))) rfl rfl
theorem bt_bool : bootBuiltins "bool" = some (.type "bool") := by decide +kernel
theorem is_clause_spec {H : AH} {a : Addr} {t : Tag} {r : List Int} (hH : H a = some (t, .tup (r.map .int))) (hp : r.Pairwise (fun x y => ab x < ab y)) (hr : ∀ x ∈ r, 1 ≤ ab x) (Φ : AV → AH → Prop) (h : Φ (.bool true) H) : Spec 1 236 [.ref a] H Φ := by
  refine spec_plain (fun w => rfl) (fun w => rfl) (binds1 (n1 := "clause") (fun _ => rfl) rfl) (by rfl) (by decide) rfl rfl rfl (fun C hroom hfe hlt => ?_)
  generalize hmm : (fun x => List.lookup x _ : Loc) = m
  have mc : m (PySem.Str.ofString "clause") = some (.ref a) := by rw [← hmm]; rfl
  clear hmm
  repeat walk_at "s"
  refine ex_forO ?_
  repeat walk_at "s"
  refine ev_bi (nb_tuple _) bt_tuple (by decide) ?_
  repeat walk_at "s"
  refine cv_isi_tt hH ?_
  repeat walk_at "s"
  refine ⟨_, _, src_tup hH, fun i m' H' => H' = H ∧ ∃ b : Int, m' (PySem.Str.ofString "ahead") = some (.int b) ∧ ∀ x ∈ r.drop i, b < ab x, ⟨rfl, 0, by walk_at "loc", fun x hx => by have := hr x (by simpa using hx); (clear h hroom; omega)⟩, fun i m2 H2 q => ⟨t, q.1.symm ▸ hH⟩, fun i u hu m' H' ⟨e, b, mb, hb⟩ => ?_, fun m' H' ⟨e, b, mb, hb⟩ => ?_⟩
  · subst e
    obtain ⟨x, hx, rfl⟩ := ints_get hu
    have hdr : r.drop i = x :: r.drop (i + 1) := by
      obtain ⟨hl, he⟩ := List.getElem?_eq_some_iff.mp hx
      rw [List.drop_eq_getElem_cons hl, he]
    have hpd : (r.drop i).Pairwise (fun x y => ab x < ab y) := hp.sublist (List.drop_sublist ..)
    rw [hdr] at hb hpd
    repeat walk_at "s"
    refine ev_bi (nb_int _) bt_int (by decide) ?_
    repeat walk_at "s"
    refine cv_isi_ii ?_
    repeat walk_at "s"
    refine ite_split (fun q => by cases q) (fun _ => ?_)
    repeat walk_at "s"
    refine ev_bi (nb_bool _) bt_bool (by decide) ?_
    repeat walk_at "s"
    refine cv_isi_ib ?_
    repeat walk_at "s"
    refine ite_split (fun q => ?_) (fun _ => ?_)
    · exfalso
      have h1 := hb x (by simp)
      have h2 := of_decide_eq_true q
      rw [show (if x < 0 then -x else x) = ab x from rfl] at h2
      (clear hroom h; lia)
    · repeat walk_at "s"
      exact ⟨rfl, ab x, by walk_at "loc", (List.pairwise_cons.mp hpd).1⟩
  · subst e
    repeat walk_at "s"
    exact h
--T S21

theorem gr_neg (x : Int) : gr (-x) = -(gr x) := by unfold gr; lia
theorem gr_inj (x y : Int) (h : gr x = gr y) : x = y := by unfold gr at h; lia
theorem gr_ab (x y : Int) (h : ab x < ab y) : ab (gr x) < ab (gr y) := by unfold gr; unfold ab at *; split at h <;> split at h <;> split <;> split <;> omega
theorem ng_ab (x y : Int) (h : ab x < ab y) : ab (0 - x) < ab (0 - y) := by
  rw [show 0 - x = -x by lia, show 0 - y = -y by lia, ab_n, ab_n]; exact h
theorem Od.cases {H v o} (h : Od H v o) (hn : isNone v = o.isNone) : (o = none ∧ v = .none) ∨ ∃ r x t, o = some r ∧ v = .ref x ∧ H x = some (t, .tup (r.map .int)) := by
  cases o with
  | none => exact .inl ⟨rfl, h⟩
  | some r => obtain ⟨x, t, e, q⟩ := h; exact .inr ⟨r, x, t, rfl, e, q⟩
theorem St.sub {C : Ctx} {m : Loc} {H H' : AH} {s : Shared} (hs : St C m H' s) (e : Ext H H') : St C m H s := ⟨hs.fr, fun a t o q => hs.hr a t o (e _ _ q), hs.sr⟩
theorem PD.ext {H H' : AH} {n a d} (h : PD H n a d) (e : Ext H H') : PD H' n a d := ⟨fun C m s v hs q => h.1 C m s v (hs.sub e) q, h.2⟩
theorem ods4 {H v o} (h : Od H v o) : Ods H [v, v, v, v] [o, o, o, o] := (((Ods.nil.snoc h).snoc h).snoc h).snoc h
theorem Od.eqv {a b : Option (List Int)} (h : a = b) : (!PyData.eqv (od a) (od b)) = false := by rw [eqv_od, decide_eq_true h]; rfl
theorem told_spec {H : AH} {a : Addr} {t : Tag} {row : List Int} (hH : H a = some (t, intsO row)) (hz : row.length ≤ 6) (hr : ∀ x ∈ row, 1 ≤ ab x ∧ ab x ≤ 4) (Φ : AV → AH → Prop)
    (h : ∀ H', Ext H H' → Φ (.bool true) H') : Spec 2 272 [.ref a] H Φ := by
  refine spec_cells (fun w => rfl) (fun w => rfl) (binds1 (n1 := "row") (fun _ => rfl) rfl) (fun _ => rfl) (by decide) rfl rfl rfl (fun C hroom hfe hlt H1 hH1 hcells => ?_)
  have hcr : H1 (C.L + 1) = some (.cell, .cell (some (.ref a))) := hcells (PySem.Str.ofString "row") _ rfl
  have hcd : H1 (C.L + 1 + 1) = some (.cell, .cell none) := hcells (PySem.Str.ofString "due") _ rfl
  generalize hm : bindLA _ _ _ = m
  clear hcells
  have e1 : Ext H H1 := hH1
  have ha1 := e1 _ _ hH
  have nz : ∀ x ∈ row, x ≠ 0 := fun x hx => ab_zero (hr x hx).1
  have upC : ∀ {H2 : AH} {x} (c : Nat), Ext H H2 → @LT.lt Nat _ C.L c → Ext H (H2.set c x) := fun c e hk b y q => by
    have h1 : @LT.lt Nat _ b C.L := hlt b y q
    rw [AH.set_ne (neA (by (clear hz hroom; lia)))]; exact e _ _ q
  repeat walk_at "s"
  refine ex_tup ?_
  repeat walk_at "s"
  refine ev_cell hcr ?_
  repeat walk_at "s"
  refine due_spec ha1 (by lia) hr _ (fun H2 v o e2 hod hord hvc hvn => ?_) _ _ (by omega)
  have hcr2 := e2 _ _ hcr
  have hcd2 := e2 _ _ hcd
  have ha2 := e2 _ _ ha1
  repeat walk_at "s"
  refine ev_cell hcr2 ?_
  repeat walk_at "s"
  refine cv_list ha2 (by rw [List.length_map]; lia) (fun lk hlk => ?_)
  repeat walk_at "s"
  refine ⟨by simp, fun lt hlt2 => ?_⟩
  have e3 := Ext.new (x := (Tag.tmp, AO.list (row.map .int))) hlk
  have e4 := Ext.new (x := (Tag.tmp, AO.tup [v, .ref lk])) hlt2
  refine ⟨lt, _, _, rfl, AH.set_self, rfl, ?_⟩
  have hcr4 := e4 _ _ (e3 _ _ hcr2)
  have hcd4 := e4 _ _ (e3 _ _ hcd2)
  have hod4 := (hod.ext e3).ext e4
  have hlk4 := e4 _ _ (AH.set_self (H := H2) (a := lk) (x := (Tag.tmp, AO.list (row.map .int))))
  have E4 := ((e1.trans e2).trans e3).trans e4
  generalize (H2.set lk (Tag.tmp, AO.list (row.map .int))).set lt (Tag.tmp, AO.tup [v, .ref lk]) = H4 at *
  clear hcr hcd hcr2 hcd2 ha1 ha2 hod e1 e2 e3 e4 hlk hlt2 hH1
  repeat walk_at "s"
  refine sv_cell hcd4 ?_
  have ndl : ∀ {x : Addr} {y}, H4 x = some y → y.1 ≠ .cell → (H4.set (C.L + 1 + 1) (.cell, .cell (some v))) x = some y := fun q hq => AH.set_tag hcd4 q hq
  have hcr5 : (H4.set (C.L + 1 + 1) (.cell, .cell (some v))) (C.L + 1) = some (.cell, .cell (some (.ref a))) := by rw [AH.set_ne (neA (by (clear hz hroom; lia)))]; exact hcr4
  have hcd5 : (H4.set (C.L + 1 + 1) (.cell, .cell (some v))) (C.L + 1 + 1) = some (.cell, .cell (some v)) := AH.set_self
  have hlk5 := ndl hlk4 (by intro q; cases q)
  have hod5 : Od (H4.set (C.L + 1 + 1) (.cell, .cell (some v))) v o := by
    cases o with
    | none => exact hod4
    | some l => obtain ⟨x, tx, e, q⟩ := hod4; exact ⟨x, tx, e, by rw [AH.set_ne (by rintro rfl; rw [hcd4] at q; cases q)]; exact q⟩
  have E5 : Ext H (H4.set (C.L + 1 + 1) (.cell, .cell (some v))) := upC _ E4 (by (clear hz hroom; lia))
  generalize H4.set (C.L + 1 + 1) (.cell, .cell (some v)) = H5 at *
  clear ndl hcr4 hcd4 hlk4 hod4 E4
  have ha5 := E5 _ _ hH
  repeat walk_at "s"
  refine ev_comp [] rfl ?_
  repeat walk_at "s"
  refine ev_cell hcr5 ?_
  repeat walk_at "s"
  refine ev_cell hcr5 ?_
  repeat walk_at "s"
  refine cv_tuple ha5 (by rw [List.length_map]; lia) (fun l1 hl1 => ?_)
  have e6 := Ext.new (x := (Tag.tmp, AO.tup (row.map .int))) hl1
  have q1 : (H5.set l1 (.tmp, .tup (row.map .int))) l1 = some (.tmp, .tup (row.map .int)) := AH.set_self
  generalize H5.set l1 (.tmp, .tup (row.map .int)) = H6 at *
  repeat walk_at "s"
  refine ev_cell (e6 _ _ hcr5) ?_
  repeat walk_at "s"
  refine ⟨rfl, _, _, _, rfl, e6 _ _ ha5, by rw [List.length_map]; lia, fun l2 hl2 => ?_⟩
  rw [← List.map_reverse]
  have e7 := Ext.new (x := (Tag.tmp, AO.list (row.reverse.map .int))) hl2
  have q2 : (H6.set l2 (.tmp, .list (row.reverse.map .int))) l2 = some (.tmp, .list (row.reverse.map .int)) := AH.set_self
  generalize H6.set l2 (.tmp, .list (row.reverse.map .int)) = H7 at *
  repeat walk_at "s"
  refine ev_cell (e7 _ _ (e6 _ _ hcr5)) ?_
  repeat walk_at "s"
  refine ev_cell (e7 _ _ (e6 _ _ hcr5)) ?_
  refine op_addl (vs := row.map .int) (ws := row.map .int) (e7 _ _ (e6 _ _ ha5)) (e7 _ _ (e6 _ _ ha5)) (by rw [List.length_map]; lia) (fun l3 hl3 => ?_)
  rw [← List.map_append]
  have e8 := Ext.new (x := (Tag.tmp, AO.list ((row ++ row).map .int))) hl3
  have q3 : (H7.set l3 (.tmp, .list ((row ++ row).map .int))) l3 = some (.tmp, .list ((row ++ row).map .int)) := AH.set_self
  generalize H7.set l3 (.tmp, .list ((row ++ row).map .int)) = H8 at *
  repeat walk_at "s"
  refine ⟨by simp, fun lq hlq => ?_⟩
  have e9 := Ext.new (x := (Tag.tmp, AO.tup [AV.ref a, AV.ref l1, AV.ref l2, AV.ref l3])) hlq
  have q4 : (H8.set lq (Tag.tmp, AO.tup [AV.ref a, AV.ref l1, AV.ref l2, AV.ref l3])) lq = some (Tag.tmp, AO.tup [AV.ref a, AV.ref l1, AV.ref l2, AV.ref l3]) := AH.set_self
  have e59 : Ext H5 (H8.set lq (Tag.tmp, AO.tup [AV.ref a, AV.ref l1, AV.ref l2, AV.ref l3])) := (e6.trans e7).trans (e8.trans e9)
  have items : ∀ (i : Nat) u, [AV.ref a, AV.ref l1, AV.ref l2, AV.ref l3][i]? = some u → i < 4 ∧ ∃ x tx ob lits, u = .ref x ∧ (H8.set lq (Tag.tmp, AO.tup [AV.ref a, AV.ref l1, AV.ref l2, AV.ref l3])) x = some (tx, ob) ∧ (ob = .list ((lits : List Int).map .int) ∨ ob = .tup (lits.map .int)) ∧ lits.length < 60 ∧ ∀ y, y ∈ lits ↔ y ∈ row := fun i u hu => by
    match i, hu with
    | 0, hu => cases hu; exact ⟨by (clear hz hroom; lia), a, _, _, row, rfl, e59 _ _ ha5, .inl rfl, by omega, fun y => Iff.rfl⟩
    | 1, hu => cases hu; exact ⟨by (clear hz hroom; lia), l1, _, _, row, rfl, e9 _ _ (e8 _ _ (e7 _ _ q1)), .inr rfl, by omega, fun y => Iff.rfl⟩
    | 2, hu => cases hu; exact ⟨by (clear hz hroom; lia), l2, _, _, row.reverse, rfl, e9 _ _ (e8 _ _ q2), .inl rfl, by rw [List.length_reverse]; omega, fun y => List.mem_reverse⟩
    | 3, hu => cases hu; exact ⟨by (clear hz hroom; lia), l3, _, _, row ++ row, rfl, e9 _ _ q3, .inl rfl, by rw [List.length_append]; omega, fun y => by rw [List.mem_append, or_self]⟩
    | i + 4, hu => cases hu
  generalize H8.set lq (Tag.tmp, AO.tup [AV.ref a, AV.ref l1, AV.ref l2, AV.ref l3]) = H9 at *
  clear e6 e7 e8 e9 q1 q2 q3 hl1 hl2 hl3 hlq
  refine ⟨_, _, src_tup q4, by exact Nat.le_of_ble_eq_true rfl, fun i out H' => Ext H9 H' ∧ Ods H' out (List.replicate i o), ⟨.refl, Ods.nil⟩, fun i out H' q => ⟨_, q.1 _ _ q4⟩, fun i u hu out H' ⟨ex, ho⟩ D hD => ?_, fun out H' ⟨ex, ho⟩ l hl => ?_⟩
  · obtain ⟨hi, x, tx, ob, lits, rfl, hx, hob, hlz, hmem⟩ := items i u hu
    refine tests_nil ?_
    repeat walk_at "s"
    refine ordered_od (ex _ _ hx) hob hlz (fun y hy => nz y ((hmem y).mp hy)) _ (fun H10 v' o' e10 hod' hord' _ _ => ?_) _ _ (by (clear hz hi hob hlz; omega))
    have : o' = o := (hord'.congr hmem).unique hord
    subst this
    refine ⟨ex.trans e10, ?_⟩
    rw [List.replicate_succ']
    exact (ho.ext e10).snoc hod'
  have e10 := Ext.new (x := (Tag.tmp, AO.list out)) hl
  have E10 : Ext H5 (H'.set l (Tag.tmp, AO.list out)) := (e59.trans ex).trans e10
  have pd10 : PD (H'.set l (Tag.tmp, AO.list out)) 3 (.ref l) (.list ((List.replicate 4 o).map od)) := PD.list AH.set_self ((ho.ext e10).pds)
  generalize H'.set l (Tag.tmp, AO.list out) = H10 at *
  clear items q4 ex ho hl e10
  repeat walk_at "s"
  refine ev_cell (E10 _ _ hcd5) ?_
  repeat walk_at "s"
  refine ev_cell (E10 _ _ hcd5) ?_
  repeat walk_at "s"
  refine ev_cell (E10 _ _ hcd5) ?_
  repeat walk_at "s"
  refine ev_cell (E10 _ _ hcd5) ?_
  repeat walk_at "s"
  refine ⟨by simp, fun l11 hl11 => ?_⟩
  have e11 := Ext.new (x := (Tag.tmp, AO.list [v, v, v, v])) hl11
  refine op_ned (n := 3) (pd10.ext e11) (PD.list AH.set_self (ods4 (hod5.ext (E10.trans e11))).pds) (by decide) ?_
  rw [eqv_ods, show decide (List.replicate 4 o = [o, o, o, o]) = true from decide_eq_true rfl]
  have E11 := E10.trans e11
  generalize H10.set l11 (Tag.tmp, AO.list [v, v, v, v]) = H11 at *
  clear e11 pd10 E10 hl11 e59
  repeat walk_at "s"
  refine ite_split (fun q => by cases q) (fun _ => ?_)
  repeat walk_at "s"
  refine ev_cell (E11 _ _ hcr5) ?_
  repeat walk_at "s"
  refine op_ned (n := 3) (PD.ilist (ns := row) (E11 _ _ ha5)) (PD.ilist (ns := row) (E11 _ _ hlk5)) (by decide) ?_
  rw [eqv_ints, decide_eq_true rfl]
  repeat walk_at "s"
  refine ite_split (fun q => by cases q) (fun _ => ?_)
  have hod11 := hod5.ext E11
  have hcr11 := E11 _ _ hcr5
  have hcd11 := E11 _ _ hcd5
  have ha11 := E11 _ _ ha5
  have EH := E5.trans E11
  clear hcr5 hcd5 ha5 hlk5 hod5 E11 E5
  refine tv_or_nil ?_
  walk_at "s"
  refine ite_f ?_
  refine ex_nil ?_
  refine seq_next ?_
  walk_at "s"
  -- denied
  refine ex_seq ?_
  refine ex_assign ?_
  refine EV.mono (Φ := fun dv H' => Ext H11 H' ∧ Od H' dv (o.map (·.map fun x => 0 - x))) ?_ (fun dv H12 hdv => ?_)
  · repeat walk_at "s"
    refine ev_cell hcd11 ?_
    repeat walk_at "s"
    refine op_is_none ?_ hvc
    rcases hod11.cases hvn with ⟨rfl, rfl⟩ | ⟨r, xr, tr, rfl, rfl, hxr⟩
    · dsimp only [isNone]
      repeat walk_at "s"
      exact ⟨.refl, rfl⟩
    · dsimp only [isNone]
      repeat walk_at "s"
      refine ev_comp [] rfl ?_
      repeat walk_at "s"
      refine ev_cell hcd11 ?_
      have hrl : r.length ≤ 100 := by
        have := row_len (fun x hx => hr x ((hord.2.1 x).mp hx)) (List.pairwise_map.mpr (hord.2.2.imp fun q => Int.ne_of_lt q)); (clear hz hroom; lia)
      refine ⟨_, _, src_tup hxr, by rw [List.length_map]; (clear hz hroom; lia), fun i out H' => H' = H11 ∧ out = ((r.take i).map fun x => 0 - x).map .int, ⟨rfl, rfl⟩, fun i out H' q => ⟨_, q.1.symm ▸ hxr⟩, fun i u hu out H' ⟨ex, eo⟩ D hD => ?_, fun out H' ⟨ex, eo⟩ l hl => ?_⟩
      · subst ex
        obtain ⟨x, hx, rfl⟩ := ints_get hu
        refine tests_nil ?_
        repeat walk_at "s"
        exact ⟨rfl, by rw [eo, take_map hx, List.map_append]; rfl⟩
      · subst ex
        rw [List.length_map, List.take_of_length_le (Nat.le_refl _)] at eo
        subst eo
        repeat walk_at "s"
        refine cv_tuple AH.set_self (by simp; (clear hz hroom; lia)) (fun l2 hl2 => ?_)
        exact ⟨(Ext.new hl).trans (Ext.new hl2), l2, _, rfl, AH.set_self⟩
  obtain ⟨e12, hdn⟩ := hdv
  repeat walk_at "s"
  have hcr12 := e12 _ _ hcr11
  have hcd12 := e12 _ _ hcd11
  have ha12 := e12 _ _ ha11
  have hod12 := hod11.ext e12
  have EH12 := EH.trans e12
  have md : ∀ m2 : Loc, m2 = m2 := fun _ => rfl
  clear hcr11 hcd11 ha11 hod11 EH e12
  refine ev_comp [] rfl ?_
  refine ev_cell hcr12 ?_
  refine ⟨_, _, src_list ha12, by rw [List.length_map]; lia, fun i out H' => Ext H12 H' ∧ out = ((row.take i).map (fun x => 0 - x)).map .int, ⟨.refl, rfl⟩, fun i out H' q => ⟨_, q.1 _ _ ha12⟩, fun i u hu out H' ⟨ex, eo⟩ D hD => ?_, fun out H' ⟨ex, eo⟩ l hl => ?_⟩
  · obtain ⟨x, hx, rfl⟩ := ints_get hu
    refine tests_nil ?_
    repeat walk_at "s"
    exact ⟨ex, by rw [eo, take_map hx, List.map_append]; rfl⟩
  rw [List.length_map, List.take_of_length_le (Nat.le_refl _)] at eo
  subst eo
  have en := Ext.new (x := (Tag.tmp, AO.list ((row.map (fun x => 0 - x)).map .int))) hl
  have hon := hord.map (fun x => 0 - x) (fun x => by (clear hz hroom; lia)) (fun x y q => by (clear hz hroom; lia)) ng_ab
  repeat walk_at "s"
  refine ordered_od (AH.set_self (x := (Tag.tmp, AO.list ((row.map fun x => 0 - x).map .int)))) (.inl rfl) (by rw [List.length_map]; omega) (fun y hy => by obtain ⟨z, hz, rfl⟩ := List.mem_map.mp hy; have := nz z hz; lia) _ (fun H13 v2 o2 e13 hod2 hord2 _ _ => ?_) _ _ (by omega)
  have E13 := (ex.trans en).trans e13
  repeat walk_at "s"
  refine op_ned (n := 3) hod2.pd (hdn.ext E13).pd (by decide) ?_
  rw [Od.eqv (hord2.unique hon)]
  clear hod2 hord2 hon ex en e13 hl hdn
  refine tr_bool ?_
  walk_at "s"
  refine ite_f ?_
  refine ex_nil ?_
  refine seq_next ?_
  walk_at "s"
  have hcr13 := E13 _ _ hcr12
  have hcd13 := E13 _ _ hcd12
  have ha13 := E13 _ _ ha12
  have hod13 := hod12.ext E13
  have EH13 := EH12.trans E13
  clear hcr12 hcd12 ha12 hod12 EH12 E13
  -- great
  refine ex_seq ?_
  refine ex_assign ?_
  refine EV.mono (Φ := fun dv H' => Ext H13 H' ∧ Od H' dv (o.map (·.map gr))) ?_ (fun dv H14 hdv => ?_)
  · repeat walk_at "s"
    refine ev_cell hcd13 ?_
    repeat walk_at "s"
    refine op_is_none ?_ hvc
    rcases hod13.cases hvn with ⟨rfl, rfl⟩ | ⟨r, xr, tr, rfl, rfl, hxr⟩
    · dsimp only [isNone]
      repeat walk_at "s"
      exact ⟨.refl, rfl⟩
    · dsimp only [isNone]
      repeat walk_at "s"
      refine ev_comp [] rfl ?_
      repeat walk_at "s"
      refine ev_cell hcd13 ?_
      have hrl : r.length ≤ 100 := by
        have := row_len (fun x hx => hr x ((hord.2.1 x).mp hx)) (List.pairwise_map.mpr (hord.2.2.imp fun q => Int.ne_of_lt q)); (clear hz hroom; lia)
      refine ⟨_, _, src_tup hxr, by rw [List.length_map]; (clear hz hroom; lia), fun i out H' => Ext H13 H' ∧ out = ((r.take i).map gr).map .int, ⟨.refl, rfl⟩, fun i out H' q => ⟨_, q.1 _ _ hxr⟩, fun i u hu out H' ⟨ex, eo⟩ D hD => ?_, fun out H' ⟨ex, eo⟩ l hl => ?_⟩
      · obtain ⟨x, hx, rfl⟩ := ints_get hu
        refine tests_nil ?_
        repeat walk_at "s"
        refine great_spec (hr x ((hord.2.1 x).mp (List.mem_of_getElem? hx))).2 _ ?_ _ _ (by (clear hz hrl; omega))
        exact ⟨ex, by rw [eo, take_map hx, List.map_append]; rfl⟩
      · rw [List.length_map, List.take_of_length_le (Nat.le_refl _)] at eo
        subst eo
        repeat walk_at "s"
        refine cv_tuple AH.set_self (by simp; (clear hz hroom; lia)) (fun l2 hl2 => ?_)
        exact ⟨(ex.trans (Ext.new hl)).trans (Ext.new hl2), l2, _, rfl, AH.set_self⟩
  obtain ⟨e14, hdn⟩ := hdv
  repeat walk_at "s"
  have hcr14 := e14 _ _ hcr13
  have hcd14 := e14 _ _ hcd13
  have ha14 := e14 _ _ ha13
  have hod14 := hod13.ext e14
  have EH14 := EH13.trans e14
  clear hcr13 hcd13 ha13 hod13 EH13 e14
  refine ev_comp [] rfl ?_
  refine ev_cell hcr14 ?_
  refine ⟨_, _, src_list ha14, by rw [List.length_map]; lia, fun i out H' => Ext H14 H' ∧ out = ((row.take i).map gr).map .int, ⟨.refl, rfl⟩, fun i out H' q => ⟨_, q.1 _ _ ha14⟩, fun i u hu out H' ⟨ex, eo⟩ D hD => ?_, fun out H' ⟨ex, eo⟩ l hl => ?_⟩
  · obtain ⟨x, hx, rfl⟩ := ints_get hu
    refine tests_nil ?_
    repeat walk_at "s"
    refine great_spec (hr x (List.mem_of_getElem? hx)).2 _ ?_ _ _ (by omega)
    exact ⟨ex, by rw [eo, take_map hx, List.map_append]; rfl⟩
  rw [List.length_map, List.take_of_length_le (Nat.le_refl _)] at eo
  subst eo
  have en := Ext.new (x := (Tag.tmp, AO.list ((row.map gr).map .int))) hl
  have hon := hord.map gr gr_neg gr_inj gr_ab
  repeat walk_at "s"
  refine ordered_od (AH.set_self (x := (Tag.tmp, AO.list ((row.map gr).map .int)))) (.inl rfl) (by rw [List.length_map]; omega) (fun y hy => by obtain ⟨z, hz, rfl⟩ := List.mem_map.mp hy; have := nz z hz; unfold gr; lia) _ (fun H15 v2 o2 e15 hod2 hord2 _ _ => ?_) _ _ (by omega)
  have E15 := (ex.trans en).trans e15
  repeat walk_at "s"
  refine op_ned (n := 3) hod2.pd (hdn.ext E15).pd (by decide) ?_
  rw [Od.eqv (hord2.unique hon)]
  clear hod2 hord2 hon ex en e15 hl hdn
  refine tr_bool ?_
  walk_at "s"
  refine ite_f ?_
  refine ex_nil ?_
  refine seq_next ?_
  walk_at "s"
  have hcr15 := E15 _ _ hcr14
  have hcd15 := E15 _ _ hcd14
  have ha15 := E15 _ _ ha14
  have hod15 := hod14.ext E15
  have EH15 := EH14.trans E15
  clear hcr14 hcd14 ha14 hod14 EH14 E15
  repeat walk_at "s"
  refine ev_cell hcd15 ?_
  repeat walk_at "s"
  refine op_is_none ?_ hvc
  rcases hod15.cases hvn with ⟨rfl, rfl⟩ | ⟨r, xr, tr, rfl, rfl, hxr⟩
  · dsimp only [isNone]
    repeat walk_at "s"
    refine ev_comp [(PySem.Str.ofString "row", C.L + 1)] rfl ?_
    repeat walk_at "s"
    refine cv_range1 (fun rg hrg => ?_)
    have eg := Ext.new (x := (Tag.tmp, AO.rng 0 16)) hrg
    have hg := AH.set_self (H := H15) (a := rg) (x := (Tag.tmp, AO.rng 0 16))
    generalize H15.set rg (Tag.tmp, AO.rng 0 16) = H16 at *
    refine ⟨_, _, src_rng hg (by decide), by decide, fun i out H' => Ext H16 H' ∧ out = [], ⟨.refl, rfl⟩, fun _ _ _ _ => trivial, fun i u hu out H' ⟨ex, eo⟩ D hD => ?_, fun out H' ⟨ex, eo⟩ l hl => ?_⟩
    · obtain ⟨hi, rfl⟩ := rng_get hu
      have hi16 : i < 16 := by simpa using hi
      refine tests_one ?_
      repeat walk_at "s"
      refine ev_cell (ex _ _ (eg _ _ hcr15)) ?_
      repeat walk_at "s"
      rw [Int.zero_add]
      obtain ⟨lb, hb1, hb2⟩ := hord
      refine holds_spec (w := i) (ex _ _ (eg _ _ ha15)) (.inl rfl) (by (clear hroom hi hi16; lia)) hr hi16 _ (fun H17 e17 => ?_) _ _ (by (clear hz hi hi16; omega))
      rw [holds_both (nz lb hb1) hb1 hb2]
      repeat walk_at "s"
      refine ite_split (fun q => by cases q) (fun _ => ?_)
      exact ⟨ex.trans e17, eo⟩
    · subst eo
      have en := Ext.new (x := (Tag.tmp, AO.list [])) hl
      repeat walk_at "s"
      refine ⟨by simp, fun l2 hl2 => ?_⟩
      have en2 := Ext.new (x := (Tag.tmp, AO.list [])) hl2
      refine op_eqd (n := 3) (PD.list (en2 _ _ AH.set_self) .nil) (PD.list AH.set_self .nil) (by decide) ?_
      repeat walk_at "s"
      exact h _ ((((EH15.trans eg).trans ex).trans en).trans en2)
  · dsimp only [isNone]
    repeat walk_at "s"
    refine ev_cell hcd15 ?_
    have hrr : ∀ x ∈ r, 1 ≤ ab x ∧ ab x ≤ 4 := fun x hx => hr x ((hord.2.1 x).mp hx)
    have hr4 : r.length ≤ 4 := row_len hrr (List.pairwise_map.mpr (hord.2.2.imp fun q => Int.ne_of_lt q))
    repeat walk_at "s"
    refine ordered_od hxr (.inr rfl) (by (clear hz hroom; omega)) (fun y hy => ab_zero (hrr y hy).1) _ (fun H16 v2 o2 e16 hod2 hord2 _ _ => ?_) _ _ (by (clear hz hr4; omega))
    have hrr2 : OrdR r (some r) := ⟨fun x hx hn => hord.1 x ((hord.2.1 x).mp hx) ((hord.2.1 _).mp hn), fun x => Iff.rfl, hord.2.2⟩
    repeat walk_at "s"
    refine ev_cell (e16 _ _ hcd15) ?_
    refine op_ned (n := 3) hod2.pd (hod15.ext e16).pd (by decide) ?_
    rw [Od.eqv (hord2.unique hrr2)]
    repeat walk_at "s"
    refine ev_cell (e16 _ _ hcd15) ?_
    repeat walk_at "s"
    refine is_clause_spec (e16 _ _ hxr) hord.2.2 (fun x hx => (hrr x hx).1) _ ?_ _ _ (by (clear hz hr4; omega))
    repeat walk_at "s"
    refine ite_split (fun q => by cases q) (fun _ => ?_)
    repeat walk_at "s"
    refine ev_comp [(PySem.Str.ofString "row", C.L + 1), (PySem.Str.ofString "due", C.L + 1 + 1)] rfl ?_
    repeat walk_at "s"
    refine cv_range1 (fun rg hrg => ?_)
    have eg := e16.trans (Ext.new (x := (Tag.tmp, AO.rng 0 16)) hrg)
    have hg := AH.set_self (H := H16) (a := rg) (x := (Tag.tmp, AO.rng 0 16))
    generalize H16.set rg (Tag.tmp, AO.rng 0 16) = H17 at *
    refine ⟨_, _, src_rng hg (by decide), by decide, fun i out H' => Ext H17 H' ∧ out = [], ⟨.refl, rfl⟩, fun _ _ _ _ => trivial, fun i u hu out H' ⟨ex, eo⟩ D hD => ?_, fun out H' ⟨ex, eo⟩ l hl => ?_⟩
    · obtain ⟨hi, rfl⟩ := rng_get hu
      have hi16 : i < 16 := by simpa using hi
      refine tests_one ?_
      repeat walk_at "s"
      refine ev_cell (ex _ _ (eg _ _ hcr15)) ?_
      repeat walk_at "s"
      rw [Int.zero_add]
      refine holds_spec (w := i) (ex _ _ (eg _ _ ha15)) (.inl rfl) (by (clear hroom hr4 hi hi16; lia)) hr hi16 _ (fun H18 e18 => ?_) _ _ (by (clear hz hr4 hi hi16; omega))
      have ex8 := ex.trans e18
      repeat walk_at "s"
      refine ev_cell (ex8 _ _ (eg _ _ hcd15)) ?_
      repeat walk_at "s"
      refine holds_spec (w := i) (ex8 _ _ (eg _ _ hxr)) (.inr rfl) (by (clear hz hroom hi hi16; lia)) hrr hi16 _ (fun H19 e19 => ?_) _ _ (by (clear hz hr4 hi hi16; omega))
      refine op_neb ?_
      rw [holds_congr (w := i) (fun x => (hord.2.1 x).symm)]
      repeat walk_at "s"
      refine ite_split (fun q => by simp at q) (fun _ => ?_)
      exact ⟨ex8.trans e19, eo⟩
    · subst eo
      have en := Ext.new (x := (Tag.tmp, AO.list [])) hl
      repeat walk_at "s"
      refine ⟨by simp, fun l2 hl2 => ?_⟩
      have en2 := Ext.new (x := (Tag.tmp, AO.list [])) hl2
      refine op_eqd (n := 3) (PD.list (en2 _ _ AH.set_self) .nil) (PD.list AH.set_self .nil) (by decide) ?_
      repeat walk_at "s"
      exact h _ ((((EH15.trans eg).trans ex).trans en).trans en2)
--T Fw25
theorem newEnv_cell1 {M : Model} {A : Around} {E : Value → Shared → Prop} {s : Shared} {scope : Scope} {globals : Addr} {cl : List (Str × Addr)} {qual x : Str} {outer : Env} {Q : Env → Shared → Prop}
    (hcf : ∀ n, cellsFrom n scope.names cl = (x, n) :: cl) (hpc : ∀ h, pushCells h scope.names = h.push { cls := .type "cell", data := .cell none })
    (h : Q { scope := scope, locals := s.heap.objs.size, globals := globals, cells := (x, s.heap.objs.size + 1) :: cl, qual := qual, func := none, code := outer.code, frame := outer.frame, builtins := outer.builtins } { s with heap := (s.heap.push { cls := .type "dict", data := .dict #[] }).push { cls := .type "cell", data := .cell none } }) :
    wpAny M A (newFunctionEnv scope globals cl [] qual none .none (some outer)) Q E s := by
  simp only [newFunctionEnv, Option.isSome_some, if_true]
  refine wpAny_bind (wpAny_alloc ?_)
  refine wpAny_bind (wpAny_layCells _ (fun name kind cells => by cases hkc : kind == NameKind.cell <;> simp [hkc]) _ _ _ _ ?_)
  rw [hcf, hpc]
  rw [show ({ s with heap := s.heap.push { cls := .type "dict", data := .dict #[] } } : Shared).heap.objs.size = s.heap.objs.size + 1 from Heap.size_push ..]
  refine wpAny_bind ?_
  rw [List.forIn_nil]
  exact wpAny_pure (wpAny_pure h)
section
variable {C : Ctx} {env : Env} {vm m : Loc} {H : AH} {s : Shared}
/-- y = [a list comprehension whose variable is a cell] -/
theorem ex_comp1 {elt iter : Expr} {y : Str} {yp : Pos} {x : Str} {xp : Pos} {ifs : List Expr} {scope : Scope} {pos spos : Pos} {Φ} (cl : List (Str × Addr)) (hclos : closureFor scope env = pure cl)
    (h : EV C env m m H (eval iter env) (fun v H1 => ∃ items Inv, Src C H1 v items Inv ∧ items.length ≤ 1048576 ∧ ∃ J : Addr → Nat → List AV → AH → Prop, (∀ c, H1 c = none → J c 0 [] (H1.set c (.cell, .cell none))) ∧ (∀ c i out H', J c i out H' → Inv H') ∧
      (∀ c i a, items[i]? = some a → ∀ out H', J c i out H' → (∃ o1, H' c = some (.cell, .cell o1)) ∧ ∀ D, D ≠ C.L →
        TV C (compEnvC scope ((x, c) :: cl) D env) (fun _ => none) m (H'.set c (.cell, .cell (some a))) (testsT ifs (compEnvC scope ((x, c) :: cl) D env)) (fun ok H2 =>
          if ok = true then EV C (compEnvC scope ((x, c) :: cl) D env) (fun _ => none) m H2 (eval elt (compEnvC scope ((x, c) :: cl) D env)) (fun r H3 => J c (i + 1) (out ++ [r]) H3) else J c (i + 1) out H2)) ∧
      (∀ c out H', J c items.length out H' → ∀ l, H' l = none → SV C env m (H'.set l (.tmp, .list out)) (storeName env y) (.ref l) (fun m' H2 => Φ .next m' H2))))
    (hsw : swapsWith (.ListComp elt [⟨.Name x xp, iter, ifs, 0⟩] scope pos) (some (.Name y yp)) spos.line env = pure true := by rfl)
    (hcf : ∀ n, cellsFrom n scope.names cl = (x, n) :: cl := by intro _; rfl) (hpc : ∀ h, pushCells h scope.names = h.push { cls := .type "cell", data := .cell none } := by intro _; rfl)
    (hkx : ∀ D c, (compEnvC scope ((x, c) :: cl) D env).kindOf x = some .cell := by intro _ _; rfl) (hkind : scope.kind = .function := by rfl)
    (hnames : ∀ y ∈ scope.names, y.2 = .local → scope.names.lookup y.1 = some .local := by decide)
    (hfs : ∀ x, foldedSetIterable iter env x = pure x := by intro _; rfl) :
    EX C env m H (exec (.Assign [.Name y yp] (.ListComp elt [⟨.Name x xp, iter, ifs, 0⟩] scope pos) spos) env) Φ := fun hl s Q E hs hq => by
  rw [exec_Assign_Name_used _ _ _ _ hsw]
  refine wpAny_bind (wpAny_standAt (wpAny_bind ?_))
  show wpAny _ C.A (do let _ ← comprehension (.ListComp elt [⟨.Name x xp, iter, ifs, 0⟩] scope pos) scope env _ (newList []) false (eval iter env) (some (assign (.Name y yp) env))) _ _ s
  refine wpAny_bind (wpAny_mono (wpAny_comprehension_free (use := some (assign (.Name y yp) env)) (Q := fun _ s' => Q .next s') rfl hfs hclos hkind hnames (h s _ E hs (vm0 hl) fun v H1 s1 h1 hs1 k1 => ?_))
    (fun _ s' hq => wpAny_pure (wpAny_pure hq)) fun _ _ e => e)
  refine opqG (fun goalP goalH => ?_)
  obtain ⟨items, Inv, src, hz, J, j0, jInv, turn, fin⟩ := h1
  all_goals first | (refine goalH ?_; clear goalH goalP) | skip
  refine src m s1 v _ E rfl hs1 fun ob St' hf it st0 => ?_
  refine opqG (fun goalP goalH => ?_)
  obtain ⟨hs2, k2⟩ := hs1.push (ob := ob) (tk := s1.toks)
  all_goals first | (refine goalH ?_; clear goalH goalP) | skip
  have gI := hs1.gfresh
  have LI := hs1.Lne
  -- the list that is grown
  refine wpAny_newObj_type ?_
  refine opqG (fun goalP goalH => ?_)
  obtain ⟨hs3, k3⟩ := hs2.push (ob := { cls := .type "list", data := .seq ([] : List Value).toArray }) (tk := s1.toks)
  all_goals first | (refine goalH ?_; clear goalH goalP) | skip
  have gA := hs2.gfresh
  have LA := hs2.Lne
  have AI : (s1.heap.push ob).objs.size ≠ s1.heap.objs.size := by rw [Heap.size_push]; exact Nat.succ_ne_self _
  generalize hA : (s1.heap.push ob).objs.size = acc at *
  generalize hI : s1.heap.objs.size = I at *
  refine opqG (fun goalP goalH => ?_)
  obtain ⟨hs4, k4⟩ := hs3.push (ob := { cls := .type "dict", data := .dict #[] }) (tk := s1.toks)
  all_goals first | (refine goalH ?_; clear goalH goalP) | skip
  have gD := hs3.gfresh
  have LD := hs3.Lne
  have gc := hs4.gfresh
  have Lc := hs4.Lne
  have lowc := hs4.low
  have hDa : ((s1.heap.push ob).push { cls := .type "list", dict := none, data := .seq ([] : List Value).toArray }).objs.size = acc + 1 := by rw [Heap.size_push, hA]
  refine newEnv_cell1 hcf hpc ?_
  dsimp only at gD LD gc Lc lowc ⊢
  have hca : (((s1.heap.push ob).push { cls := .type "list", dict := none, data := .seq ([] : List Value).toArray }).push { cls := .type "dict", data := .dict #[] }).objs.size = acc + 1 + 1 := by rw [Heap.size_push, hDa]
  rw [hca] at gc Lc lowc
  rw [hDa] at gD LD ⊢
  refine opqG (fun goalP goalH => ?_)
  obtain ⟨D, hD⟩ : ∃ D, D = acc + 1 := ⟨_, rfl⟩
  all_goals first | (refine goalH ?_; clear goalH goalP) | skip
  rw [← hD] at gD LD gc Lc lowc hDa hca ⊢
  refine opqG (fun goalP goalH => ?_)
  obtain ⟨c, hcD⟩ : ∃ c, c = D + 1 := ⟨_, rfl⟩
  all_goals first | (refine goalH ?_; clear goalH goalP) | skip
  rw [← hcD] at gc Lc lowc hca ⊢
  have untr : ∀ {m H} {s : Shared} {i}, St C m H s → St' i s.heap → H I = none := fun hs st => by
    obtain ⟨o, e, vs, hd, hc⟩ := it.there _ _ st; exact hs.notIter e hd hc
  have hIacc : acc = I + 1 := by rw [← hA, Heap.size_push, hI]
  generalize hh1 : (((s1.heap.push ob).push { cls := .type "list", dict := none, data := .seq ([] : List Value).toArray }).push { cls := .type "dict", data := .dict #[] }).push { cls := .type "cell", data := .cell none } = h₁ at *
  have hacc0 : h₁.PlainList acc #[] := by
    refine ⟨0, ?_⟩
    rw [← hh1]
    refine Heap.get?_push_of_some _ (Heap.get?_push_of_some _ ?_)
    have := Heap.get?_push_size (s1.heap.push ob) (o := { cls := .type "list", data := .seq #[] }) rfl
    rw [hA] at this; exact this
  have hD0 : h₁.get? D = some { cls := .type "dict", data := .dict #[] } := by
    rw [← hh1]
    refine Heap.get?_push_of_some _ ?_
    have := Heap.get?_push_size ((s1.heap.push ob).push { cls := .type "list", dict := none, data := .seq ([] : List Value).toArray }) (o := { cls := .type "dict", data := .dict #[] }) rfl
    rw [hDa] at this; exact this
  have hc0 : h₁.get? c = some { cls := .type "cell", data := .cell none } := by
    rw [← hh1]
    have := Heap.get?_push_size (((s1.heap.push ob).push { cls := .type "list", dict := none, data := .seq ([] : List Value).toArray }).push { cls := .type "dict", data := .dict #[] }) (o := { cls := .type "cell", data := .cell none }) rfl
    rw [hca] at this; exact this
  have hns₁ : h₁.Ns D (fun _ => none) := by
    have := Heap.Ns.new ((s1.heap.push ob).push { cls := .type "list", dict := none, data := .seq ([] : List Value).toArray }) (.type "dict")
    rw [hDa] at this
    refine opqG (fun goalP goalH => ?_)
    obtain ⟨o, es, ep, e, r⟩ := this
    all_goals first | (refine goalH ?_; clear goalH goalP) | skip
    refine ⟨o, es, ep, ?_, r⟩
    rw [← hh1]; exact Heap.get?_push_of_some _ e
  have hk1 : ∀ b o, s1.heap.get? b = some o → h₁.get? b = some o := fun b o e => by
    rw [← hh1]; exact Heap.get?_push_of_some _ (Heap.get?_push_of_some _ (Heap.get?_push_of_some _ (Heap.get?_push_of_some _ e)))
  have hlt1 : ∀ (b : Nat) o, s1.heap.get? b = some o → @LT.lt Nat _ b I := fun b o e => hI ▸ Heap.lt_size e
  have hnone : ∀ b : Addr, I ≤ b → H1 b = none := fun b hb => by
    cases q : H1 b with
    | none => rfl
    | some z => have := hs1.lt (t := z.1) (o := z.2) q; rw [hI] at this; exact absurd (Nat.lt_of_lt_of_le this hb) (Nat.lt_irrefl _)
  have hHc1 : H1 c = none := hnone c (leA (by (clear hz st0 hA LA hI LI AI hDa LD hca lowc Lc; lia)))
  have hst4 : St C m (H1.set c (.cell, .cell none)) { s1 with heap := h₁ } :=
    (hs1.keeps (tk := s1.toks) hk1).1.track hc0 ⟨none, rfl, rfl⟩ Lc gc lowc
  have hkp4 : Kp C H1 (H1.set c (.cell, .cell none)) s1.heap h₁ := fun b o e n l => by
    have hb := hlt1 b o e
    exact ⟨hk1 b o e, by rw [AH.set_ne (neA (by (clear hz st0 hA LA hI LI AI hDa LD hca lowc Lc; lia)))]; exact n⟩
  have hit4 : St' 0 h₁ := it.frame _ _ _ st0 fun o e => by
    rw [← hh1]; exact Heap.get?_push_of_some _ (Heap.get?_push_of_some _ (Heap.get?_push_of_some _ e))
  have loop : codeAny (model PG C.w) C.A (.compLoop (.ListComp elt [⟨.Name x xp, iter, ifs, 0⟩] scope pos) 0 (.ref I) (.ref acc) (compEnvC scope ((x, c) :: cl) D env)) (compPost (model PG C.w) C.A E (some (assign (.Name y yp) env)) (fun _ s' => Q .next s') (.ref acc) D) { s1 with heap := h₁ } := by
    refine codeAny_compLoop_tests (fun k s' => ∃ i out H' ys mm, k = items.length + 1 - i ∧ i ≤ items.length ∧ St C m H' s' ∧ J c i out H' ∧ St' i s'.heap ∧ Kp C H1 H' s1.heap s'.heap ∧ s'.heap.PlainList acc ys ∧ ys.toList.map er = out ∧ out.length ≤ i ∧
        s'.heap.Ns D mm ∧ H' acc = none ∧ H' D = none) ?_ (items.length + 1)
      ⟨0, [], H1.set c (.cell, .cell none), #[], _, rfl, Nat.zero_le _, hst4, j0 c hHc1, hit4, hkp4, hacc0, rfl, Nat.zero_le _, hns₁, by rw [AH.set_ne (neA (by (clear hz st0 hA LA hI LI AI hDa LD hca lowc Lc hIacc hit4; lia)))]; exact hnone acc (leA (by (clear hz st0 hA LA hI LI AI hDa LD hca lowc Lc hit4; lia))), by rw [AH.set_ne (neA (by (clear hz st0 hA LA hI LI AI hDa LD hD hca lowc Lc hIacc hit4; lia)))]; exact hnone D (leA (by (clear hz st0 hA LA hI LI AI hDa LD hca lowc Lc hit4; lia)))⟩
    intro k s' goalQ
    refine opqG (fun goalP goalH => ?_)
    obtain ⟨i, out, H', ys, mm, rfl, hi, hs', hJ, st, kp, hacc, hys, hol, hns, hHa, hHd⟩ := goalQ
    all_goals first | (refine goalH ?_; clear goalH goalP) | skip
    have hI' := untr hs' st
    by_cases hlt : i < items.length
    · refine opqG (fun goalP goalH => ?_)
      obtain ⟨a, ha⟩ : ∃ a, items[i]? = some a := ⟨items[i], by simp [hlt]⟩
      all_goals first | (refine goalH ?_; clear goalH goalP) | skip
      refine it.next i m H' s' _ _ hs' (jInv _ _ _ _ hJ) st a ha fun v h' tk ev st' kh => ?_
      have hs3 : St C m H' { s' with heap := h', toks := tk } := hs'.aside hI' LI gI kh
      have hns' : h'.Ns D mm := Ns.aside hns fun o e => kh _ o (neA (by (clear hz st0 hA LA hI LI AI hDa LD hca lowc Lc hit4 hi hJ st hol hlt st'; lia))) e
      refine opqG (fun goalP goalH => ?_)
      obtain ⟨⟨o1, hcc⟩, turn'⟩ := turn c i a ha out H' hJ
      all_goals first | (refine goalH ?_; clear goalH goalP) | skip
      refine opqG (fun goalP goalH => ?_)
      obtain ⟨obc, eoc, ⟨vc, dc, rc⟩, _⟩ := hs3.hr c _ _ hcc
      all_goals first | (refine goalH ?_; clear goalH goalP) | skip
      refine wpAny_assign_Name (wpAny_storeName_cell (env := compEnvC scope ((x, c) :: cl) D env) (by simp [compEnvC, relabel, hkind]) (hkx D c) (by simp [compEnvC]) ⟨obc, eoc, dc⟩ fun h2 hv2 sb2 => ?_)
      refine opqG (fun goalP goalH => ?_)
      obtain ⟨ob2, eo2, dc2⟩ := hv2
      all_goals first | (refine goalH ?_; clear goalH goalP) | skip
      refine opqG (fun goalP goalH => ?_)
      obtain ⟨hs4, k4c⟩ := hs3.sameBut (t' := .cell) (tk := tk) hcc sb2 eo2 (o' := .cell (some (er v))) ⟨some v, dc2, rfl⟩
      all_goals first | (refine goalH ?_; clear goalH goalP) | skip
      rw [ev] at hs4 k4c
      replace sb2 : Heap.SameBut c h' h2 := sb2
      refine opqG (fun goalP goalH => ?_)
      obtain ⟨na, ea⟩ : h2.PlainList acc ys := by
        obtain ⟨n, e⟩ := hacc
        exact ⟨n, (sb2.2 acc (neA (by (clear hz st0 hA LA hI LI AI hDa LD hca lowc Lc hIacc hit4 hi hJ st hol hlt st'; lia)))).trans (kh _ _ AI e)⟩
      all_goals first | (refine goalH ?_; clear goalH goalP) | skip
      have st2 : St' (i + 1) h2 := it.frame _ _ _ st' fun o e => (sb2.2 I (neA (by (clear hz st0 hA LA hI LI AI hDa LD hca lowc Lc hit4 hi hJ st hol hlt st'; lia)))).trans e
      have hn2 : h2.Ns D mm := hns'.sameBut sb2 (neA (by (clear hz st0 hA LA hI LI AI hDa LD hD hca lowc Lc hIacc hit4 hi hJ st hol hlt st' st2; lia)))
      have hHd2 : (H'.set c (.cell, .cell (some a))) D = none := by rw [AH.set_ne (neA (by (clear hz st0 hA LA hI LI AI hDa LD hD hca lowc Lc hIacc hit4 hi hJ st hol hlt st' st2; lia)))]; exact hHd
      have hHa2 : (H'.set c (.cell, .cell (some a))) acc = none := by rw [AH.set_ne (neA (by (clear hz st0 hA LA hI LI AI hDa LD hca lowc Lc hIacc hit4 hi hJ st hol hlt st' st2; lia)))]; exact hHa
      have hI2 : (H'.set c (.cell, .cell (some a))) I = none := by rw [AH.set_ne (neA (by (clear hz st0 hA LA hI LI AI hDa LD hca lowc Lc hit4 hi hJ st hol hlt st' st2; lia)))]; exact hI'
      have hvm : VM C (compEnvC scope ((x, c) :: cl) D env) (fun _ => none) m (H'.set c (.cell, .cell (some a))) h2 := .inr ⟨LD, hHd2, _, hn2, fun y b e => by cases e⟩
      have kp2 : Kp C H1 (H'.set c (.cell, .cell (some a))) s1.heap h2 := fun b o e n l => by
        refine opqG (fun goalP goalH => ?_)
        obtain ⟨p, q⟩ := kp b o e n l
        all_goals first | (refine goalH ?_; clear goalH goalP) | skip
        have := hlt1 b o e
        exact ⟨(sb2.2 b (neA (by (clear hz st0 hA LA hI LI AI hDa LD hca lowc Lc hit4 hi hJ st hol hlt st' st2; lia)))).trans (kh b o (neA (by (clear hz st0 hA LA hI LI AI hDa LD hca lowc Lc hit4 hi hJ st hol hlt st' st2; lia))) p), by rw [AH.set_ne (neA (by (clear hz st0 hA LA hI LI AI hDa LD hca lowc Lc hit4 hi hJ st hol hlt st' st2; lia)))]; exact q⟩
      refine turn' D LD _ _ _ hs4 hvm fun ok H3 s5 h5 hs5 k5 => ?_
      refine opqG (fun goalP goalH => ?_)
      obtain ⟨oI, eI, vsI, dI, cI⟩ := it.there _ _ st2
      all_goals first | (refine goalH ?_; clear goalH goalP) | skip
      -- what an evaluation behind leaves
      have after : ∀ (H6 : AH) (s6 : Shared), Kp C (H'.set c (.cell, .cell (some a))) H6 h2 s6.heap → s6.heap.get? acc = some { cls := .type "list", data := .seq ys na } ∧ H6 acc = none ∧ H6 D = none ∧ H6 I = none ∧ (∃ mm, s6.heap.Ns D mm) ∧ St' (i + 1) s6.heap := fun H6 s6 k6 => by
        refine opqG (fun goalP goalH => ?_)
        obtain ⟨a1, a2⟩ := k6 acc _ ea hHa2 LA
        all_goals first | (refine goalH ?_; clear goalH goalP) | skip
        refine opqG (fun goalP goalH => ?_)
        obtain ⟨oD, es, ep, eD, rD⟩ := hn2
        all_goals first | (refine goalH ?_; clear goalH goalP) | skip
        refine opqG (fun goalP goalH => ?_)
        obtain ⟨b1, b2⟩ := k6 D _ eD hHd2 LD
        all_goals first | (refine goalH ?_; clear goalH goalP) | skip
        refine opqG (fun goalP goalH => ?_)
        obtain ⟨c1, c2⟩ := k6 I _ eI hI2 LI
        all_goals first | (refine goalH ?_; clear goalH goalP) | skip
        exact ⟨a1, a2, b2, c2, ⟨_, oD, es, ep, b1, rD⟩, it.frame _ _ _ st2 fun o e => by rw [eI] at e; cases e; exact c1⟩
      cases ok with
      | true =>
        simp only [if_true] at h5 ⊢
        refine h5 s5 _ _ hs5 (hvm.step k5) fun r H4 s6 h6 hs6 k6 => ?_
        refine opqG (fun goalP goalH => ?_)
        obtain ⟨a1, a2, a3, a4, ⟨mm6, a5⟩, a6⟩ := after H4 s6 (k5.trans k6)
        all_goals first | (refine goalH ?_; clear goalH goalP) | skip
        have hlen : ys.size ≤ sizeLine := by
          have e1 : ys.toList.length = out.length := by rw [← hys, List.length_map]
          have e2 : ys.size = out.length := by rw [← e1]; simp
          have := sizeLine_big; (clear st0 hA LA hI LI AI hDa LD hD hca lowc Lc hcD hIacc hit4 hi hJ st st' st2 cI h6 a6; lia)
        refine wpAny_list_append_plain ⟨na, a1⟩ (fun h7 hacc7 sb7 => ?_) hlen
        have hs7 : St C m H4 { s6 with heap := h7 } := hs6.aside (I := acc) (tk := s6.toks) a2 LA gA fun b o hb e => (sb7.2 b hb).trans e
        have kp7 := kp2.trans (k5.trans k6)
        refine ⟨items.length + 1 - (i + 1), by (clear hz st0 hA LA hI LI AI hDa LD hD hca lowc Lc hcD hIacc hit4 hi hJ st hol st' st2 cI h6 a6 hlen; omega), i + 1, out ++ [er r], H4, ys.push r, mm6, rfl, hlt, hs7, h6, ?_, fun b o e n l => ?_, hacc7, by simp [hys], by simp; (clear hz st0 hA LA hI LI AI hDa LD hD hca lowc Lc hcD hIacc hit4 hi hJ st hlt st' st2 cI h6 a6 hlen; omega), a5.sameBut sb7 (neA (by (clear hz st0 hA LA hI LI AI hDa LD hca lowc Lc hcD hIacc hit4 hi hJ st hol hlt st' st2 cI h6 a6 hlen; lia))), a2, a3⟩
        · exact it.frame _ _ _ a6 fun o e => (sb7.2 I (neA (by (clear hz st0 hA LA hI LI AI hDa LD hca lowc Lc hit4 hi hJ st hol hlt st' st2 cI h6 a6 hlen; lia)))).trans e
        · refine opqG (fun goalP goalH => ?_)
          obtain ⟨p, q⟩ := kp7 b o e n l
          all_goals first | (refine goalH ?_; clear goalH goalP) | skip
          have := hlt1 b o e
          exact ⟨(sb7.2 b (neA (by (clear hz st0 hA LA hI LI AI hDa LD hca lowc Lc hit4 hi hJ st hol hlt st' st2 cI h6 a6 hlen; lia)))).trans p, q⟩
      | false =>
        simp only [Bool.false_eq_true, if_false] at h5 ⊢
        refine opqG (fun goalP goalH => ?_)
        obtain ⟨a1, a2, a3, a4, ⟨mm6, a5⟩, a6⟩ := after H3 s5 k5
        all_goals first | (refine goalH ?_; clear goalH goalP) | skip
        exact ⟨items.length + 1 - (i + 1), by (clear hz st0 hA LA hI LI AI hDa LD hD hca lowc Lc hcD hIacc hit4 hi hJ st hol st' st2 cI h5 a6; omega), i + 1, out, H3, ys, mm6, rfl, hlt, hs5, h5, a6, kp2.trans k5, ⟨na, a1⟩, hys, by (clear hz st0 hA LA hI LI AI hDa LD hD hca lowc Lc hcD hIacc hit4 hi hJ st hlt st' st2 cI h5 a6; lia), a5, a2, a3⟩
    · have hin : i = items.length := by (clear hz st0 hA LA hI LI AI hDa LD hD hca lowc Lc hcD hIacc hit4 hJ st hol; lia)
      subst hin
      refine it.done m H' s' _ _ hs' (jInv _ _ _ _ hJ) st fun h' tk kh => ?_
      have hs3 : St C m H' { s' with heap := h', toks := tk } := hs'.aside hI' LI gI kh
      have hns3 : h'.Ns D mm := Ns.aside hns fun o e => kh _ o (neA (by (clear hz st0 hA LA hI LI AI hDa LD hca lowc Lc hit4 hi hJ st hol hlt; lia))) e
      refine opqG (fun goalP goalH => ?_)
      obtain ⟨na, ea⟩ := hacc
      all_goals first | (refine goalH ?_; clear goalH goalP) | skip
      have e8 : h'.get? acc = some { cls := .type "list", data := .seq ys na } := kh _ _ AI ea
      -- the list is tracked from here on
      have hs9 : St C m (H'.set acc (.tmp, .list out)) { s' with heap := h', toks := tk } := ⟨hs3.fr, fun b u p hb => by
        by_cases q : b = acc
        · subst q
          rw [AH.set_self] at hb; cases hb
          exact ⟨_, e8, ⟨ys.toList, na, by simp, hys⟩, LA, gA, by have := hs1.low; rw [hI] at this; exact Nat.lt_trans this (show @LT.lt Nat _ I _ by (clear hz st0 hI LI hDa LD hca lowc Lc hcD hit4 hi hJ st hol hlt hA LA AI hD this; lia))⟩
        · rw [AH.set_ne q] at hb
          exact hs3.hr b u p hb, hs3.sr⟩
      have kp9 : Kp C H1 (H'.set acc (.tmp, .list out)) s1.heap h' := fun b o e n l => by
        refine opqG (fun goalP goalH => ?_)
        obtain ⟨p, q⟩ := kp b o e n l
        all_goals first | (refine goalH ?_; clear goalH goalP) | skip
        have := hlt1 b o e
        exact ⟨kh b o (neA (by (clear hz st0 hA LA hI LI AI hDa LD hca lowc Lc hit4 hi hJ st hol hlt; lia))) p, by rw [AH.set_ne (neA (by (clear hz st0 hA LA hI LI AI hDa LD hca lowc Lc hit4 hi hJ st hol hlt; lia)))]; exact q⟩
      have hD9 : (H'.set acc (.tmp, .list out)) D = none := by rw [AH.set_ne (neA (by (clear hz st0 hA LA hI LI AI hDa LD hca lowc Lc hcD hIacc hit4 hi hJ st hol hlt; lia)))]; exact hHd
      refine wpAny_assign_Name (fin c out H' hJ acc hHa hl (.ref acc) _ _ _ rfl hs9 fun m4 H4 s4 h4 hs4 k4 => ?_)
      refine opqG (fun goalP goalH => ?_)
      obtain ⟨oD, es, ep, eD, rD⟩ := hns3
      all_goals first | (refine goalH ?_; clear goalH goalP) | skip
      refine opqG (fun goalP goalH => ?_)
      obtain ⟨c1, c2⟩ := k4 D _ eD hD9 LD
      all_goals first | (refine goalH ?_; clear goalH goalP) | skip
      refine ⟨mm, ⟨oD, es, ep, c1, rD⟩, fun h8 sb8 => ?_⟩
      have hs8 : St C m4 H4 { s4 with heap := h8 } := hs4.aside (I := D) (tk := s4.toks) c2 LD gD fun b o hb e => (sb8.2 b hb).trans e
      refine hq .next m4 H4 _ h4 hs8 (k1.trans fun b o e n l => ?_)
      refine opqG (fun goalP goalH => ?_)
      obtain ⟨p, q⟩ := (kp9.trans k4) b o e n l
      all_goals first | (refine goalH ?_; clear goalH goalP) | skip
      have := hlt1 b o e
      exact ⟨(sb8.2 b (neA (by (clear hz st0 hA LA hI LI AI hDa LD hca lowc Lc hit4 hi hJ st hol hlt h4 rD; lia)))).trans p, q⟩
  exact codeAny_compStart_list loop (it.self 0 _ _ _ hit4 loop)
end
--T P10
section
open PySem.Spec
noncomputable def RowsOk (rs : List (List Int)) : Prop := ∀ r ∈ rs, r.length ≤ 6 ∧ ∀ x ∈ r, 1 ≤ ab x ∧ ab x ≤ 4
noncomputable def SatA (M : Int → Bool) (rs : List (List Int)) : Prop := ∀ r ∈ rs, Sat M r
/-- lists of ints, one by one -/
noncomputable def Rws (H : AH) (vs : List AV) (rs : List (List Int)) : Prop := vs.length = rs.length ∧ ∀ (i : Nat) v r, vs[i]? = some v → rs[i]? = some r → ∃ a, v = .ref a ∧ H a = some (.tmp, intsO r)
theorem Rws.nil {H} : Rws H [] [] := ⟨rfl, fun i v r e => by simp at e⟩
theorem Rws.snoc {H vs rs v r} (h : Rws H vs rs) (k : ∃ a, v = .ref a ∧ H a = some (.tmp, intsO r)) : Rws H (vs ++ [v]) (rs ++ [r]) := ⟨by simp [h.1], fun i b p e q => by
  by_cases hi : i < vs.length
  · rw [List.getElem?_append_left hi] at e
    rw [List.getElem?_append_left (by rw [← h.1]; exact hi)] at q
    exact h.2 i b p e q
  · have hl := (List.getElem?_eq_some_iff.mp e).1
    rw [List.length_append, List.length_singleton] at hl
    have : i = vs.length := by lia
    subst this
    have e1 : b = v := by simpa using e.symm
    have e2 : p = r := by rw [h.1] at q; simpa using q.symm
    rw [e1, e2]; exact k⟩
theorem Rws.fr {H H' : AH} {vs rs} (h : Rws H vs rs) (f : Fr0 H H') : Rws H' vs rs := ⟨h.1, fun i v r e q => by
  obtain ⟨a, h1, h2⟩ := h.2 i v r e q; exact ⟨a, h1, f _ _ _ h2 rfl⟩⟩
theorem Rws.of {H H' : AH} {vs rs} (h : Rws H vs rs) (f : ∀ a r, H a = some (.tmp, intsO r) → H' a = some (.tmp, intsO r)) : Rws H' vs rs := ⟨h.1, fun i v r e q => by
  obtain ⟨a, h1, h2⟩ := h.2 i v r e q; exact ⟨a, h1, f _ _ h2⟩⟩
theorem Rws.cls {H vs rs} (h : Rws H vs rs) : Cls H vs rs := ⟨h.1, fun i v r e q => by
  obtain ⟨a, h1, h2⟩ := h.2 i v r e q; exact ⟨a, _, _, h1, h2, rfl, .inl rfl⟩⟩
theorem Rws.rev {H vs rs} (h : Rws H vs rs) : Rws H vs.reverse rs.reverse := ⟨by simp [h.1], fun i v r e q => by
  have hi : i < vs.length := by have := (List.getElem?_eq_some_iff.mp e).1; simpa using this
  rw [List.getElem?_reverse hi] at e
  rw [List.getElem?_reverse (by rw [← h.1]; exact hi), ← h.1] at q
  exact h.2 _ v r e q⟩
theorem Rws.pds {H n} : ∀ {vs rs}, Rws H vs rs → PDs H (n + 1) vs (rs.map fun r => PyData.list (r.map .int))
  | [], [], _ => .nil
  | v :: vs, r :: rs, h => .cons (by obtain ⟨a, e1, e2⟩ := h.2 0 v r rfl rfl; rw [e1]; exact PD.ilist e2) (Rws.pds ⟨by simpa using h.1, fun i b p e q => h.2 (i + 1) b p e q⟩)
  | [], _ :: _, h => by cases h.1
  | _ :: _, [], h => by cases h.1
theorem eqv_rws (rs : List (List Int)) : PyData.eqv (.list (rs.map fun r => PyData.list (r.map .int))) (.list []) = rs.isEmpty := by cases rs <;> rfl
noncomputable def allH (w : Nat) (rs : List (List Int)) : Bool := rs.all (holds w)
noncomputable def ableL (rs : List (List Int)) : List Nat := (List.range 16).filter fun w => allH w rs
theorem filter_all {w : Nat} (rs : List (List Int)) : (rs.filter fun r => !holds w r).isEmpty = allH w rs := by
  unfold allH
  rw [Bool.eq_iff_iff, List.isEmpty_iff, List.filter_eq_nil_iff, List.all_eq_true]
  exact ⟨fun h r hr => by have := h r hr; simpa using this, fun h r hr => by rw [h r hr]; simp⟩
theorem allH_iff {w rs} : allH w rs = true ↔ SatA (Mw w) rs := by
  unfold allH SatA; rw [List.all_eq_true]
  exact ⟨fun h r hr => holds_iff.mp (h r hr), fun h r hr => holds_iff.mpr (h r hr)⟩
theorem able_nil {ls rs : List (List Int)} (he : Ent ls []) (heq : ∀ M, SatA M rs → SatA M ls) : ableL rs = [] := by
  unfold ableL
  rw [List.filter_eq_nil_iff]
  intro w hw q
  obtain ⟨l, hl, _⟩ := he (Mw w) (heq _ (allH_iff.mp q))
  cases hl
theorem able_mem {ls rs : List (List Int)} {M : Int → Bool} (hr : RowsOk rs) (hM : ∀ g ∈ ls, Sat M g) (heq : SatA M ls → SatA M rs) : wof M ∈ ableL rs := by
  unfold ableL
  refine List.mem_filter.mpr ⟨List.mem_range.mpr (wof_lt M), allH_iff.mpr fun r hr' => ?_⟩
  exact (sat_congr (hr r hr').2 (fun v h1 h4 => Mw_wof M h1 h4)).mpr (heq hM r hr')
/-- what ordered told of each -/
noncomputable def Tld (rs : List (List Int)) (os : List (Option (List Int))) : Prop := os.length = rs.length ∧ ∀ (i : Nat) r o, rs[i]? = some r → os[i]? = some o → OrdR r o
noncomputable def somes (os : List (Option (List Int))) : List (List Int) := os.filterMap id
theorem mem_somes {os : List (Option (List Int))} {l} : l ∈ somes os ↔ some l ∈ os := by
  unfold somes; rw [List.mem_filterMap]
  exact ⟨fun ⟨a, h, e⟩ => by rw [show a = some l from e] at h; exact h, fun h => ⟨_, h, rfl⟩⟩
theorem tld_sat {rs os M} (h : Tld rs os) (hr : RowsOk rs) : SatA M rs ↔ SatA M (somes os) := by
  constructor
  · intro hs l hl
    obtain ⟨i, hi⟩ := List.getElem?_of_mem (mem_somes.mp hl)
    have hlt : i < rs.length := by rw [← h.1]; exact (List.getElem?_eq_some_iff.mp hi).1
    have e := List.getElem?_eq_getElem hlt
    have ho := h.2 i _ _ e hi
    obtain ⟨x, hx, hv⟩ := hs _ (List.mem_of_getElem? e)
    exact ⟨x, (ho.2.1 x).mpr hx, hv⟩
  · intro hs r hr'
    obtain ⟨i, hi⟩ := List.getElem?_of_mem hr'
    have hlt : i < os.length := by rw [h.1]; exact (List.getElem?_eq_some_iff.mp hi).1
    have e := List.getElem?_eq_getElem hlt
    have ho := h.2 i _ _ hi e
    cases q : os[i] with
    | none =>
      rw [q] at ho
      obtain ⟨x, h1, h2⟩ := ho
      have hz := ab_zero ((hr r hr').2 x h1).1
      cases t : lit M x with
      | true => exact ⟨x, h1, t⟩
      | false => exact ⟨-x, h2, by rw [lit_neg hz, t]; rfl⟩
    | some l =>
      rw [q] at ho e
      obtain ⟨x, hx, hv⟩ := hs l (mem_somes.mpr (List.mem_of_getElem? e))
      exact ⟨x, (ho.2.1 x).mp hx, hv⟩
theorem tld_ok {rs os} (h : Tld rs os) (hr : RowsOk rs) : ∀ l ∈ somes os, l.length < 60 ∧ ∀ x ∈ l, 1 ≤ ab x ∧ ab x ≤ 4 := fun l hl => by
  obtain ⟨i, hi⟩ := List.getElem?_of_mem (mem_somes.mp hl)
  have hlt : i < rs.length := by rw [← h.1]; exact (List.getElem?_eq_some_iff.mp hi).1
  have e := List.getElem?_eq_getElem hlt
  have ho := h.2 i _ _ e hi
  have hx : ∀ x ∈ l, 1 ≤ ab x ∧ ab x ≤ 4 := fun x q => (hr _ (List.mem_of_getElem? e)).2 x ((ho.2.1 x).mp q)
  have := row_len hx (List.pairwise_map.mpr (ho.2.2.imp fun q => Int.ne_of_lt q))
  exact ⟨by lia, hx⟩
noncomputable def pows (M : Int → Bool) (i : Nat) : List Int := ((List.range i).filter fun (k : Nat) => M (1 + (k : Int))).map fun (k : Nat) => (2 : Int) ^ k
theorem pows_sum (M : Int → Bool) : (pows M 4).sum = (wof M : Nat) := by
  unfold pows wof
  have h : List.range 4 = [0, 1, 2, 3] := rfl
  rw [h]
  simp only [List.filter_cons, List.filter_nil]
  have e0 : M (1 + ((0 : Nat) : Int)) = M 1 := rfl
  have e1 : M (1 + ((1 : Nat) : Int)) = M 2 := rfl
  have e2 : M (1 + ((2 : Nat) : Int)) = M 3 := rfl
  have e3 : M (1 + ((3 : Nat) : Int)) = M 4 := rfl
  rw [e0, e1, e2, e3]
  cases M 1 <;> cases M 2 <;> cases M 3 <;> cases M 4 <;> rfl
theorem pows_succ (M : Int → Bool) (i : Nat) : pows M (i + 1) = pows M i ++ (if M (1 + (i : Int)) = true then [(2 : Int) ^ i] else []) := by
  unfold pows
  rw [List.range_succ, List.filter_append, List.map_append]
  cases h : M (1 + (i : Int)) <;> simp [h]
end
--T Fw26
noncomputable def AH0 : AH := fun _ => none
/-- the law's own frame -/
theorem law_start {w : World} {s₁ : Shared} {h₁ : Heap} {tk : Nat} {env : Env} {m₁ mg mb : Str → Option Value} {p : Program} {loose : List Str} {mean : ExcName → Option Value} {sc : Addr} {o1 o2 o3 : Obj} {body : List Stmt} {Q : Flow → Shared → Prop} {E : Value → Shared → Prop}
    (X : (KK w).In s₁.heap) (T : Top p loose mean mg mb s₁.heap) (F : Fr s₁.heap s₁.heap.objs.size h₁ m₁)
    (N : News s₁.heap s₁.heap.objs.size h₁ [(s₁.heap.objs.size + 1 + 1 + 1, o3), (s₁.heap.objs.size + 1 + 1, o2), (s₁.heap.objs.size + 1, o1)])
    (d1 : o1.data = .cell none) (d2 : o2.data = .cell none) (d3 : o3.data = .cell none) (hsc : m₁ (PySem.Str.ofString "script") = some (.ref sc))
    (hf : env.frame = some s₁.heap.objs.size) (hl : env.locals = s₁.heap.objs.size) (hk : env.scope.kind = .function)
    (h : ∀ C : Ctx, C.w = w → 30 ≤ C.room → C.L = s₁.heap.objs.size → C.g = s₁.heap → ∀ H : AH, H (C.L + 1) = some (.cell, .cell none) → H (C.L + 1 + 1) = some (.cell, .cell none) → H (C.L + 1 + 1 + 1) = some (.cell, .cell none) →
      EX C env (fun x => if x = PySem.Str.ofString "script" then some (.ref sc) else none) H (execs body env) (fnPost fun v _ => v = .bool true))
    (hq : ∀ f s', (match f with | .ret v => v | _ => .none) = Value.bool true → (∀ b o, s₁.heap.get? b = some o → s'.heap.get? b = some o) → s'.os = s₁.os → s'.gens = s₁.gens → Q f s') :
    wpAny (model PG w) (callerA.deeper env) (execs body env) Q E { s₁ with heap := h₁, toks := tk } := by
  have low : sysModules < s₁.heap.objs.size := PyProof.Rows.modules_low T.nolimit
  let C : Ctx := { w := w, A := callerA.deeper env, A₀ := callerA, base := s₁.heap, outer := [], g := s₁.heap, L := s₁.heap.objs.size, fenv := env, s₀ := s₁, mg := mg, mb := mb, p := p, loose := loose, mean := mean, room := 30, B := below_caller s₁.heap, X := X, T := T, hA := Around.frames_deeper rfl, hf := hf, hke := hk, hd := (by show callerA.depth + 1 + 30 < recursionLimit; decide), hu := (by show callerA.units + 3 + 10 * 30 + 100 < cLine; decide), hh := rfl }
  let H : AH := ((AH0.set (s₁.heap.objs.size + 1) (.cell, .cell none)).set (s₁.heap.objs.size + 1 + 1) (.cell, .cell none)).set (s₁.heap.objs.size + 1 + 1 + 1) (.cell, .cell none)
  have n12 : (s₁.heap.objs.size + 1 : Nat) ≠ s₁.heap.objs.size + 1 + 1 := by lia
  have hH1 : H (s₁.heap.objs.size + 1) = some (.cell, .cell none) := by
    show ((AH0.set _ _).set _ _).set _ _ _ = _
    rw [AH.set_ne (neA (by (clear low n12; lia))), AH.set_ne (neA (by omega)), AH.set_self]
  have hH2 : H (s₁.heap.objs.size + 1 + 1) = some (.cell, .cell none) := by
    show ((AH0.set _ _).set _ _).set _ _ _ = _
    rw [AH.set_ne (neA (by (clear low n12; lia))), AH.set_self]
  have hH3 : H (s₁.heap.objs.size + 1 + 1 + 1) = some (.cell, .cell none) := AH.set_self
  have hs : St C (fun x => if x = PySem.Str.ofString "script" then some (.ref sc) else none) H { s₁ with heap := h₁, toks := tk } := by
    refine ⟨⟨m₁, F, fun x a e => ?_⟩, fun a t o e => ?_, ⟨h₁, tk, rfl⟩⟩
    · replace e : (if x = PySem.Str.ofString "script" then some (AV.ref sc) else none) = some a := e
      by_cases q : x = PySem.Str.ofString "script"
      · rw [if_pos q] at e; cases e; rw [q, hsc]; rfl
      · rw [if_neg q] at e; cases e
    · have e' : (((AH0.set (s₁.heap.objs.size + 1) (.cell, .cell none)).set (s₁.heap.objs.size + 1 + 1) (.cell, .cell none)).set (s₁.heap.objs.size + 1 + 1 + 1) (.cell, .cell none)) a = some (t, o) := e
      by_cases q3 : a = s₁.heap.objs.size + 1 + 1 + 1
      · subst q3
        rw [AH.set_self] at e'; cases e'
        have n := N _ (.head _)
        exact ⟨o3, n.1, ⟨none, d3, rfl⟩, n.2.1, n.2.2, Nat.lt_succ_of_lt (Nat.lt_succ_of_lt (Nat.lt_succ_of_lt low))⟩
      · rw [AH.set_ne q3] at e'
        by_cases q2 : a = s₁.heap.objs.size + 1 + 1
        · subst q2
          rw [AH.set_self] at e'; cases e'
          have n := N (_, o2) (.tail _ (.head _))
          exact ⟨o2, n.1, ⟨none, d2, rfl⟩, n.2.1, n.2.2, Nat.lt_succ_of_lt (Nat.lt_succ_of_lt low)⟩
        · rw [AH.set_ne q2] at e'
          by_cases q1 : a = s₁.heap.objs.size + 1
          · subst q1
            rw [AH.set_self] at e'; cases e'
            have n := N (_, o1) (.tail _ (.tail _ (.head _)))
            exact ⟨o1, n.1, ⟨none, d1, rfl⟩, n.2.1, n.2.2, Nat.lt_succ_of_lt low⟩
          · rw [AH.set_ne q1] at e'; cases e'
  refine h C rfl (Nat.le_refl _) rfl rfl H hH1 hH2 hH3 hl _ _ _ hs fun f m' H' s' hp hs' k => ?_
  obtain ⟨mm, F', _⟩ := hs'.fr
  obtain ⟨h', tk', rfl⟩ := hs'.sr
  refine hq f _ ?_ F'.keep rfl rfl
  cases f with
  | next => exact absurd (show AV.none = .bool true from hp) (by intro q; cases q)
  | brk => exact hp.elim
  | cont => exact hp.elim
  | ret v => exact er_bool (show er v = .bool true from hp)
--T S22

theorem post_true (ns : List Int) : PySem.Challenge.rw_rr0092_01.row.claim.post [ofPy (PyData.list (List.map PyData.int ns))] (WData.bool true) [ofPy (PyData.list (List.map PyData.int ns))] = true := by
  refine postW_of (r := PySem.Challenge.rw_rr0092_01.row.toRowW) (X := true) ?_ ?_ rfl
  · rfl
  · exact w_eq_bool (k := true) (l := true) (w_res rfl) w_lit
theorem Dc.cell {H : AH} {d c n l x o} (h : Dc H d c n) (hc : H l = some (.cell, .cell o)) : Dc (H.set l x) d c n := by
  have h2 := h
  obtain ⟨t, tc, ns, a, b, r⟩ := h2
  exact h.set (by rintro rfl; rw [hc] at a; cases a) (by rintro rfl; rw [hc] at b; cases b)
theorem Dc.ne {H : AH} {d c n l t o} (h : Dc H d c n) (hc : H l = some (t, o)) (ho : ∀ kvs, o ≠ .sdict kvs) : l ≠ d := by
  obtain ⟨_, _, _, h1, _⟩ := h
  rintro rfl; rw [hc] at h1; cases h1; exact ho _ rfl
theorem Rws.extB {H H' : AH} {d c n vs rs} (h : Rws H vs rs) (hD : Dc H d c n) (e : ExtB d H H') : Rws H' vs rs := h.of fun a r q => e _ _ (hD.ne q (by intro _ q; cases q)) q
theorem Tld.snoc {rs : List (List Int)} {os o} (h : Tld rs os) {r} (k : OrdR r o) : Tld (rs ++ [r]) (os ++ [o]) := ⟨by simp [h.1], fun i p b e q => by
  by_cases hi : i < rs.length
  · rw [List.getElem?_append_left hi] at e
    rw [List.getElem?_append_left (by rw [h.1]; exact hi)] at q
    exact h.2 i p b e q
  · have hl := (List.getElem?_eq_some_iff.mp e).1
    rw [List.length_append, List.length_singleton] at hl
    have : i = rs.length := by lia
    subst this
    have e1 : p = r := by simpa using e.symm
    have e2 : b = o := by rw [← h.1] at q; simpa using q.symm
    rw [e1, e2]; exact k⟩
theorem Cls.nil {H} : Cls H [] [] := ⟨rfl, fun i v r e => by simp at e⟩
theorem Cls.snoc {H vs rs v r} (h : Cls H vs rs) (k : ∃ a t o, v = .ref a ∧ H a = some (t, o) ∧ t.out = true ∧ (o = .list (r.map .int) ∨ o = .tup (r.map .int))) : Cls H (vs ++ [v]) (rs ++ [r]) := ⟨by simp [h.1], fun i b p e q => by
  by_cases hi : i < vs.length
  · rw [List.getElem?_append_left hi] at e
    rw [List.getElem?_append_left (by rw [← h.1]; exact hi)] at q
    exact h.2 i b p e q
  · have hl := (List.getElem?_eq_some_iff.mp e).1
    rw [List.length_append, List.length_singleton] at hl
    have : i = vs.length := by lia
    subst this
    have e1 : b = v := by simpa using e.symm
    have e2 : p = r := by rw [h.1] at q; simpa using q.symm
    rw [e1, e2]; exact k⟩
/-- none, or a tuple of ints that was told as such -/
noncomputable def OdT (H : AH) (a : AV) (o : Option (List Int)) : Prop := match o with | none => a = .none | some l => ∃ x, a = .ref x ∧ H x = some (.tmp, .tup (l.map .int))
noncomputable def OdTs (H : AH) (vs : List AV) (os : List (Option (List Int))) : Prop := vs.length = os.length ∧ ∀ (i : Nat) a o, vs[i]? = some a → os[i]? = some o → OdT H a o
theorem OdT.ext {H H' : AH} {a o} (h : OdT H a o) (e : Ext H H') : OdT H' a o := by
  cases o with
  | none => exact h
  | some l => obtain ⟨x, r, q⟩ := h; exact ⟨x, r, e _ _ q⟩
theorem OdTs.ext {H H' : AH} {vs os} (h : OdTs H vs os) (e : Ext H H') : OdTs H' vs os := ⟨h.1, fun i a o p q => (h.2 i a o p q).ext e⟩
theorem OdTs.nil {H} : OdTs H [] [] := ⟨rfl, fun i a o e => by simp at e⟩
theorem OdTs.snoc {H vs os a o} (h : OdTs H vs os) (k : OdT H a o) : OdTs H (vs ++ [a]) (os ++ [o]) := ⟨by simp [h.1], fun i b p e q => by
  by_cases hi : i < vs.length
  · rw [List.getElem?_append_left hi] at e
    rw [List.getElem?_append_left (by rw [← h.1]; exact hi)] at q
    exact h.2 i b p e q
  · have hl := (List.getElem?_eq_some_iff.mp e).1
    rw [List.length_append, List.length_singleton] at hl
    have : i = vs.length := by lia
    subst this
    have e1 : b = a := by simpa using e.symm
    have e2 : p = o := by rw [h.1] at q; simpa using q.symm
    rw [e1, e2]; exact k⟩
theorem ordered_odT {H : AH} {a : Addr} {t : Tag} {o : AO} {lits : List Int} (hH : H a = some (t, o)) (ho : o = .list (lits.map .int) ∨ o = .tup (lits.map .int)) (hz : lits.length < 60) (nz : ∀ l ∈ lits, l ≠ 0) (Φ : AV → AH → Prop)
    (h : ∀ H' v o, Ext H H' → OdT H' v o → OrdR lits o → Φ v H') : Spec 1 69 [.ref a] H Φ :=
  ordered_spec hH ho hz nz Φ (fun H' l e h1 h2 => h H' .none none e rfl ⟨l, h1, h2⟩) (fun H' l r e _ h2 h3 h4 => h H' (.ref l) (some r) e ⟨l, rfl, h2⟩ ⟨h3, h4⟩)
noncomputable def oneO : Option (List Int) → List (List Int) | none => [] | some l => [l]
theorem somes_snoc (os : List (Option (List Int))) (o) : somes (os ++ [o]) = somes os ++ oneO o := by
  unfold somes; rw [List.filterMap_append]; cases o <;> rfl
theorem eqv_nil (xs : List Int) : PyData.eqv (.list (xs.map .int)) (.list []) = decide (xs = []) := eqv_ints xs []
/-- what is outside stays, but for one cell -/
noncomputable def FrB (c : Addr) (H H' : AH) : Prop := ∀ b t o, b ≠ c → H b = some (t, o) → t.out = true → H' b = some (t, o)
theorem FrB.refl {c H} : FrB c H H := fun _ _ _ _ e _ => e
theorem FrB.trans {c} {a b d : AH} (h : FrB c a b) (k : FrB c b d) : FrB c a d := fun x t o n e q => k x t o n (h x t o n e q) q
theorem Fr0.b {c} {H H' : AH} (f : Fr0 H H') : FrB c H H' := fun b t o _ e q => f b t o e q
theorem FrB.set {c x} {H : AH} : FrB c H (H.set c x) := fun b t o n e _ => by rw [AH.set_ne n]; exact e
theorem Cls.frB {c o1} {H H' : AH} {vs rs} (h : Cls H vs rs) (f : FrB c H H') (hc : H c = some (.cell, .cell o1)) : Cls H' vs rs := ⟨h.1, fun i v r e q => by
  obtain ⟨a, t, o, h1, h2, h3, h4⟩ := h.2 i v r e q
  refine ⟨a, t, o, h1, f _ _ _ ?_ h2 h3, h3, h4⟩
  rintro rfl
  rw [hc] at h2; cases h2
  rcases h4 with h4 | h4 <;> cases h4⟩
theorem any_ints (xs : List Int) (k : Int) : (xs.map PyData.int).any (fun y => PyData.eqv y (.int k)) = xs.any (· == k) := by
  rw [List.any_map]; rfl
theorem law_holds : PySem.Challenge.rw_rr0092_01.Holds := by
  w_on
  refine holds_law (by kernel_rfl) fun said => ?_
  refine PySem.W.holds_open (r := Challenge.rw_rr0092_01.row) (q := Qv) (loose := []) (Xt := fun s => xlAt Qv [] s && recOk Challenge.rw_rr0092_01.row.records s) (XP := XL Qv []) (Yf := HkN.obs) (Ya := HkN.val) (YP := HkN.says) (N := 3950) leftN HkN.of HkN.keeps (fun s e => xl_of s (Bool.and_eq_true_iff.mp e).1) XL.keeps (by rfl) (by rfl) (by rfl) (fun s e => recFacts_of (Bool.and_eq_true_iff.mp e).2) (by rfl) (by first | assumption | decide +kernel) (by decide +kernel) ⟨rfl, rfl, rfl, rfl, rfl, by decide +kernel⟩ (by w_witness2) ?_
  k_fill
  intro w s₀ s₁ mg mb G Y fa o pm cd doc dV kV ho hd hcd hD hmg hg args vals as hpre hlay hrd hwl hlo
  have KX := kIn_of Y
  refine Ground.open G ?_
  intro T B D TE TW
  try (refine guard_noD D (by decide +kernel) ?_; clear D)
  obtain ⟨_, _, M⟩ := bmod_of_top T
  have TA := at_of_top T
  try (obtain ⟨_, _, he, B0⟩ := based_of_top T rfl hmg ho hd; have he' : cd = _ := he; subst he'; clear he)
  clear hmg
  wrow_args hpre hlay hrd hwl hlo
  refine enter_call ?_
  w_top on
  try refine codeAny_mono ?_ (fun _ _ g => GoodW.toG g)
  have K0 := below_caller (Top.heap T)
  w_call any ho hd hcd hD T F
  clear hd TA
  k_drop
  rename_i ns hsh hlay0 hLa hrA hl2 wa wb sc its wc hLi ra w1 r0 hI hr hc1 hc2 h₁ tk o3 o2 o1 d3 d2 d1 N cs
  refine law_start (sc := sc) (by assumption) (by assumption) F N d1 d2 d3 rfl rfl rfl rfl (fun C hw hroom hL hg H hcd hcr hcs => ?_) (fun f s' e keep hos hgens => ?_)
  · have hgl : C.g.IsList sc its.toArray := by rw [hg]; exact hLi
    have hlen : its.length ≤ 63 := by rw [hI.length]; omega
    have hvs := ints_er hI
    rw [← hL]
    dsimp only
    clear hL hg hw hc1 hI hLi cs N d1 d2 d3 o1 o2 o3 F h₁ tk hD K0 hr r0 w1 ra hl2 hrA hLa hlay0 hsh
    have hd1 : ∀ y : Str, y = PySem.Str.ofString "script" → (fun x => if x = PySem.Str.ofString "script" then some (AV.ref sc) else none : Loc) y = some (.ref sc) := fun y q => if_pos q
    generalize hm : (fun x => if x = PySem.Str.ofString "script" then some (AV.ref sc) else none : Loc) = m at *
    have msc : m (PySem.Str.ofString "script") = some (.ref sc) := hd1 _ rfl
    clear hm hd1
    repeat walk_at "s"
    refine ev_sdict2 (by decide) ?_
    refine ev_comp [] rfl ?_
    refine ev_slice_g (n := 60) hgl hvs (by lia) ?_
    repeat walk_at "s"
    refine ⟨rfl, ?_⟩
    repeat walk_at "s"
    refine ⟨rfl, fun l1 hl1 => ?_⟩
    rw [← List.map_take]
    have e1 := Ext.new (x := (Tag.tmp, AO.list ((ns.take 60).map .int))) hl1
    have q1 : (H.set l1 (Tag.tmp, AO.list ((ns.take 60).map .int))) l1 = some (Tag.tmp, AO.list ((ns.take 60).map .int)) := AH.set_self
    generalize H.set l1 (Tag.tmp, AO.list ((ns.take 60).map .int)) = H1 at *
    refine ⟨_, _, src_list q1, by rw [List.length_map, List.length_take]; (clear hroom hlen; lia), fun i out H' => H' = H1 ∧ ∃ ks : List Int, out = ks.map .int ∧ ks.length = i, ⟨rfl, [], rfl, rfl⟩, fun i out H' q => ⟨_, q.1.symm ▸ q1⟩, fun i u hu out H' ⟨e, ks, eo, hks⟩ D hD => ?_, fun out H' ⟨e, ks, eo, hks⟩ lc hlc => ?_⟩
    · subst e
      obtain ⟨x, hx, rfl⟩ := ints_get hu
      refine tests_nil ?_
      repeat walk_at "s"
      refine cv_int ?_
      repeat walk_at "s"
      refine op_mod (by decide) ?_
      exact ⟨rfl, ks ++ [x.fmod 1000003], by rw [eo, List.map_append]; rfl, by simp [hks]⟩
    subst e eo
    repeat walk_at "s"
    intro d hd
    have ec := Ext.new (x := (Tag.tmp, AO.list (ks.map .int))) hlc
    have qc : (H'.set lc (Tag.tmp, AO.list (ks.map .int))) lc = some (Tag.tmp, AO.list (ks.map .int)) := AH.set_self
    generalize H'.set lc (Tag.tmp, AO.list (ks.map .int)) = H2 at *
    have ed := Ext.new (x := (Tag.tmp, AO.sdict [(PySem.Str.ofString "cells", .ref lc), (PySem.Str.ofString "throws", .int 0)])) hd
    have qd : (H2.set d (Tag.tmp, AO.sdict [(PySem.Str.ofString "cells", .ref lc), (PySem.Str.ofString "throws", .int 0)])) d = some (Tag.tmp, AO.sdict [(PySem.Str.ofString "cells", .ref lc), (PySem.Str.ofString "throws", .int 0)]) := AH.set_self
    have hks60 : ks.length ≤ 60 := by rw [hks, List.length_map, List.length_take]; (clear hroom hlen hks; lia)
    have E := (e1.trans ec).trans ed
    have hD0 : Dc (H2.set d (Tag.tmp, AO.sdict [(PySem.Str.ofString "cells", .ref lc), (PySem.Str.ofString "throws", .int 0)])) d lc 0 := ⟨_, _, ks, qd, ed _ _ qc, rfl, rfl, hks60⟩
    have hcd1 := E _ _ hcd
    have hcr1 := E _ _ hcr
    have hcs1 := E _ _ hcs
    generalize H2.set d (Tag.tmp, AO.sdict [(PySem.Str.ofString "cells", .ref lc), (PySem.Str.ofString "throws", .int 0)]) = H3 at *
    clear e1 q1 hlc ec qc hd ed qd E hcd hcr hcs hl1
    refine sv_cell hcd1 ?_
    have hD4 := hD0.cell (x := (Tag.cell, AO.cell (some (AV.ref d)))) hcd1
    have hcd4 : (H3.set (C.L + 1) (.cell, .cell (some (.ref d)))) (C.L + 1) = some (.cell, .cell (some (.ref d))) := AH.set_self
    have hcr4 : (H3.set (C.L + 1) (.cell, .cell (some (.ref d)))) (C.L + 1 + 1) = some (.cell, .cell none) := by rw [AH.set_ne (neA (by (clear hroom hlen hks hks60; lia)))]; exact hcr1
    have hcs4 : (H3.set (C.L + 1) (.cell, .cell (some (.ref d)))) (C.L + 1 + 1 + 1) = some (.cell, .cell none) := by rw [AH.set_ne (neA (by (clear hroom hlen hks hks60; lia)))]; exact hcs1
    generalize H3.set (C.L + 1) (.cell, .cell (some (.ref d))) = H4 at *
    clear hD0 hcd1 hcr1 hcs1
    have nd : ∀ {H : AH} {l : Addr} {n : Int} {o}, Dc H d lc n → H l = some (.cell, .cell o) → l ≠ d := fun h q => h.ne q (by intro _ q; cases q)
    have n1 := nd hD4 hcd4
    have n2 := nd hD4 hcr4
    have n3 := nd hD4 hcs4
    repeat walk_at "s"
    refine ev_comp [(PySem.Str.ofString "dice", C.L + 1)] rfl ?_
    repeat walk_at "s"
    refine ev_cell hcd4 ?_
    repeat walk_at "s"
    refine pip_spec hD4 (by decide) (by decide) (by decide) (by decide) _ (fun v hv0 hv4 H5 hD5 e5 => ?_) _ _ (by (clear hlen hks hks60; lia))
    repeat walk_at "s"
    refine cv_range1 (fun rg hrg => ?_)
    have eg := Ext.new (x := (Tag.tmp, AO.rng 0 (2 + v))) hrg
    have qg := AH.set_self (H := H5) (a := rg) (x := (Tag.tmp, AO.rng 0 (2 + v)))
    have hD6 := hD5.ext eg
    have hcd6 := eg _ _ (e5 _ _ n1 hcd4)
    have hcr6 := eg _ _ (e5 _ _ n2 hcr4)
    have hcs6 := eg _ _ (e5 _ _ n3 hcs4)
    generalize H5.set rg (Tag.tmp, AO.rng 0 (2 + v)) = H6 at *
    clear hD4 hcd4 hcr4 hcs4 e5 eg hD5 hrg
    have hv : v = 0 ∨ v = 1 ∨ v = 2 ∨ v = 3 := by (clear hroom hlen hks hks60; lia)
    refine ⟨_, _, src_rng qg (by rcases hv with rfl | rfl | rfl | rfl <;> decide), by rw [rng_len]; (clear hroom hlen hks hks60 hv; omega), fun i out H' => ∃ rs n', Rws H' out rs ∧ rs.length = i ∧ RowsOk rs ∧ Dc H' d lc n' ∧ 1 ≤ n' ∧ n' ≤ 1 + 13 * (i : Int) ∧
        H' (C.L + 1) = some (.cell, .cell (some (.ref d))) ∧ H' (C.L + 1 + 1) = some (.cell, .cell none) ∧ H' (C.L + 1 + 1 + 1) = some (.cell, .cell none),
      ⟨[], 1, Rws.nil, rfl, (fun r hr => by cases hr), hD6, by (clear hroom hlen hks hks60 hv0 hv4 hv; lia), by (clear hroom hlen hks hks60 hv0 hv4 hv; lia), hcd6, hcr6, hcs6⟩, fun _ _ _ _ => trivial, fun i u hu out H' ⟨rs, n', hrw, hrl, hrk, hDn, hn1, hn2, q1, q2, q3⟩ D hD => ?_, fun out H' ⟨rs, n', hrw, hrl, hrk, hDn, hn1, hn2, q1, q2, q3⟩ lr hlr => ?_⟩
    · obtain ⟨hi, rfl⟩ := rng_get hu
      refine tests_nil ?_
      repeat walk_at "s"
      refine ev_cell q1 ?_
      repeat walk_at "s"
      refine row_spec hDn (by (clear hroom hlen hks hks60 hv0 hv4 hv hrl hn2 hi; lia)) (by (clear hroom hlen hks hks60 hv hn1; omega)) _ (fun H7 l7 ns7 n7 hl7 hz7 hr7 hD7 hn7 hn7' e7 _ => ?_) _ _ (by (clear hlen hks hks60 hv0 hv4 hv hrl hn1 hn2 hi; lia))
      exact ⟨rs ++ [ns7], n7, (hrw.extB hDn e7).snoc ⟨l7, rfl, hl7⟩, by simp [hrl], fun r hr => (List.mem_append.mp hr).elim (hrk r) (fun q => by rw [List.mem_singleton.mp q]; exact ⟨hz7, hr7⟩), hD7, by (clear hroom hlen hks hks60 hv0 hv4 hv hrl hn2 hi hz7; lia), by push_cast; (clear hroom hlen hks hks60 hv0 hv4 hv hn1 hi hz7; lia), e7 _ _ n1 q1, e7 _ _ n2 q2, e7 _ _ n3 q3⟩
    have hrl5 : rs.length ≤ 5 := by rw [rng_len] at hrl; (clear hroom hlen hks hks60 hv hn1 hn2; omega)
    have el := Ext.new (x := (Tag.tmp, AO.list out)) hlr
    have q5 := AH.set_self (H := H') (a := lr) (x := (Tag.tmp, AO.list out))
    have hrw8 := hrw.fr el.fr
    have hcr8 := el _ _ q2
    have hcs8 := el _ _ q3
    show SV C _ _ (H'.set lr (Tag.tmp, AO.list out)) _ (.ref lr) _
    generalize H'.set lr (Tag.tmp, AO.list out) = H8 at *
    refine sv_cell hcr8 ?_
    have hcr9 : (H8.set (C.L + 1 + 1) (.cell, .cell (some (.ref lr)))) (C.L + 1 + 1) = some (.cell, .cell (some (.ref lr))) := AH.set_self
    have hcs9 : (H8.set (C.L + 1 + 1) (.cell, .cell (some (.ref lr)))) (C.L + 1 + 1 + 1) = some (.cell, .cell none) := by rw [AH.set_ne (neA (by (clear hroom hlen hks hks60 hv0 hv4 hv hrl hn1 hn2 hrl5; lia)))]; exact hcs8
    have hlr9 : (H8.set (C.L + 1 + 1) (.cell, .cell (some (.ref lr)))) lr = some (.tmp, .list out) := AH.set_tag hcr8 q5 (by intro q; cases q)
    have hrw9 : Rws (H8.set (C.L + 1 + 1) (.cell, .cell (some (.ref lr)))) out rs := hrw8.of fun a r q => AH.set_tag hcr8 q (by intro q; cases q)
    generalize H8.set (C.L + 1 + 1) (.cell, .cell (some (.ref lr))) = H9 at *
    clear hrw hrl hDn hn1 hn2 q1 q2 q3 hlr el q5 hrw8 hcr8 hcs8 hD6 hcd6 hcr6 hcs6 qg n1 n2 n3 nd hv hv0 hv4
    have hol : out.length ≤ 5 := by rw [hrw9.1]; exact hrl5
    repeat walk_at "s"
    refine ev_comp [] rfl ?_
    refine ev_cell hcr9 ?_
    refine ⟨_, _, src_list hlr9, by (clear hroom hlen hks hks60 hrl5; lia), fun i o2 H' => Ext H9 H' ∧ o2 = [], ⟨.refl, rfl⟩, fun i o2 H' q => ⟨_, q.1 _ _ hlr9⟩, fun i u hu o2 H' ⟨ex, eo⟩ D hD => ?_, fun o2 H' ⟨ex, eo⟩ l hl => ?_⟩
    · have hi : i < rs.length := by rw [← hrw9.1]; exact (List.getElem?_eq_some_iff.mp hu).1
      obtain ⟨a, rfl, ha⟩ := hrw9.2 i u _ hu (List.getElem?_eq_getElem hi)
      obtain ⟨hz, hx⟩ := hrk _ (List.getElem_mem hi)
      refine tests_one ?_
      repeat walk_at "s"
      refine told_spec (ex _ _ ha) hz hx _ (fun H10 e10 => ?_) _ _ (by (clear hlen hks hks60 hrl5 hol hz; lia))
      repeat walk_at "s"
      refine ite_split (fun q => by cases q) (fun _ => ?_)
      exact ⟨ex.trans e10, eo⟩
    subst eo
    have en := ex.trans (Ext.new (x := (Tag.tmp, AO.list [])) hl)
    have qn := AH.set_self (H := H') (a := l) (x := (Tag.tmp, AO.list []))
    generalize H'.set l (Tag.tmp, AO.list []) = H10 at *
    repeat walk_at "s"
    refine ⟨by simp, fun l2 hl2 => ?_⟩
    have en2 := Ext.new (x := (Tag.tmp, AO.list [])) hl2
    refine op_ned (n := 3) (PD.list (en2 _ _ qn) .nil) (PD.list AH.set_self .nil) (by decide) ?_
    have E11 := en.trans en2
    generalize H10.set l2 (Tag.tmp, AO.list []) = H11 at *
    rw [show (!PyData.eqv (.list []) (.list [])) = false from rfl]
    have hcr11 := E11 _ _ hcr9
    have hcs11 := E11 _ _ hcs9
    have hlr11 := E11 _ _ hlr9
    have hrw11 := hrw9.fr E11.fr
    clear ex hl en qn hl2 en2 E11 hcr9 hcs9 hlr9 hrw9
    repeat walk_at "s"
    refine ex_comp1 [(PySem.Str.ofString "rows", C.L + 1 + 1)] rfl ?_
    repeat walk_at "s"
    refine cv_range1 (fun rg hrg => ?_)
    have eg := Ext.new (x := (Tag.tmp, AO.rng 0 16)) hrg
    have qg := AH.set_self (H := H11) (a := rg) (x := (Tag.tmp, AO.rng 0 16))
    have hcr12 := eg _ _ hcr11
    have hcs12 := eg _ _ hcs11
    have hlr12 := eg _ _ hlr11
    have hrw12 := hrw11.fr eg.fr
    generalize H11.set rg (Tag.tmp, AO.rng 0 16) = H12 at *
    clear hcr11 hcs11 hlr11 hrw11 eg hrg
    refine ⟨_, _, src_rng qg (by decide), by decide, fun c i o2 H' => Ext H12 H' ∧ (∃ o1, H' c = some (.cell, .cell o1)) ∧ H12 c = none ∧ o2 = ((List.range i).filter fun w => allH w rs).map fun (w : Nat) => AV.int w,
      fun c hc => ⟨Ext.new hc, ⟨_, AH.set_self⟩, hc, rfl⟩, fun _ _ _ _ _ => trivial, fun c i u hu o2 H' ⟨ex, hc1, hcn, eo⟩ => ⟨hc1, fun D hD => ?_⟩, fun c o2 H' ⟨ex, hc1, hcn, eo⟩ la hla => ?_⟩
    · obtain ⟨hi, rfl⟩ := rng_get hu
      rw [Int.zero_add]
      have hcw : (H'.set c (.cell, .cell (some (.int (i : Nat))))) c = some (.cell, .cell (some (.int (i : Nat)))) := AH.set_self
      have ex2 : Ext H12 (H'.set c (.cell, .cell (some (.int (i : Nat))))) := ex.upd hcn
      generalize H'.set c (.cell, .cell (some (.int (i : Nat)))) = H13 at *
      refine tests_one ?_
      repeat walk_at "s"
      refine ev_comp [(PySem.Str.ofString "world", c)] rfl ?_
      refine ev_cell (ex2 _ _ hcr12) ?_
      have hlr13 := ex2 _ _ hlr12
      have hrw13 := hrw12.fr ex2.fr
      refine ⟨_, _, src_list hlr13, by (clear hroom hlen hks hks60 hrl5 hc1 hi; lia), fun j o3 H' => Ext H13 H' ∧ Rws H' o3 ((rs.take j).filter fun r => !holds i r), ⟨.refl, Rws.nil⟩, fun j o3 H' q => ⟨_, q.1 _ _ hlr13⟩, fun j u hu o3 H' ⟨ey, ho3⟩ D hD => ?_, fun o3 H' ⟨ey, ho3⟩ l hl => ?_⟩
      · have hj : j < rs.length := by rw [← hrw13.1]; exact (List.getElem?_eq_some_iff.mp hu).1
        obtain ⟨a, rfl, ha⟩ := hrw13.2 j u _ hu (List.getElem?_eq_getElem hj)
        obtain ⟨hz, hx⟩ := hrk _ (List.getElem_mem hj)
        have htk : rs.take (j + 1) = rs.take j ++ [rs[j]] := by rw [List.take_add_one, List.getElem?_eq_getElem hj]; rfl
        refine tests_one ?_
        repeat walk_at "s"
        refine ev_cell (ey _ _ hcw) ?_
        repeat walk_at "s"
        refine holds_spec (w := i) (ey _ _ ha) (.inl rfl) (by (clear hroom hlen hks hks60 hrl5 hol hc1 hi; lia)) hx (by simpa using hi) _ (fun H14 e14 => ?_) _ _ (by (clear hlen hks hks60 hrl5 hol hc1 hi hz; lia))
        have hh := (ho3.fr e14.fr)
        repeat walk_at "s"
        refine ite_split (fun q => ?_) (fun q => ?_)
        · repeat walk_at "s"
          refine ⟨ey.trans e14, ?_⟩
          rw [htk, List.filter_append, List.filter_cons, if_pos q]
          exact hh.snoc ⟨a, rfl, e14 _ _ (ey _ _ ha)⟩
        · refine ⟨ey.trans e14, ?_⟩
          rw [htk, List.filter_append, List.filter_cons, if_neg (by rw [q]; decide), List.filter_nil, List.append_nil]
          exact hh
      rw [hrw13.1, List.take_of_length_le (Nat.le_refl _)] at ho3
      have e15 := Ext.new (x := (Tag.tmp, AO.list o3)) hl
      have pd15 : PD (H'.set l (Tag.tmp, AO.list o3)) 3 (.ref l) _ := PD.list AH.set_self ((ho3.fr e15.fr).pds (n := 1))
      generalize H'.set l (Tag.tmp, AO.list o3) = H15 at *
      repeat walk_at "s"
      refine ⟨by simp, fun l2 hl2 => ?_⟩
      have e16 := Ext.new (x := (Tag.tmp, AO.list [])) hl2
      refine op_eqd (n := 3) (pd15.ext e16) (PD.list AH.set_self .nil) (by decide) ?_
      rw [eqv_rws, filter_all]
      have e36 := (ey.trans e15).trans e16
      generalize H15.set l2 (Tag.tmp, AO.list []) = H16 at *
      repeat walk_at "s"
      refine ite_split (fun q => ?_) (fun q => ?_)
      · refine ev_cell (e36 _ _ hcw) ?_
        refine ⟨ex2.trans e36, ⟨_, e36 _ _ hcw⟩, hcn, ?_⟩
        rw [eo, List.range_succ, List.filter_append, List.filter_cons, if_pos q, List.map_append]; rfl
      · refine ⟨ex2.trans e36, ⟨_, e36 _ _ hcw⟩, hcn, ?_⟩
        rw [eo, List.range_succ, List.filter_append, List.filter_cons, if_neg (by rw [q]; decide), List.filter_nil, List.append_nil]
    subst eo
    have hable : (((List.range (rngItems 0 16).length).filter fun w => allH w rs).map fun (w : Nat) => AV.int w) = (((ableL rs).map fun (w : Nat) => (w : Int)).map AV.int) := by rw [rng_len, List.map_map]; rfl
    rw [hable]
    have en := ex.trans (Ext.new (x := (Tag.tmp, AO.list (((ableL rs).map fun (w : Nat) => (w : Int)).map AV.int))) hla)
    have qa := AH.set_self (H := H') (a := la) (x := (Tag.tmp, AO.list (((ableL rs).map fun (w : Nat) => (w : Int)).map AV.int)))
    generalize H'.set la (Tag.tmp, AO.list (((ableL rs).map fun (w : Nat) => (w : Int)).map AV.int)) = H17 at *
    have hcr17 := en _ _ hcr12
    have hcs17 := en _ _ hcs12
    have hlr17 := en _ _ hlr12
    have hrw17 := hrw12.fr en.fr
    clear ex hc1 hcn hable hla en hcr12 hcs12 hlr12 hrw12 qg
    repeat walk_at "s"
    refine ex_comp [] rfl ?_
    refine ev_cell hcr17 ?_
    refine ⟨_, _, src_list hlr17, by (clear hroom hlen hks hks60 hrl5; lia), fun i o2 H' => Ext H17 H' ∧ ∃ os, OdTs H' o2 os ∧ Tld (rs.take i) os, ⟨.refl, [], OdTs.nil, rfl, fun i r o e => by simp at e⟩, fun i o2 H' q => ⟨_, q.1 _ _ hlr17⟩, fun i u hu o2 H' ⟨ex, os, hos, htl⟩ D hD => ?_, fun o2 H' ⟨ex, os, hos, htl⟩ lt hlt => ?_⟩
    · have hi : i < rs.length := by rw [← hrw17.1]; exact (List.getElem?_eq_some_iff.mp hu).1
      obtain ⟨a, rfl, ha⟩ := hrw17.2 i u _ hu (List.getElem?_eq_getElem hi)
      obtain ⟨hz, hx⟩ := hrk _ (List.getElem_mem hi)
      have htk : rs.take (i + 1) = rs.take i ++ [rs[i]] := by rw [List.take_add_one, List.getElem?_eq_getElem hi]; rfl
      refine tests_nil ?_
      repeat walk_at "s"
      refine ordered_odT (ex _ _ ha) (.inl rfl) (by (clear hroom hlen hks hks60 hrl5 hol; lia)) (fun y hy => ab_zero (hx y hy).1) _ (fun H18 v2 o e18 hod hord => ?_) _ _ (by (clear hlen hks hks60 hrl5 hol hz; lia))
      exact ⟨ex.trans e18, os ++ [o], (hos.ext e18).snoc hod, by rw [htk]; exact htl.snoc hord⟩
    rw [hrw17.1, List.take_of_length_le (Nat.le_refl _)] at htl
    have el := Ext.new (x := (Tag.tmp, AO.list o2)) hlt
    have qt := AH.set_self (H := H') (a := lt) (x := (Tag.tmp, AO.list o2))
    have hos18 := hos.ext el
    have e18 := ex.trans el
    generalize H'.set lt (Tag.tmp, AO.list o2) = H18 at *
    have hcr18 := e18 _ _ hcr17
    have hcs18 := e18 _ _ hcs17
    have hlr18 := e18 _ _ hlr17
    have hrw18 := hrw17.fr e18.fr
    have qa18 := e18 _ _ qa
    have ho2l : o2.length ≤ 5 := by rw [hos18.1, htl.1]; exact hrl5
    clear ex el hos e18 hlt hcr17 hcs17 hlr17 hrw17 qa
    repeat walk_at "s"
    refine ex_forO ?_
    repeat walk_at "s"
    refine ev_cell hcr18 ?_
    repeat walk_at "s"
    refine ev_comp [] rfl ?_
    repeat walk_at "s"
    refine ⟨_, _, src_list qt, by (clear hroom hlen hks hks60 hrl5 hol; lia), fun i o3 H' => H' = H18 ∧ Cls H' o3 (somes (os.take i)), ⟨rfl, Cls.nil⟩, fun i o3 H' q => ⟨_, q.1.symm ▸ qt⟩, fun i u hu o3 H' ⟨ex, hcl⟩ D hD => ?_, fun o3 H' ⟨ex, hcl⟩ l2 hl2 => ?_⟩
    · subst ex
      have hi : i < os.length := by rw [← hos18.1]; exact (List.getElem?_eq_some_iff.mp hu).1
      have hod := hos18.2 i u _ hu (List.getElem?_eq_getElem hi)
      have htk : os.take (i + 1) = os.take i ++ [os[i]] := by rw [List.take_add_one, List.getElem?_eq_getElem hi]; rfl
      have hsn : somes (os.take (i + 1)) = somes (os.take i) ++ oneO os[i] := by rw [htk, somes_snoc]
      refine tests_one ?_
      repeat walk_at "s"
      cases hoi : os[i] with
      | none =>
        rw [hoi] at hod
        have hu0 : u = .none := hod
        subst hu0
        refine op_isnot_none ?_
        repeat walk_at "s"
        refine ite_split (fun q => by cases q) (fun _ => ?_)
        exact ⟨rfl, by rw [hsn, hoi]; show Cls _ _ (_ ++ []); rw [List.append_nil]; exact hcl⟩
      | some lx =>
        rw [hoi] at hod
        obtain ⟨x, rfl, hxx⟩ : ∃ x, u = .ref x ∧ H' x = some (.tmp, .tup (lx.map .int)) := hod
        refine op_isnot_none ?_
        repeat walk_at "s"
        refine ite_split (fun _ => ?_) (fun q => by cases q)
        repeat walk_at "s"
        exact ⟨rfl, by rw [hsn, hoi]; exact hcl.snoc ⟨x, _, _, rfl, hxx, rfl, .inr rfl⟩⟩
    subst ex
    rw [hos18.1, List.take_of_length_le (Nat.le_refl _)] at hcl
    have e19 := Ext.new (x := (Tag.tmp, AO.list o3)) hl2
    have q19 := AH.set_self (H := H') (a := l2) (x := (Tag.tmp, AO.list o3))
    generalize H'.set l2 (Tag.tmp, AO.list o3) = H19 at *
    repeat walk_at "s"
    refine ev_cell (e19 _ _ hcr18) ?_
    repeat walk_at "s"
    refine ⟨rfl, _, _, _, rfl, e19 _ _ hlr18, by (clear hroom hlen hks hks60 hrl5 ho2l; lia), fun l3 hl3 => ?_⟩
    have e20 := Ext.new (x := (Tag.tmp, AO.list out.reverse)) hl3
    have q20 := AH.set_self (H := H19) (a := l3) (x := (Tag.tmp, AO.list out.reverse))
    generalize H19.set l3 (Tag.tmp, AO.list out.reverse) = H20 at *
    repeat walk_at "s"
    refine ⟨by simp, fun lg hlg => ?_⟩
    have eg := Ext.new (x := (Tag.tmp, AO.tup [AV.ref lr, AV.ref l2, AV.ref l3])) hlg
    have qg := AH.set_self (H := H20) (a := lg) (x := (Tag.tmp, AO.tup [AV.ref lr, AV.ref l2, AV.ref l3]))
    have givens : ∀ (i : Nat) u, [AV.ref lr, AV.ref l2, AV.ref l3][i]? = some u → ∃ lx vs ls, u = .ref lx ∧ (H20.set lg (Tag.tmp, AO.tup [AV.ref lr, AV.ref l2, AV.ref l3])) lx = some (.tmp, .list vs) ∧ Cls (H20.set lg (Tag.tmp, AO.tup [AV.ref lr, AV.ref l2, AV.ref l3])) vs ls ∧ ls.length ≤ 100 ∧
        (∀ l ∈ ls, l.length < 60 ∧ ∀ x ∈ l, 1 ≤ ab x ∧ ab x ≤ 4) ∧ ∀ M, SatA M rs ↔ SatA M ls := fun i u hu => by
      match i, hu with
      | 0, hu => cases hu; exact ⟨lr, out, rs, rfl, eg _ _ (e20 _ _ (e19 _ _ hlr18)), (((hrw18.fr e19.fr).fr e20.fr).fr eg.fr).cls, by (clear hroom hlen hks hks60 hol ho2l; lia), fun l hl => ⟨by have := (hrk l hl).1; (clear hroom hlen hks hks60 hrl5 hol ho2l; lia), (hrk l hl).2⟩, fun M => Iff.rfl⟩
      | 1, hu => cases hu; exact ⟨l2, o3, somes os, rfl, eg _ _ (e20 _ _ q19), ((hcl.fr e19.fr).fr e20.fr).fr eg.fr, by have := List.length_filterMap_le id os; have := htl.1; unfold somes; (clear hroom hlen hks hks60 hol ho2l; lia), tld_ok htl hrk, fun M => tld_sat htl hrk⟩
      | 2, hu => cases hu; exact ⟨l3, out.reverse, rs.reverse, rfl, eg _ _ q20, (((hrw18.fr e19.fr).fr e20.fr).fr eg.fr).rev.cls, by rw [List.length_reverse]; (clear hroom hlen hks hks60 hol ho2l; lia), fun l hl => ⟨by have := (hrk l (List.mem_reverse.mp hl)).1; (clear hroom hlen hks hks60 hrl5 hol ho2l; lia), (hrk l (List.mem_reverse.mp hl)).2⟩, fun M => ⟨fun h r hr => h r (List.mem_reverse.mp hr), fun h r hr => h r (List.mem_reverse.mpr hr)⟩⟩
      | i + 3, hu => cases hu
    have hcs21 := eg _ _ (e20 _ _ (e19 _ _ hcs18))
    have qa21 := eg _ _ (e20 _ _ (e19 _ _ qa18))
    generalize H20.set lg (Tag.tmp, AO.tup [AV.ref lr, AV.ref l2, AV.ref l3]) = H21 at *
    clear eg e19 e20 q19 q20 hlg hl3 hl2 hcr18 hcs18 hlr18 hrw18 qa18 qt hos18
    have nlg : lg ≠ C.L + 1 + 1 + 1 := by rintro rfl; rw [hcs21] at qg; cases qg
    have nla : la ≠ C.L + 1 + 1 + 1 := by rintro rfl; rw [hcs21] at qa21; cases qa21
    refine ⟨_, _, src_tup qg, fun i m' H' => m' (PySem.Str.ofString "able") = some (.ref la) ∧ FrB (C.L + 1 + 1 + 1) H21 H' ∧ ∃ oc, H' (C.L + 1 + 1 + 1) = some (.cell, .cell oc), ⟨by walk_at "loc", .refl, _, hcs21⟩, fun i m' H' q => ⟨_, q.2.1 _ _ _ nlg qg rfl⟩, fun i u hu m' H' ⟨mab, fb, oc, hcs'⟩ => ?_, fun m' H' ⟨mab, fb, oc, hcs'⟩ => ?_⟩
    · obtain ⟨lx, vs, ls, rfl, hlx, hclx, hlz, hlk, heq⟩ := givens i u hu
      have nlx : lx ≠ C.L + 1 + 1 + 1 := by rintro rfl; rw [hcs21] at hlx; cases hlx
      have hlx' := fb _ _ _ nlx hlx rfl
      have hcl' := hclx.frB fb hcs21
      have qa' := fb _ _ _ nla qa21 rfl
      repeat walk_at "s"
      repeat walk_at "s"
      refine cv_Search (by (clear hlen hks hks60 hrl5 hol ho2l hlz; lia)) hlx' rfl hcl' hlz hlk (fun H22 σ hA f22 A hr hg => ?_)
      have hcs22 := f22 _ _ _ hcs' rfl
      have qa22 := f22 _ _ _ qa' rfl
      have fb22 := fb.trans f22.b
      clear hlx' hcl' qa' fb hcs' f22
      refine sv_cell hcs22 ?_
      have hA23 := hA.out (x := (Tag.cell, AO.cell (some (AV.ref σ.x)))) (.inr ⟨_, _, hcs22, rfl⟩)
      have hcs23 : (H22.set (C.L + 1 + 1 + 1) (.cell, .cell (some (.ref σ.x)))) (C.L + 1 + 1 + 1) = some (.cell, .cell (some (.ref σ.x))) := AH.set_self
      have qa23 : (H22.set (C.L + 1 + 1 + 1) (.cell, .cell (some (.ref σ.x)))) la = some (.tmp, intsO ((ableL rs).map fun (w : Nat) => (w : Int))) := by rw [AH.set_ne nla]; exact qa22
      have fb23 : FrB (C.L + 1 + 1 + 1) H21 (H22.set (C.L + 1 + 1 + 1) (.cell, .cell (some (.ref σ.x)))) := fb22.trans .set
      generalize H22.set (C.L + 1 + 1 + 1) (.cell, .cell (some (.ref σ.x))) = H23 at *
      clear hA hcs22 qa22 fb22
      repeat walk_at "s"
      refine ev_methN (nv_cell hcs23) hA23.inst rfl ?_ (fm_solve _) (fn_solve _) (kp_solve _)
      repeat walk_at "s"
      refine ⟨by simp, fun le hle => ?_⟩
      repeat walk_at "s"
      refine solve_spec (hA23.out (.inl hle)) A.bg A.L A.I A.e AH.set_self rfl (by (clear hroom hlen hks hks60 hrl5 hol ho2l hg; lia)) (by (clear hroom hlen hks hks60 hrl5 hol ho2l hr; lia)) _ (fun H24 f24 hent => ?_) (fun H24 σ2 hA24 f24 hx2 I2 hs2 hall => ?_) _ _ (by (clear hlen hks hks60 hrl5 hol ho2l hlz hr hg; lia))
      · have f34 := (Fr0.new (x := (Tag.tmp, AO.list [])) hle).trans f24
        have hnil : ableL rs = [] := able_nil hent (fun M => (heq M).mp)
        have qa24 := f34 _ _ _ qa23 rfl
        have hcs24 := f34 _ _ _ hcs23 rfl
        have fb24 := fb23.trans f34.b
        rw [hnil] at qa24
        clear f34 f24 hle fb23 qa23 hcs23
        repeat walk_at "s"
        refine ⟨by simp, fun l5 hl5 => ?_⟩
        have e5 := Ext.new (x := (Tag.tmp, AO.list [])) hl5
        refine op_ned (n := 3) (PD.ilist (ns := []) (e5 _ _ qa24)) (PD.list AH.set_self .nil) (by decide) ?_
        rw [eqv_nil, decide_eq_true rfl]
        have qa25 := e5 _ _ qa24
        have hcs25 := e5 _ _ hcs24
        have fb25 := fb24.trans e5.fr.b
        generalize H24.set l5 (Tag.tmp, AO.list []) = H25 at *
        refine op_isnot_b ?_
        repeat walk_at "s"
        refine ite_split (fun q => by cases q) (fun _ => ?_)
        repeat walk_at "s"
        refine ⟨by simp, fun l6 hl6 => ?_⟩
        have e6 := Ext.new (x := (Tag.tmp, AO.list [])) hl6
        refine op_ned (n := 3) (PD.ilist (ns := []) (e6 _ _ qa25)) (PD.list AH.set_self .nil) (by decide) ?_
        rw [eqv_nil, decide_eq_true rfl]
        repeat walk_at "s"
        refine ite_split (fun q => by cases q) (fun _ => ?_)
        repeat walk_at "s"
        exact ⟨by walk_at "loc", fb25.trans e6.fr.b, _, e6 _ _ hcs25⟩
      · have f34 := (Fr0.new (x := (Tag.tmp, AO.list [])) hle).trans f24
        obtain ⟨M, hM⟩ : ∃ M : Int → Bool, ∀ v, 1 ≤ v → v ≤ 4 → ilook σ2.kn v = some (.bool (M v)) := by
          refine ⟨fun v => match ilook σ2.kn v with | some (.bool b) => b | _ => false, fun v h1 h4 => ?_⟩
          have h5 := hall v h1 h4
          rcases I2.L.bkn.look v with q | ⟨b, q⟩
          · rw [q] at h5; cases h5
          · have e : (match ilook σ2.kn v with | some (.bool b) => b | _ => false) = b := by rw [q]
            rw [q]
            exact congrArg (fun b => some (AV.bool b)) e.symm
        have hmem : wof M ∈ ableL rs := able_mem hrk (I2.model hs2 hall (fun g hg => (hlk g hg).2) hM) (heq M).mpr
        have hne : (ableL rs).map (fun (w : Nat) => (w : Int)) ≠ [] := fun q => by
          have := List.map_eq_nil_iff.mp q
          rw [this] at hmem; cases hmem
        have qa24 := f34 _ _ _ qa23 rfl
        have hcs24 := f34 _ _ _ hcs23 rfl
        have fb24 := fb23.trans f34.b
        rw [← hx2] at hcs24
        clear f34 f24 hle fb23 qa23 hcs23 hA23 hall hs2
        repeat walk_at "s"
        refine ⟨by simp, fun l5 hl5 => ?_⟩
        have e5 := Ext.new (x := (Tag.tmp, AO.list [])) hl5
        refine op_ned (n := 3) (PD.ilist (e5 _ _ qa24)) (PD.list AH.set_self .nil) (by decide) ?_
        rw [eqv_nil, decide_eq_false hne]
        have qa25 := e5 _ _ qa24
        have hcs25 := e5 _ _ hcs24
        have fb25 := fb24.trans e5.fr.b
        have hA25 := e5.at hA24
        generalize H24.set l5 (Tag.tmp, AO.list []) = H25 at *
        clear e5 hA24 qa24 hcs24 fb24 hl5
        refine op_isnot_b ?_
        repeat walk_at "s"
        refine ite_split (fun q => by cases q) (fun _ => ?_)
        repeat walk_at "s"
        refine ⟨by simp, fun l6 hl6 => ?_⟩
        have e6 := Ext.new (x := (Tag.tmp, AO.list [])) hl6
        refine op_ned (n := 3) (PD.ilist (e6 _ _ qa25)) (PD.list AH.set_self .nil) (by decide) ?_
        rw [eqv_nil, decide_eq_false hne]
        have qa26 := e6 _ _ qa25
        have hcs26 := e6 _ _ hcs25
        have fb26 := fb25.trans e6.fr.b
        have hA26 := e6.at hA25
        generalize H25.set l6 (Tag.tmp, AO.list []) = H26 at *
        clear e6 hA25 qa25 hcs25 fb25 hl6
        repeat walk_at "s"
        refine ite_split (fun _ => ?_) (fun q => by cases q)
        repeat walk_at "s"
        refine ev_comp [(PySem.Str.ofString "search", C.L + 1 + 1 + 1)] rfl ?_
        repeat walk_at "s"
        refine cv_range2 (fun rg hrg => ?_)
        have eg := Ext.new (x := (Tag.tmp, AO.rng 1 5)) hrg
        have qg5 := AH.set_self (H := H26) (a := rg) (x := (Tag.tmp, AO.rng 1 5))
        have qa27 := eg _ _ qa26
        have hcs27 := eg _ _ hcs26
        have fb27 := fb26.trans eg.fr.b
        have hA27 := eg.at hA26
        generalize H26.set rg (Tag.tmp, AO.rng 1 5) = H27 at *
        clear eg hA26 qa26 hcs26 fb26 hrg
        refine ⟨_, _, src_rng qg5 (by decide), by decide, fun k o4 H' => H' = H27 ∧ o4 = (pows M k).map .int, ⟨rfl, rfl⟩, fun _ _ _ _ => trivial, fun k u hu o4 H' ⟨ex, eo⟩ D hD => ?_, fun o4 H' ⟨ex, eo⟩ l7 hl7 => ?_⟩
        · subst ex
          obtain ⟨hk, rfl⟩ := rng_get hu
          have hk4 : k < 4 := by simpa using hk
          refine tests_one ?_
          repeat walk_at "s"
          refine ev_methN (nv_cell hcs27) hA27.inst rfl ?_ (fm_value _) (fn_value _) (kp_value _)
          repeat walk_at "s"
          refine value_spec hA27 _ ?_ _ _ (by (clear hlen hks hks60 hrl5 hol ho2l hlz hr hg hk hk4; lia))
          rw [hM (1 + (k : Int)) (by (clear hroom hlen hks hks60 hrl5 hol ho2l hlz hr hg hk; lia)) (by (clear hroom hlen hks hks60 hrl5 hol ho2l hlz hr hg hk; lia))]
          dsimp only [Option.getD]
          repeat walk_at "s"
          refine ite_split (fun q => ?_) (fun q => ?_)
          · repeat walk_at "s"
            refine op_pow (by (clear hroom hlen hks hks60 hrl5 hol ho2l hlz hr hg hk; lia)) (by (clear hroom hlen hks hks60 hrl5 hol ho2l hlz hr hg hk; lia)) (by decide) ?_
            exact ⟨rfl, by rw [eo, pows_succ, if_pos q, List.map_append, show (1 + (k : Int) - 1).toNat = k by (clear hroom hlen hks hks60 hrl5 hol ho2l hlz hr hg hk; omega)]; rfl⟩
          · exact ⟨rfl, by rw [eo, pows_succ, if_neg (by rw [q]; decide), List.append_nil]⟩
        subst ex
        rw [rng_len] at eo
        replace eo : o4 = (pows M 4).map .int := eo
        subst eo
        have e8 := Ext.new (x := (Tag.tmp, AO.list ((pows M 4).map .int))) hl7
        repeat walk_at "s"
        refine cv_sum (ns := pows M 4) AH.set_self ?_
        rw [pows_sum]
        repeat walk_at "s"
        refine op_notind (n := 3) (PD.int) (PD.ilist (e8 _ _ qa27)) ?_
        rw [any_ints, List.any_eq_true.mpr ⟨(wof M : Int), List.mem_map.mpr ⟨_, hmem, rfl⟩, by simp⟩]
        repeat walk_at "s"
        refine ite_split (fun q => by cases q) (fun _ => ?_)
        repeat walk_at "s"
        exact ⟨by walk_at "loc", fb27.trans e8.fr.b, _, e8 _ _ hcs27⟩
    · repeat walk_at "s"
      rfl
  · refine ⟨.inl ⟨.bool true, .bool true, [], congrArg (fun v => Except.ok (Flow.ret v)) e, fun _ => rfl, .bool true, post_true ns, fun _ => ⟨List.nodup_nil, by simp⟩⟩, keep, hos, ?_⟩
    rw [hgens]; assumption
end Mine
theorem PySem.Challenge.cw_rr0092_01_holds : PySem.Challenge.rw_rr0092_01.Holds := by
  exact Mine.law_holds
