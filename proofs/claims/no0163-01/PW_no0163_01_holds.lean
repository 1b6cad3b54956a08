import PyProof.Rows.All
import Wide.All
import OpenK.AllK
import Wide.FinOn
import Lean
import PySem.Challenge.RW_no0163_01
set_option Elab.async false
set_option maxRecDepth 100000
set_option maxHeartbeats 8000000
section
open PySem PySem.W PyProof.Rows
namespace Mine
namespace hd
noncomputable abbrev prog : Program := PySem.Challenge.rw_no0163_01.row.toRowW.1
noncomputable def nth : List Stmt → Nat → Stmt
  | [], _ => .Pass ⟨0, 0, 0, 0⟩
  | x :: _, 0 => x
  | _ :: l, n + 1 => nth l n
noncomputable def sub : Stmt → List Stmt
  | .ClassDef _ _ _ b .. => b
  | _ => []
noncomputable abbrev at1 (i : Nat) : Stmt := nth prog.main.body i
noncomputable abbrev at2 (i j : Nat) : Stmt := nth (sub (at1 i)) j
/-- a def's object: its parts are read off the statement -/
@[reducible] noncomputable def fo (cls : Value) (d : Option Addr) (qual : Str) (g : Addr) (cl : List (Str × Addr)) (dv kv doc pm : Value) (an : Option Addr) (cd ct : Value) (sl : Array (Option Value))
    {st : Stmt} {n : Str} {ps : Arguments} {b : List Stmt} {ds : List Expr} {r : Option Expr} {tps : List TypeParam} {sc : Scope} {tsc : Option Scope} {bind : Str} {pos : Pos} (_h : st = .FunctionDef n ps b ds r tps sc tsc bind pos) : Obj :=
  ⟨cls, d, .func ⟨n, qual, ps, .stmts b, sc, g, cl, dv, kv, doc, pm, an, cd, ct, 0⟩, sl⟩
/-- the program's view: its statements but the four that no fact is asked of -/
@[reducible] noncomputable def viewOf {c0 c1 c2 c3 c4 c5 c6 c7 c8 c9 c10 c11 c12 c13 c14 c15 c16 c17 c18 c19 c20 c21 c22 c23 c24 : Stmt}
    (_h : prog.main.body = [c0, c1, c2, c3, c4, c5, c6, c7, c8, c9, c10, c11, c12, c13, c14, c15, c16, c17, c18, c19, c20, c21, c22, c23, c24]) : Program :=
  { prog with main := { prog.main with body := [c0, c2, c3, c4, c5, c6, c7, c8, c10, c11, c12, c14, c15, c16, c17, c18, c19, c21, c22, c23, c24] } }
noncomputable def view_39 : Program := viewOf rfl
noncomputable def o43 : Params → Obj := fun _ => ⟨(.type "tuple"), none, (.seq #[] 0), #[]⟩
noncomputable def o44 : Params → Obj := fun _ => ⟨.none, none, (.fields #[]), #[]⟩
noncomputable def o45 : Params → Obj := fun _ => ⟨(.type "code"), none, (.fields #[(.str (Str.ofString "<module>") 182), (.str (Str.ofString "<module>") 183), (.str (Str.ofString "/claim/cut.py") 184), (.int 1 0), (.int 0 0), (.int 0 0), (.int 0 0), (.int 0 0), (.ref 11), (.bool false), (.int 181 0), (.ref 12), .none, .none, .none, .none, (.int 185 0), (.int 1 0), (.str (Str.ofString "/claim/cut.py") 186)]), #[]⟩
noncomputable def o46 : Params → Obj := fun _ => ⟨(.type "frame"), none, .plain, #[(some (.ref 13)), (some (.ref 3)), (some (.ref 3)), none, (some (.str (Str.ofString "__main__") 164)), none, (some (.ref 0))]⟩
noncomputable def o49 : Params → Obj := fun P => ⟨.none, none, (.dict #[⟨(PyData.keyHash P (Str.ofString "type.__subclasses__.Exception.0")), (.str (Str.ofString "type.__subclasses__.Exception.0") 212), (.int 31 0)⟩, ⟨(PyData.keyHash P (Str.ofString "type.__subclasses__.Exception.n")), (.str (Str.ofString "type.__subclasses__.Exception.n") 213), (.int 1 0)⟩] 2), #[]⟩
noncomputable def o54 : Params → Obj := fun _ => ⟨(.type "tuple"), none, (.seq #[(.str (Str.ofString "k") 190)] 0), #[]⟩
noncomputable def o56 : Params → Obj := fun _ => fo .none none (Str.ofString "_wall") 0 [] .none .none .none .none none .none .none #[] (rfl : (at1 0) = _)
noncomputable def o57 : Params → Obj := fun _ => ⟨(.type "code"), none, (.fields #[(.str (Str.ofString "_wall") 187), (.str (Str.ofString "_wall") 188), (.str (Str.ofString "/claim/cut.py") 189), (.int 1 0), (.int 1 0), (.int 0 0), (.int 0 0), (.int 3 0), (.ref 15), (.bool true), (.int 181 0), (.ref 16), .none, (.ref 17), (.ref 18), (.ref 19), (.int 191 0), (.int 1 0), (.str (Str.ofString "/claim/cut.py") 192)]), #[]⟩
noncomputable def o58 : Params → Obj := fun _ => fo (.type "function") none (Str.ofString "_wall") 3 [] .none .none .none (.str (Str.ofString "__main__") 164) none (.ref 20) .none #[] (rfl : (at1 0) = _)
noncomputable def o59 : Params → Obj := fun _ => ⟨(.type "tuple"), none, (.seq #[(.type "Exception")] 0), #[]⟩
noncomputable def o60 : Params → Obj := fun _ => ⟨(.type "builtin_function_or_method"), none, (.fields #[(.builtin "type.__prepare__"), (.type "type")]), #[]⟩
noncomputable def o61 : Params → Obj := fun P => ⟨(.type "dict"), none, (.dict #[⟨(PyData.keyHash P (Str.ofString "__module__")), (.str (Str.ofString "__module__") 203), (.str (Str.ofString "clausemill.symbols") 194)⟩, ⟨(PyData.keyHash P (Str.ofString "__qualname__")), (.str (Str.ofString "__qualname__") 205), (.str (Str.ofString "ClausemillError") 204)⟩, ⟨(PyData.keyHash P (Str.ofString "__firstlineno__")), (.str (Str.ofString "__firstlineno__") 207), (.int 5 206)⟩, ⟨(PyData.keyHash P (Str.ofString "__static_attributes__")), (.str (Str.ofString "__static_attributes__") 208), (.ref 29)⟩] 4), #[]⟩
noncomputable def o64 : Params → Obj := fun _ => ⟨(.type "code"), none, (.fields #[(.str (Str.ofString "ClausemillError") 198), (.str (Str.ofString "ClausemillError") 199), (.str (Str.ofString "/claim/cut.py") 200), (.int 5 0), (.int 0 0), (.int 0 0), (.int 0 0), (.int 0 0), (.ref 25), (.bool false), (.int 181 0), (.ref 26), .none, .none, .none, .none, (.int 201 0), (.int 5 0), (.str (Str.ofString "/claim/cut.py") 202)]), #[]⟩
noncomputable def o65 : Params → Obj := fun _ => ⟨(.type "frame"), none, .plain, #[(some (.ref 27)), (some (.ref 3)), (some (.ref 24)), none, (some (.str (Str.ofString "clausemill.symbols") 194)), none, (some (.ref 0))]⟩
noncomputable def o67 : Params → Obj := fun P => ⟨(.type "dict"), none, (.dict #[⟨(PyData.keyHash P (Str.ofString "__module__")), (.str (Str.ofString "__module__") 203), (.str (Str.ofString "clausemill.symbols") 194)⟩, ⟨(PyData.keyHash P (Str.ofString "__firstlineno__")), (.str (Str.ofString "__firstlineno__") 207), (.int 5 206)⟩, ⟨(PyData.keyHash P (Str.ofString "__static_attributes__")), (.str (Str.ofString "__static_attributes__") 208), (.ref 29)⟩, ⟨(PyData.keyHash P (Str.ofString "__weakref__")), (.str (Str.ofString "__weakref__") 210), (.ref 32)⟩, ⟨(PyData.keyHash P (Str.ofString "__doc__")), (.str (Str.ofString "__doc__") 211), .none⟩] 3), #[]⟩
noncomputable def o69 : Params → Obj := fun _ => ⟨(.type "getset_descriptor"), none, (.fields #[(.str (Str.ofString "__weakref__") 209), (.ref 31), (.builtin "ExceptionGroup.__weakref__"), .none]), #[]⟩
noncomputable def o70 : Params → Obj := fun _ => ⟨(.type "super"), none, (.fields #[(.ref 31), (.ref 31), (.ref 31)]), #[]⟩
noncomputable def o71 : Params → Obj := fun _ => ⟨(.type "builtin_function_or_method"), none, (.fields #[(.builtin "object.__init_subclass__"), (.ref 31)]), #[]⟩
noncomputable def o72 : Params → Obj := fun P => ⟨(.type "dict"), none, (.dict #[⟨(PyData.keyHash P (Str.ofString "__name__")), (.str (Str.ofString "__name__") 165), (.str (Str.ofString "clausemill.symbols") 194)⟩, ⟨(PyData.keyHash P (Str.ofString "__doc__")), (.str (Str.ofString "__doc__") 166), .none⟩, ⟨(PyData.keyHash P (Str.ofString "__package__")), (.str (Str.ofString "__package__") 167), .none⟩, ⟨(PyData.keyHash P (Str.ofString "__loader__")), (.str (Str.ofString "__loader__") 168), (.builtin "__main__.__loader__#opaque")⟩, ⟨(PyData.keyHash P (Str.ofString "__spec__")), (.str (Str.ofString "__spec__") 169), .none⟩, ⟨(PyData.keyHash P (Str.ofString "__annotations__")), (.str (Str.ofString "__annotations__") 170), (.ref 6)⟩, ⟨(PyData.keyHash P (Str.ofString "__builtins__")), (.str (Str.ofString "__builtins__") 171), (.ref 4)⟩, ⟨(PyData.keyHash P (Str.ofString "__file__")), (.str (Str.ofString "__file__") 173), (.str (Str.ofString "/claim/cut.py") 172)⟩, ⟨(PyData.keyHash P (Str.ofString "__cached__")), (.str (Str.ofString "__cached__") 174), .none⟩, ⟨(PyData.keyHash P (Str.ofString "_wall")), (.str (Str.ofString "_wall") 193), (.ref 21)⟩, ⟨(PyData.keyHash P (Str.ofString "ClausemillError")), (.str (Str.ofString "ClausemillError") 215), (.ref 31)⟩, ⟨(PyData.keyHash P (Str.ofString "PrologError")), (.str (Str.ofString "PrologError") 240), (.ref 51)⟩, ⟨(PyData.keyHash P (Str.ofString "A_SYSTEM")), (.str (Str.ofString "A_SYSTEM") 242), (.int 25 241)⟩, ⟨(PyData.keyHash P (Str.ofString "F_ERROR")), (.str (Str.ofString "F_ERROR") 244), (.int 16 243)⟩, ⟨(PyData.keyHash P (Str.ofString "fixed_atoms")), (.str (Str.ofString "fixed_atoms") 250), (.ref 60)⟩, ⟨(PyData.keyHash P (Str.ofString "fixed_functors")), (.str (Str.ofString "fixed_functors") 256), (.ref 67)⟩] 16), #[]⟩
noncomputable def o73 : Params → Obj := fun _ => ⟨.none, none, (.fields #[(.int 1 0), (.int 0 0), (.ref 20), (.int 5 0), (.int 0 0), (.ref 27), (.int 7 0), (.int 0 0), (.ref 40), (.int 13 0), (.int 0 0), (.ref 59), (.int 15 0), (.int 0 0), (.ref 66)]), #[]⟩
noncomputable def o74 : Params → Obj := fun _ => ⟨(.type "type"), none, (.cls ⟨(Str.ofString "ClausemillError"), [(.type "Exception")], [(.ref 31), (.type "Exception"), (.type "BaseException"), (.type "object")], 30, (Str.ofString "ClausemillError"), true, [], [(.ref 51)], false, none, false⟩), #[(some (.ref 22)), none, (some (.str (Str.ofString "ClausemillError") 196)), (some (.str (Str.ofString "ClausemillError") 204)), (some (.builtin "Exception.__new__")), (some (.bool true))]⟩
noncomputable def o75 : Params → Obj := fun _ => ⟨(.type "tuple"), none, (.seq #[(.ref 31)] 0), #[]⟩
noncomputable def o77 : Params → Obj := fun P => ⟨(.type "dict"), none, (.dict #[⟨(PyData.keyHash P (Str.ofString "__module__")), (.str (Str.ofString "__module__") 223), (.str (Str.ofString "clausemill.symbols") 194)⟩, ⟨(PyData.keyHash P (Str.ofString "__qualname__")), (.str (Str.ofString "__qualname__") 225), (.str (Str.ofString "PrologError") 224)⟩, ⟨(PyData.keyHash P (Str.ofString "__firstlineno__")), (.str (Str.ofString "__firstlineno__") 227), (.int 7 226)⟩, ⟨(PyData.keyHash P (Str.ofString "__init__")), (.str (Str.ofString "__init__") 235), (.ref 48)⟩, ⟨(PyData.keyHash P (Str.ofString "__static_attributes__")), (.str (Str.ofString "__static_attributes__") 237), (.ref 49)⟩] 5), #[]⟩
noncomputable def o79 : Params → Obj := fun _ => ⟨.none, none, (.fields #[(.int 9 0), (.int 4 0), (.ref 47)]), #[]⟩
noncomputable def o80 : Params → Obj := fun _ => ⟨(.type "code"), none, (.fields #[(.str (Str.ofString "PrologError") 218), (.str (Str.ofString "PrologError") 219), (.str (Str.ofString "/claim/cut.py") 220), (.int 7 0), (.int 0 0), (.int 0 0), (.int 0 0), (.int 0 0), (.ref 38), (.bool false), (.int 181 0), (.ref 39), .none, .none, .none, .none, (.int 221 0), (.int 7 0), (.str (Str.ofString "/claim/cut.py") 222)]), #[]⟩
noncomputable def o81 : Params → Obj := fun _ => ⟨(.type "frame"), none, .plain, #[(some (.ref 40)), (some (.ref 3)), (some (.ref 37)), none, (some (.str (Str.ofString "clausemill.symbols") 194)), none, (some (.ref 0))]⟩
noncomputable def o84 : Params → Obj := fun _ => ⟨(.type "tuple"), none, (.seq #[(.str (Str.ofString "self") 231), (.str (Str.ofString "ball") 232)] 0), #[]⟩
noncomputable def o86 : Params → Obj := fun _ => fo .none none (Str.ofString "PrologError.__init__") 0 [] .none .none .none .none none .none .none #[] (rfl : (at2 3 0) = _)
noncomputable def o87 : Params → Obj := fun _ => ⟨(.type "code"), none, (.fields #[(.str (Str.ofString "__init__") 228), (.str (Str.ofString "PrologError.__init__") 229), (.str (Str.ofString "/claim/cut.py") 230), (.int 9 0), (.int 2 0), (.int 0 0), (.int 0 0), (.int 3 0), (.ref 42), (.bool true), (.int 181 0), (.ref 43), .none, (.ref 44), (.ref 45), (.ref 46), (.int 233 0), (.int 9 0), (.str (Str.ofString "/claim/cut.py") 234)]), #[]⟩
noncomputable def o88 : Params → Obj := fun _ => fo (.type "function") none (Str.ofString "PrologError.__init__") 3 [] .none .none .none (.str (Str.ofString "clausemill.symbols") 194) none (.ref 47) .none #[] (rfl : (at2 3 0) = _)
noncomputable def o89 : Params → Obj := fun _ => ⟨(.type "tuple"), none, (.seq #[(.str (Str.ofString "ball") 236)] 0), #[]⟩
noncomputable def o90 : Params → Obj := fun P => ⟨(.type "dict"), none, (.dict #[⟨(PyData.keyHash P (Str.ofString "__module__")), (.str (Str.ofString "__module__") 223), (.str (Str.ofString "clausemill.symbols") 194)⟩, ⟨(PyData.keyHash P (Str.ofString "__firstlineno__")), (.str (Str.ofString "__firstlineno__") 227), (.int 7 226)⟩, ⟨(PyData.keyHash P (Str.ofString "__init__")), (.str (Str.ofString "__init__") 235), (.ref 48)⟩, ⟨(PyData.keyHash P (Str.ofString "__static_attributes__")), (.str (Str.ofString "__static_attributes__") 237), (.ref 49)⟩, ⟨(PyData.keyHash P (Str.ofString "__doc__")), (.str (Str.ofString "__doc__") 238), .none⟩] 2), #[]⟩
noncomputable def o91 : Params → Obj := fun _ => ⟨(.type "type"), none, (.cls ⟨(Str.ofString "PrologError"), [(.ref 31)], [(.ref 51), (.ref 31), (.type "Exception"), (.type "BaseException"), (.type "object")], 50, (Str.ofString "PrologError"), true, [], [], false, none, false⟩), #[(some (.ref 35)), none, (some (.str (Str.ofString "PrologError") 216)), (some (.str (Str.ofString "PrologError") 224)), (some (.builtin "Exception.__new__")), (some (.bool true))]⟩
noncomputable def o92 : Params → Obj := fun _ => ⟨(.type "super"), none, (.fields #[(.ref 51), (.ref 51), (.ref 51)]), #[]⟩
noncomputable def o93 : Params → Obj := fun _ => ⟨(.type "builtin_function_or_method"), none, (.fields #[(.builtin "object.__init_subclass__"), (.ref 51)]), #[]⟩
noncomputable def o98 : Params → Obj := fun _ => fo .none none (Str.ofString "fixed_atoms") 0 [] .none .none .none .none none .none .none #[] (rfl : (at1 6) = _)
noncomputable def o99 : Params → Obj := fun _ => ⟨(.type "code"), none, (.fields #[(.str (Str.ofString "fixed_atoms") 245), (.str (Str.ofString "fixed_atoms") 246), (.str (Str.ofString "/claim/cut.py") 247), (.int 13 0), (.int 0 0), (.int 0 0), (.int 0 0), (.int 3 0), (.ref 54), (.bool true), (.int 181 0), (.ref 55), .none, (.ref 56), (.ref 57), (.ref 58), (.int 248 0), (.int 13 0), (.str (Str.ofString "/claim/cut.py") 249)]), #[]⟩
noncomputable def o100 : Params → Obj := fun _ => fo (.type "function") none (Str.ofString "fixed_atoms") 3 [] .none .none .none (.str (Str.ofString "clausemill.symbols") 194) none (.ref 59) .none #[] (rfl : (at1 6) = _)
noncomputable def o105 : Params → Obj := fun _ => fo .none none (Str.ofString "fixed_functors") 0 [] .none .none .none .none none .none .none #[] (rfl : (at1 7) = _)
noncomputable def o106 : Params → Obj := fun _ => ⟨(.type "code"), none, (.fields #[(.str (Str.ofString "fixed_functors") 251), (.str (Str.ofString "fixed_functors") 252), (.str (Str.ofString "/claim/cut.py") 253), (.int 15 0), (.int 0 0), (.int 0 0), (.int 0 0), (.int 3 0), (.ref 61), (.bool true), (.int 181 0), (.ref 62), .none, (.ref 63), (.ref 64), (.ref 65), (.int 254 0), (.int 15 0), (.str (Str.ofString "/claim/cut.py") 255)]), #[]⟩
noncomputable def o107 : Params → Obj := fun _ => fo (.type "function") none (Str.ofString "fixed_functors") 3 [] .none .none .none (.str (Str.ofString "clausemill.symbols") 194) none (.ref 66) .none #[] (rfl : (at1 7) = _)
noncomputable def o112 : Params → Obj := fun P => ⟨(.type "dict"), none, (.dict #[⟨(PyData.keyHash P (Str.ofString "__module__")), (.str (Str.ofString "__module__") 264), (.str (Str.ofString "clausemill.symbols") 194)⟩, ⟨(PyData.keyHash P (Str.ofString "__qualname__")), (.str (Str.ofString "__qualname__") 266), (.str (Str.ofString "Symbols") 265)⟩, ⟨(PyData.keyHash P (Str.ofString "__firstlineno__")), (.str (Str.ofString "__firstlineno__") 268), (.int 17 267)⟩, ⟨(PyData.keyHash P (Str.ofString "__init__")), (.str (Str.ofString "__init__") 277), (.ref 81)⟩, ⟨(PyData.keyHash P (Str.ofString "atom")), (.str (Str.ofString "atom") 287), (.ref 88)⟩, ⟨(PyData.keyHash P (Str.ofString "text")), (.str (Str.ofString "text") 295), (.ref 95)⟩, ⟨(PyData.keyHash P (Str.ofString "functor")), (.str (Str.ofString "functor") 307), (.ref 102)⟩, ⟨(PyData.keyHash P (Str.ofString "func")), (.str (Str.ofString "func") 316), (.ref 109)⟩, ⟨(PyData.keyHash P (Str.ofString "name")), (.str (Str.ofString "name") 324), (.ref 116)⟩, ⟨(PyData.keyHash P (Str.ofString "arity")), (.str (Str.ofString "arity") 332), (.ref 123)⟩, ⟨(PyData.keyHash P (Str.ofString "label")), (.str (Str.ofString "label") 340), (.ref 130)⟩, ⟨(PyData.keyHash P (Str.ofString "count")), (.str (Str.ofString "count") 347), (.ref 137)⟩, ⟨(PyData.keyHash P (Str.ofString "functor_count")), (.str (Str.ofString "functor_count") 354), (.ref 144)⟩, ⟨(PyData.keyHash P (Str.ofString "known")), (.str (Str.ofString "known") 363), (.ref 151)⟩, ⟨(PyData.keyHash P (Str.ofString "__static_attributes__")), (.str (Str.ofString "__static_attributes__") 368), (.ref 152)⟩] 15), #[]⟩
noncomputable def o114 : Params → Obj := fun _ => ⟨.none, none, (.fields (List.toArray ((.int 19 0) :: (.int 4 0) :: (.ref 80) :: (.int 29 0) :: (.int 4 0) :: (.ref 87) :: (.int 38 0) :: (.int 4 0) :: (.ref 94) :: (.int 41 0) :: (.int 4 0) :: (.ref 101) :: (.int 51 0) :: (.int 4 0) :: (.ref 108) :: (.int 54 0) :: (.int 4 0) :: (.ref 115) :: (.int 57 0) :: (.int 4 0) :: (.ref 122) :: (.int 60 0) :: (.int 4 0) :: (.ref 129) :: (.int 63 0) :: (.int 4 0) :: (.ref 136) :: (.int 66 0) :: (.int 4 0) :: (.ref 143) :: (.int 69 0) :: (.int 4 0) :: (.ref 150) :: []))), #[]⟩
noncomputable def o115 : Params → Obj := fun _ => ⟨(.type "code"), none, (.fields #[(.str (Str.ofString "Symbols") 259), (.str (Str.ofString "Symbols") 260), (.str (Str.ofString "/claim/cut.py") 261), (.int 17 0), (.int 0 0), (.int 0 0), (.int 0 0), (.int 0 0), (.ref 71), (.bool false), (.int 181 0), (.ref 72), .none, .none, .none, .none, (.int 262 0), (.int 17 0), (.str (Str.ofString "/claim/cut.py") 263)]), #[]⟩
noncomputable def o116 : Params → Obj := fun _ => ⟨(.type "frame"), none, .plain, #[(some (.ref 73)), (some (.ref 3)), (some (.ref 70)), none, (some (.str (Str.ofString "clausemill.symbols") 194)), none, (some (.ref 0))]⟩
noncomputable def o119 : Params → Obj := fun _ => ⟨(.type "tuple"), none, (.seq #[(.str (Str.ofString "self") 272), (.str (Str.ofString "text") 273), (.str (Str.ofString "row") 274)] 0), #[]⟩
noncomputable def o121 : Params → Obj := fun _ => fo .none none (Str.ofString "Symbols.__init__") 0 [] .none .none .none .none none .none .none #[] (rfl : (at2 8 0) = _)
noncomputable def o122 : Params → Obj := fun _ => ⟨(.type "code"), none, (.fields #[(.str (Str.ofString "__init__") 269), (.str (Str.ofString "Symbols.__init__") 270), (.str (Str.ofString "/claim/cut.py") 271), (.int 19 0), (.int 1 0), (.int 0 0), (.int 0 0), (.int 3 0), (.ref 75), (.bool true), (.int 181 0), (.ref 76), .none, (.ref 77), (.ref 78), (.ref 79), (.int 275 0), (.int 19 0), (.str (Str.ofString "/claim/cut.py") 276)]), #[]⟩
noncomputable def o123 : Params → Obj := fun _ => fo (.type "function") none (Str.ofString "Symbols.__init__") 3 [] .none .none .none (.str (Str.ofString "clausemill.symbols") 194) none (.ref 80) .none #[] (rfl : (at2 8 0) = _)
noncomputable def o126 : Params → Obj := fun _ => ⟨(.type "tuple"), none, (.seq #[(.str (Str.ofString "self") 281), (.str (Str.ofString "text") 282), (.str (Str.ofString "found") 283), (.str (Str.ofString "number") 284)] 0), #[]⟩
noncomputable def o128 : Params → Obj := fun _ => fo .none none (Str.ofString "Symbols.atom") 0 [] .none .none .none .none none .none .none #[] (rfl : (at2 8 1) = _)
noncomputable def o129 : Params → Obj := fun _ => ⟨(.type "code"), none, (.fields #[(.str (Str.ofString "atom") 278), (.str (Str.ofString "Symbols.atom") 279), (.str (Str.ofString "/claim/cut.py") 280), (.int 29 0), (.int 2 0), (.int 0 0), (.int 0 0), (.int 3 0), (.ref 82), (.bool true), (.int 181 0), (.ref 83), .none, (.ref 84), (.ref 85), (.ref 86), (.int 285 0), (.int 29 0), (.str (Str.ofString "/claim/cut.py") 286)]), #[]⟩
noncomputable def o130 : Params → Obj := fun _ => fo (.type "function") none (Str.ofString "Symbols.atom") 3 [] .none .none .none (.str (Str.ofString "clausemill.symbols") 194) none (.ref 87) .none #[] (rfl : (at2 8 1) = _)
noncomputable def o133 : Params → Obj := fun _ => ⟨(.type "tuple"), none, (.seq #[(.str (Str.ofString "self") 291), (.str (Str.ofString "number") 292)] 0), #[]⟩
noncomputable def o135 : Params → Obj := fun _ => fo .none none (Str.ofString "Symbols.text") 0 [] .none .none .none .none none .none .none #[] (rfl : (at2 8 2) = _)
noncomputable def o136 : Params → Obj := fun _ => ⟨(.type "code"), none, (.fields #[(.str (Str.ofString "text") 288), (.str (Str.ofString "Symbols.text") 289), (.str (Str.ofString "/claim/cut.py") 290), (.int 38 0), (.int 2 0), (.int 0 0), (.int 0 0), (.int 3 0), (.ref 89), (.bool true), (.int 181 0), (.ref 90), .none, (.ref 91), (.ref 92), (.ref 93), (.int 293 0), (.int 38 0), (.str (Str.ofString "/claim/cut.py") 294)]), #[]⟩
noncomputable def o137 : Params → Obj := fun _ => fo (.type "function") none (Str.ofString "Symbols.text") 3 [] .none .none .none (.str (Str.ofString "clausemill.symbols") 194) none (.ref 94) .none #[] (rfl : (at2 8 2) = _)
noncomputable def o140 : Params → Obj := fun _ => ⟨(.type "tuple"), none, (.seq #[(.str (Str.ofString "self") 299), (.str (Str.ofString "atom") 300), (.str (Str.ofString "arity") 301), (.str (Str.ofString "key") 302), (.str (Str.ofString "found") 303), (.str (Str.ofString "number") 304)] 0), #[]⟩
noncomputable def o142 : Params → Obj := fun _ => fo .none none (Str.ofString "Symbols.functor") 0 [] .none .none .none .none none .none .none #[] (rfl : (at2 8 3) = _)
noncomputable def o143 : Params → Obj := fun _ => ⟨(.type "code"), none, (.fields #[(.str (Str.ofString "functor") 296), (.str (Str.ofString "Symbols.functor") 297), (.str (Str.ofString "/claim/cut.py") 298), (.int 41 0), (.int 3 0), (.int 0 0), (.int 0 0), (.int 3 0), (.ref 96), (.bool true), (.int 181 0), (.ref 97), .none, (.ref 98), (.ref 99), (.ref 100), (.int 305 0), (.int 41 0), (.str (Str.ofString "/claim/cut.py") 306)]), #[]⟩
noncomputable def o144 : Params → Obj := fun _ => fo (.type "function") none (Str.ofString "Symbols.functor") 3 [] .none .none .none (.str (Str.ofString "clausemill.symbols") 194) none (.ref 101) .none #[] (rfl : (at2 8 3) = _)
noncomputable def o147 : Params → Obj := fun _ => ⟨(.type "tuple"), none, (.seq #[(.str (Str.ofString "self") 311), (.str (Str.ofString "text") 312), (.str (Str.ofString "arity") 313)] 0), #[]⟩
noncomputable def o149 : Params → Obj := fun _ => fo .none none (Str.ofString "Symbols.func") 0 [] .none .none .none .none none .none .none #[] (rfl : (at2 8 4) = _)
noncomputable def o150 : Params → Obj := fun _ => ⟨(.type "code"), none, (.fields #[(.str (Str.ofString "func") 308), (.str (Str.ofString "Symbols.func") 309), (.str (Str.ofString "/claim/cut.py") 310), (.int 51 0), (.int 3 0), (.int 0 0), (.int 0 0), (.int 3 0), (.ref 103), (.bool true), (.int 181 0), (.ref 104), .none, (.ref 105), (.ref 106), (.ref 107), (.int 314 0), (.int 51 0), (.str (Str.ofString "/claim/cut.py") 315)]), #[]⟩
noncomputable def o151 : Params → Obj := fun _ => fo (.type "function") none (Str.ofString "Symbols.func") 3 [] .none .none .none (.str (Str.ofString "clausemill.symbols") 194) none (.ref 108) .none #[] (rfl : (at2 8 4) = _)
noncomputable def o154 : Params → Obj := fun _ => ⟨(.type "tuple"), none, (.seq #[(.str (Str.ofString "self") 320), (.str (Str.ofString "functor") 321)] 0), #[]⟩
noncomputable def o156 : Params → Obj := fun _ => fo .none none (Str.ofString "Symbols.name") 0 [] .none .none .none .none none .none .none #[] (rfl : (at2 8 5) = _)
noncomputable def o157 : Params → Obj := fun _ => ⟨(.type "code"), none, (.fields #[(.str (Str.ofString "name") 317), (.str (Str.ofString "Symbols.name") 318), (.str (Str.ofString "/claim/cut.py") 319), (.int 54 0), (.int 2 0), (.int 0 0), (.int 0 0), (.int 3 0), (.ref 110), (.bool true), (.int 181 0), (.ref 111), .none, (.ref 112), (.ref 113), (.ref 114), (.int 322 0), (.int 54 0), (.str (Str.ofString "/claim/cut.py") 323)]), #[]⟩
noncomputable def o158 : Params → Obj := fun _ => fo (.type "function") none (Str.ofString "Symbols.name") 3 [] .none .none .none (.str (Str.ofString "clausemill.symbols") 194) none (.ref 115) .none #[] (rfl : (at2 8 5) = _)
noncomputable def o161 : Params → Obj := fun _ => ⟨(.type "tuple"), none, (.seq #[(.str (Str.ofString "self") 328), (.str (Str.ofString "functor") 329)] 0), #[]⟩
noncomputable def o163 : Params → Obj := fun _ => fo .none none (Str.ofString "Symbols.arity") 0 [] .none .none .none .none none .none .none #[] (rfl : (at2 8 6) = _)
noncomputable def o164 : Params → Obj := fun _ => ⟨(.type "code"), none, (.fields #[(.str (Str.ofString "arity") 325), (.str (Str.ofString "Symbols.arity") 326), (.str (Str.ofString "/claim/cut.py") 327), (.int 57 0), (.int 2 0), (.int 0 0), (.int 0 0), (.int 3 0), (.ref 117), (.bool true), (.int 181 0), (.ref 118), .none, (.ref 119), (.ref 120), (.ref 121), (.int 330 0), (.int 57 0), (.str (Str.ofString "/claim/cut.py") 331)]), #[]⟩
noncomputable def o165 : Params → Obj := fun _ => fo (.type "function") none (Str.ofString "Symbols.arity") 3 [] .none .none .none (.str (Str.ofString "clausemill.symbols") 194) none (.ref 122) .none #[] (rfl : (at2 8 6) = _)
noncomputable def o168 : Params → Obj := fun _ => ⟨(.type "tuple"), none, (.seq #[(.str (Str.ofString "self") 336), (.str (Str.ofString "functor") 337)] 0), #[]⟩
noncomputable def o170 : Params → Obj := fun _ => fo .none none (Str.ofString "Symbols.label") 0 [] .none .none .none .none none .none .none #[] (rfl : (at2 8 7) = _)
noncomputable def o171 : Params → Obj := fun _ => ⟨(.type "code"), none, (.fields #[(.str (Str.ofString "label") 333), (.str (Str.ofString "Symbols.label") 334), (.str (Str.ofString "/claim/cut.py") 335), (.int 60 0), (.int 2 0), (.int 0 0), (.int 0 0), (.int 3 0), (.ref 124), (.bool true), (.int 181 0), (.ref 125), .none, (.ref 126), (.ref 127), (.ref 128), (.int 338 0), (.int 60 0), (.str (Str.ofString "/claim/cut.py") 339)]), #[]⟩
noncomputable def o172 : Params → Obj := fun _ => fo (.type "function") none (Str.ofString "Symbols.label") 3 [] .none .none .none (.str (Str.ofString "clausemill.symbols") 194) none (.ref 129) .none #[] (rfl : (at2 8 7) = _)
noncomputable def o175 : Params → Obj := fun _ => ⟨(.type "tuple"), none, (.seq #[(.str (Str.ofString "self") 344)] 0), #[]⟩
noncomputable def o177 : Params → Obj := fun _ => fo .none none (Str.ofString "Symbols.count") 0 [] .none .none .none .none none .none .none #[] (rfl : (at2 8 8) = _)
noncomputable def o178 : Params → Obj := fun _ => ⟨(.type "code"), none, (.fields #[(.str (Str.ofString "count") 341), (.str (Str.ofString "Symbols.count") 342), (.str (Str.ofString "/claim/cut.py") 343), (.int 63 0), (.int 1 0), (.int 0 0), (.int 0 0), (.int 3 0), (.ref 131), (.bool true), (.int 181 0), (.ref 132), .none, (.ref 133), (.ref 134), (.ref 135), (.int 345 0), (.int 63 0), (.str (Str.ofString "/claim/cut.py") 346)]), #[]⟩
noncomputable def o179 : Params → Obj := fun _ => fo (.type "function") none (Str.ofString "Symbols.count") 3 [] .none .none .none (.str (Str.ofString "clausemill.symbols") 194) none (.ref 136) .none #[] (rfl : (at2 8 8) = _)
noncomputable def o182 : Params → Obj := fun _ => ⟨(.type "tuple"), none, (.seq #[(.str (Str.ofString "self") 351)] 0), #[]⟩
noncomputable def o184 : Params → Obj := fun _ => fo .none none (Str.ofString "Symbols.functor_count") 0 [] .none .none .none .none none .none .none #[] (rfl : (at2 8 9) = _)
noncomputable def o185 : Params → Obj := fun _ => ⟨(.type "code"), none, (.fields #[(.str (Str.ofString "functor_count") 348), (.str (Str.ofString "Symbols.functor_count") 349), (.str (Str.ofString "/claim/cut.py") 350), (.int 66 0), (.int 1 0), (.int 0 0), (.int 0 0), (.int 3 0), (.ref 138), (.bool true), (.int 181 0), (.ref 139), .none, (.ref 140), (.ref 141), (.ref 142), (.int 352 0), (.int 66 0), (.str (Str.ofString "/claim/cut.py") 353)]), #[]⟩
noncomputable def o186 : Params → Obj := fun _ => fo (.type "function") none (Str.ofString "Symbols.functor_count") 3 [] .none .none .none (.str (Str.ofString "clausemill.symbols") 194) none (.ref 143) .none #[] (rfl : (at2 8 9) = _)
noncomputable def o189 : Params → Obj := fun _ => ⟨(.type "tuple"), none, (.seq #[(.str (Str.ofString "self") 358), (.str (Str.ofString "text") 359), (.str (Str.ofString "arity") 360)] 0), #[]⟩
noncomputable def o191 : Params → Obj := fun _ => fo .none none (Str.ofString "Symbols.known") 0 [] .none .none .none .none none .none .none #[] (rfl : (at2 8 10) = _)
noncomputable def o192 : Params → Obj := fun _ => ⟨(.type "code"), none, (.fields #[(.str (Str.ofString "known") 355), (.str (Str.ofString "Symbols.known") 356), (.str (Str.ofString "/claim/cut.py") 357), (.int 69 0), (.int 3 0), (.int 0 0), (.int 0 0), (.int 3 0), (.ref 145), (.bool true), (.int 181 0), (.ref 146), .none, (.ref 147), (.ref 148), (.ref 149), (.int 361 0), (.int 69 0), (.str (Str.ofString "/claim/cut.py") 362)]), #[]⟩
noncomputable def o193 : Params → Obj := fun _ => fo (.type "function") none (Str.ofString "Symbols.known") 3 [] .none .none .none (.str (Str.ofString "clausemill.symbols") 194) none (.ref 150) .none #[] (rfl : (at2 8 10) = _)
noncomputable def o194 : Params → Obj := fun _ => ⟨(.type "tuple"), none, (.seq #[(.str (Str.ofString "atom_numbers") 364), (.str (Str.ofString "functor_numbers") 365), (.str (Str.ofString "functors") 366), (.str (Str.ofString "texts") 367)] 0), #[]⟩
noncomputable def o195 : Params → Obj := fun P => ⟨(.type "dict"), none, (.dict #[⟨(PyData.keyHash P (Str.ofString "__module__")), (.str (Str.ofString "__module__") 264), (.str (Str.ofString "clausemill.symbols") 194)⟩, ⟨(PyData.keyHash P (Str.ofString "__firstlineno__")), (.str (Str.ofString "__firstlineno__") 268), (.int 17 267)⟩, ⟨(PyData.keyHash P (Str.ofString "__init__")), (.str (Str.ofString "__init__") 277), (.ref 81)⟩, ⟨(PyData.keyHash P (Str.ofString "atom")), (.str (Str.ofString "atom") 287), (.ref 88)⟩, ⟨(PyData.keyHash P (Str.ofString "text")), (.str (Str.ofString "text") 295), (.ref 95)⟩, ⟨(PyData.keyHash P (Str.ofString "functor")), (.str (Str.ofString "functor") 307), (.ref 102)⟩, ⟨(PyData.keyHash P (Str.ofString "func")), (.str (Str.ofString "func") 316), (.ref 109)⟩, ⟨(PyData.keyHash P (Str.ofString "name")), (.str (Str.ofString "name") 324), (.ref 116)⟩, ⟨(PyData.keyHash P (Str.ofString "arity")), (.str (Str.ofString "arity") 332), (.ref 123)⟩, ⟨(PyData.keyHash P (Str.ofString "label")), (.str (Str.ofString "label") 340), (.ref 130)⟩, ⟨(PyData.keyHash P (Str.ofString "count")), (.str (Str.ofString "count") 347), (.ref 137)⟩, ⟨(PyData.keyHash P (Str.ofString "functor_count")), (.str (Str.ofString "functor_count") 354), (.ref 144)⟩, ⟨(PyData.keyHash P (Str.ofString "known")), (.str (Str.ofString "known") 363), (.ref 151)⟩, ⟨(PyData.keyHash P (Str.ofString "__static_attributes__")), (.str (Str.ofString "__static_attributes__") 368), (.ref 152)⟩, ⟨(PyData.keyHash P (Str.ofString "__dict__")), (.str (Str.ofString "__dict__") 370), (.ref 155)⟩, ⟨(PyData.keyHash P (Str.ofString "__weakref__")), (.str (Str.ofString "__weakref__") 372), (.ref 156)⟩, ⟨(PyData.keyHash P (Str.ofString "__doc__")), (.str (Str.ofString "__doc__") 373), .none⟩] 4), #[]⟩
noncomputable def o196 : Params → Obj := fun _ => ⟨(.type "type"), none, (.cls ⟨(Str.ofString "Symbols"), [(.type "object")], [(.ref 154), (.type "object")], 153, (Str.ofString "Symbols"), true, [], [], false, none, false⟩), #[none, none, (some (.str (Str.ofString "Symbols") 257)), (some (.str (Str.ofString "Symbols") 265)), (some (.builtin "object.__new__")), (some (.bool true))]⟩
noncomputable def o197 : Params → Obj := fun _ => ⟨(.type "getset_descriptor"), none, (.fields #[(.str (Str.ofString "__dict__") 369), (.ref 154), (.builtin "function.__dict__"), (.builtin "function.__dict__#set")]), #[]⟩
noncomputable def o198 : Params → Obj := fun _ => ⟨(.type "getset_descriptor"), none, (.fields #[(.str (Str.ofString "__weakref__") 371), (.ref 154), (.builtin "ExceptionGroup.__weakref__"), .none]), #[]⟩
noncomputable def o199 : Params → Obj := fun _ => ⟨(.type "super"), none, (.fields #[(.ref 154), (.ref 154), (.ref 154)]), #[]⟩
noncomputable def o200 : Params → Obj := fun _ => ⟨(.type "builtin_function_or_method"), none, (.fields #[(.builtin "object.__init_subclass__"), (.ref 154)]), #[]⟩
noncomputable def o201 : Params → Obj := fun P => ⟨(.type "dict"), none, (.dict (List.toArray (⟨(PyData.keyHash P (Str.ofString "__name__")), (.str (Str.ofString "__name__") 165), (.str (Str.ofString "clausemill.store") 404)⟩ :: ⟨(PyData.keyHash P (Str.ofString "__doc__")), (.str (Str.ofString "__doc__") 166), .none⟩ :: ⟨(PyData.keyHash P (Str.ofString "__package__")), (.str (Str.ofString "__package__") 167), .none⟩ :: ⟨(PyData.keyHash P (Str.ofString "__loader__")), (.str (Str.ofString "__loader__") 168), (.builtin "__main__.__loader__#opaque")⟩ :: ⟨(PyData.keyHash P (Str.ofString "__spec__")), (.str (Str.ofString "__spec__") 169), .none⟩ :: ⟨(PyData.keyHash P (Str.ofString "__annotations__")), (.str (Str.ofString "__annotations__") 170), (.ref 6)⟩ :: ⟨(PyData.keyHash P (Str.ofString "__builtins__")), (.str (Str.ofString "__builtins__") 171), (.ref 4)⟩ :: ⟨(PyData.keyHash P (Str.ofString "__file__")), (.str (Str.ofString "__file__") 173), (.str (Str.ofString "/claim/cut.py") 172)⟩ :: ⟨(PyData.keyHash P (Str.ofString "__cached__")), (.str (Str.ofString "__cached__") 174), .none⟩ :: ⟨(PyData.keyHash P (Str.ofString "_wall")), (.str (Str.ofString "_wall") 193), (.ref 21)⟩ :: ⟨(PyData.keyHash P (Str.ofString "ClausemillError")), (.str (Str.ofString "ClausemillError") 215), (.ref 31)⟩ :: ⟨(PyData.keyHash P (Str.ofString "PrologError")), (.str (Str.ofString "PrologError") 240), (.ref 51)⟩ :: ⟨(PyData.keyHash P (Str.ofString "A_SYSTEM")), (.str (Str.ofString "A_SYSTEM") 242), (.int 25 241)⟩ :: ⟨(PyData.keyHash P (Str.ofString "F_ERROR")), (.str (Str.ofString "F_ERROR") 244), (.int 16 243)⟩ :: ⟨(PyData.keyHash P (Str.ofString "fixed_atoms")), (.str (Str.ofString "fixed_atoms") 250), (.ref 60)⟩ :: ⟨(PyData.keyHash P (Str.ofString "fixed_functors")), (.str (Str.ofString "fixed_functors") 256), (.ref 67)⟩ :: ⟨(PyData.keyHash P (Str.ofString "Symbols")), (.str (Str.ofString "Symbols") 375), (.ref 154)⟩ :: ⟨(PyData.keyHash P (Str.ofString "system_error")), (.str (Str.ofString "system_error") 384), (.ref 165)⟩ :: ⟨(PyData.keyHash P (Str.ofString "formal_of")), (.str (Str.ofString "formal_of") 395), (.ref 172)⟩ :: ⟨(PyData.keyHash P (Str.ofString "resource_error")), (.str (Str.ofString "resource_error") 403), (.ref 179)⟩ :: ⟨(PyData.keyHash P (Str.ofString "REF")), (.str (Str.ofString "REF") 407), (.int 0 406)⟩ :: ⟨(PyData.keyHash P (Str.ofString "SRF")), (.str (Str.ofString "SRF") 409), (.int 1 408)⟩ :: ⟨(PyData.keyHash P (Str.ofString "LIS")), (.str (Str.ofString "LIS") 411), (.int 3 410)⟩ :: ⟨(PyData.keyHash P (Str.ofString "INT")), (.str (Str.ofString "INT") 413), (.int 5 412)⟩ :: ⟨(PyData.keyHash P (Str.ofString "VOID")), (.str (Str.ofString "VOID") 415), (.ref 180)⟩ :: [])) 25), #[]⟩
noncomputable def o202 : Params → Obj := fun _ => ⟨.none, none, (.fields (List.toArray ((.int 1 0) :: (.int 0 0) :: (.ref 20) :: (.int 5 0) :: (.int 0 0) :: (.ref 27) :: (.int 7 0) :: (.int 0 0) :: (.ref 40) :: (.int 13 0) :: (.int 0 0) :: (.ref 59) :: (.int 15 0) :: (.int 0 0) :: (.ref 66) :: (.int 17 0) :: (.int 0 0) :: (.ref 73) :: (.int 72 0) :: (.int 0 0) :: (.ref 164) :: (.int 74 0) :: (.int 0 0) :: (.ref 171) :: (.int 79 0) :: (.int 0 0) :: (.ref 178) :: []))), #[]⟩
noncomputable def o205 : Params → Obj := fun _ => ⟨(.type "tuple"), none, (.seq #[(.str (Str.ofString "formal") 381)] 0), #[]⟩
noncomputable def o207 : Params → Obj := fun _ => fo .none none (Str.ofString "system_error") 0 [] .none .none .none .none none .none .none #[] (rfl : (at1 10) = _)
noncomputable def o208 : Params → Obj := fun _ => ⟨(.type "code"), none, (.fields #[(.str (Str.ofString "system_error") 378), (.str (Str.ofString "system_error") 379), (.str (Str.ofString "/claim/cut.py") 380), (.int 72 0), (.int 1 0), (.int 0 0), (.int 0 0), (.int 3 0), (.ref 159), (.bool true), (.int 181 0), (.ref 160), .none, (.ref 161), (.ref 162), (.ref 163), (.int 382 0), (.int 72 0), (.str (Str.ofString "/claim/cut.py") 383)]), #[]⟩
noncomputable def o209 : Params → Obj := fun _ => fo (.type "function") none (Str.ofString "system_error") 3 [] .none .none .none (.str (Str.ofString "clausemill.terms") 376) none (.ref 164) .none #[] (rfl : (at1 10) = _)
noncomputable def o212 : Params → Obj := fun _ => ⟨(.type "tuple"), none, (.seq #[(.str (Str.ofString "symbols") 388), (.str (Str.ofString "name") 389), (.str (Str.ofString "parts") 390), (.str (Str.ofString "args") 391), (.str (Str.ofString "part") 392)] 0), #[]⟩
noncomputable def o214 : Params → Obj := fun _ => fo .none none (Str.ofString "formal_of") 0 [] .none .none .none .none none .none .none #[] (rfl : (at1 11) = _)
noncomputable def o215 : Params → Obj := fun _ => ⟨(.type "code"), none, (.fields #[(.str (Str.ofString "formal_of") 385), (.str (Str.ofString "formal_of") 386), (.str (Str.ofString "/claim/cut.py") 387), (.int 74 0), (.int 3 0), (.int 0 0), (.int 0 0), (.int 3 0), (.ref 166), (.bool true), (.int 181 0), (.ref 167), .none, (.ref 168), (.ref 169), (.ref 170), (.int 393 0), (.int 74 0), (.str (Str.ofString "/claim/cut.py") 394)]), #[]⟩
noncomputable def o216 : Params → Obj := fun _ => fo (.type "function") none (Str.ofString "formal_of") 3 [] .none .none .none (.str (Str.ofString "clausemill.terms") 376) none (.ref 171) .none #[] (rfl : (at1 11) = _)
noncomputable def o219 : Params → Obj := fun _ => ⟨(.type "tuple"), none, (.seq #[(.str (Str.ofString "symbols") 399), (.str (Str.ofString "what") 400)] 0), #[]⟩
noncomputable def o221 : Params → Obj := fun _ => fo .none none (Str.ofString "resource_error") 0 [] .none .none .none .none none .none .none #[] (rfl : (at1 12) = _)
noncomputable def o222 : Params → Obj := fun _ => ⟨(.type "code"), none, (.fields #[(.str (Str.ofString "resource_error") 396), (.str (Str.ofString "resource_error") 397), (.str (Str.ofString "/claim/cut.py") 398), (.int 79 0), (.int 2 0), (.int 0 0), (.int 0 0), (.int 3 0), (.ref 173), (.bool true), (.int 181 0), (.ref 174), .none, (.ref 175), (.ref 176), (.ref 177), (.int 401 0), (.int 79 0), (.str (Str.ofString "/claim/cut.py") 402)]), #[]⟩
noncomputable def o223 : Params → Obj := fun _ => fo (.type "function") none (Str.ofString "resource_error") 3 [] .none .none .none (.str (Str.ofString "clausemill.terms") 376) none (.ref 178) .none #[] (rfl : (at1 12) = _)
noncomputable def o224 : Params → Obj := fun _ => ⟨(.type "tuple"), none, (.seq #[(.int 5 412), (.int 0 414)] 0), #[]⟩
noncomputable def o229 : Params → Obj := fun P => ⟨(.type "dict"), none, (.dict #[⟨(PyData.keyHash P (Str.ofString "__module__")), (.str (Str.ofString "__module__") 423), (.str (Str.ofString "clausemill.store") 404)⟩, ⟨(PyData.keyHash P (Str.ofString "__qualname__")), (.str (Str.ofString "__qualname__") 425), (.str (Str.ofString "Cells") 424)⟩, ⟨(PyData.keyHash P (Str.ofString "__firstlineno__")), (.str (Str.ofString "__firstlineno__") 427), (.int 87 426)⟩, ⟨(PyData.keyHash P (Str.ofString "__init__")), (.str (Str.ofString "__init__") 437), (.ref 195)⟩, ⟨(PyData.keyHash P (Str.ofString "push")), (.str (Str.ofString "push") 446), (.ref 202)⟩, ⟨(PyData.keyHash P (Str.ofString "new_var")), (.str (Str.ofString "new_var") 454), (.ref 209)⟩, ⟨(PyData.keyHash P (Str.ofString "reserve")), (.str (Str.ofString "reserve") 462), (.ref 216)⟩, ⟨(PyData.keyHash P (Str.ofString "trim")), (.str (Str.ofString "trim") 470), (.ref 223)⟩, ⟨(PyData.keyHash P (Str.ofString "deref")), (.str (Str.ofString "deref") 480), (.ref 230)⟩, ⟨(PyData.keyHash P (Str.ofString "is_unbound")), (.str (Str.ofString "is_unbound") 488), (.ref 237)⟩, ⟨(PyData.keyHash P (Str.ofString "bind")), (.str (Str.ofString "bind") 498), (.ref 244)⟩, ⟨(PyData.keyHash P (Str.ofString "bind_pair")), (.str (Str.ofString "bind_pair") 507), (.ref 251)⟩, ⟨(PyData.keyHash P (Str.ofString "globalise")), (.str (Str.ofString "globalise") 516), (.ref 258)⟩, ⟨(PyData.keyHash P (Str.ofString "mark")), (.str (Str.ofString "mark") 523), (.ref 265)⟩, ⟨(PyData.keyHash P (Str.ofString "undo_to")), (.str (Str.ofString "undo_to") 533), (.ref 272)⟩, ⟨(PyData.keyHash P (Str.ofString "stack_put")), (.str (Str.ofString "stack_put") 543), (.ref 279)⟩, ⟨(PyData.keyHash P (Str.ofString "is_compound")), (.str (Str.ofString "is_compound") 551), (.ref 286)⟩, ⟨(PyData.keyHash P (Str.ofString "functor_of")), (.str (Str.ofString "functor_of") 559), (.ref 293)⟩, ⟨(PyData.keyHash P (Str.ofString "width")), (.str (Str.ofString "width") 567), (.ref 300)⟩, ⟨(PyData.keyHash P (Str.ofString "base")), (.str (Str.ofString "base") 575), (.ref 307)⟩, ⟨(PyData.keyHash P (Str.ofString "arg")), (.str (Str.ofString "arg") 584), (.ref 314)⟩, ⟨(PyData.keyHash P (Str.ofString "new_block")), (.str (Str.ofString "new_block") 592), (.ref 321)⟩, ⟨(PyData.keyHash P (Str.ofString "__static_attributes__")), (.str (Str.ofString "__static_attributes__") 600), (.ref 322)⟩] 23), #[]⟩
noncomputable def o231 : Params → Obj := fun _ => ⟨.none, none, (.fields (List.toArray ((.int 89 0) :: (.int 4 0) :: (.ref 194) :: (.int 98 0) :: (.int 4 0) :: (.ref 201) :: (.int 105 0) :: (.int 4 0) :: (.ref 208) :: (.int 110 0) :: (.int 4 0) :: (.ref 215) :: (.int 113 0) :: (.int 4 0) :: (.ref 222) :: (.int 116 0) :: (.int 4 0) :: (.ref 229) :: (.int 129 0) :: (.int 4 0) :: (.ref 236) :: (.int 136 0) :: (.int 4 0) :: (.ref 243) :: (.int 147 0) :: (.int 4 0) :: (.ref 250) :: (.int 160 0) :: (.int 4 0) :: (.ref 257) :: (.int 168 0) :: (.int 4 0) :: (.ref 264) :: (.int 171 0) :: (.int 4 0) :: (.ref 271) :: (.int 180 0) :: (.int 4 0) :: (.ref 278) :: (.int 189 0) :: (.int 4 0) :: (.ref 285) :: (.int 192 0) :: (.int 4 0) :: (.ref 292) :: (.int 195 0) :: (.int 4 0) :: (.ref 299) :: (.int 198 0) :: (.int 4 0) :: (.ref 306) :: (.int 203 0) :: (.int 4 0) :: (.ref 313) :: (.int 206 0) :: (.int 4 0) :: (.ref 320) :: []))), #[]⟩
noncomputable def o232 : Params → Obj := fun _ => ⟨(.type "code"), none, (.fields #[(.str (Str.ofString "Cells") 418), (.str (Str.ofString "Cells") 419), (.str (Str.ofString "/claim/cut.py") 420), (.int 87 0), (.int 0 0), (.int 0 0), (.int 0 0), (.int 0 0), (.ref 184), (.bool false), (.int 181 0), (.ref 185), .none, .none, .none, .none, (.int 421 0), (.int 87 0), (.str (Str.ofString "/claim/cut.py") 422)]), #[]⟩
noncomputable def o233 : Params → Obj := fun _ => ⟨(.type "frame"), none, .plain, #[(some (.ref 186)), (some (.ref 3)), (some (.ref 183)), none, (some (.str (Str.ofString "clausemill.store") 404)), none, (some (.ref 0))]⟩
noncomputable def o234 : Params → Obj := fun _ => ⟨(.type "tuple"), none, (.seq #[(.int 100000 428)] 0), #[]⟩
noncomputable def o237 : Params → Obj := fun _ => ⟨(.type "tuple"), none, (.seq #[(.str (Str.ofString "self") 432), (.str (Str.ofString "symbols") 433), (.str (Str.ofString "max_heap") 434)] 0), #[]⟩
noncomputable def o239 : Params → Obj := fun _ => fo .none none (Str.ofString "Cells.__init__") 0 [] .none .none .none .none none .none .none #[] (rfl : (at2 19 0) = _)
noncomputable def o240 : Params → Obj := fun _ => ⟨(.type "code"), none, (.fields #[(.str (Str.ofString "__init__") 429), (.str (Str.ofString "Cells.__init__") 430), (.str (Str.ofString "/claim/cut.py") 431), (.int 89 0), (.int 3 0), (.int 0 0), (.int 0 0), (.int 3 0), (.ref 189), (.bool true), (.int 181 0), (.ref 190), .none, (.ref 191), (.ref 192), (.ref 193), (.int 435 0), (.int 89 0), (.str (Str.ofString "/claim/cut.py") 436)]), #[]⟩
noncomputable def o241 : Params → Obj := fun _ => fo (.type "function") none (Str.ofString "Cells.__init__") 3 [] (.ref 188) .none .none (.str (Str.ofString "clausemill.store") 404) none (.ref 194) .none #[] (rfl : (at2 19 0) = _)
noncomputable def o244 : Params → Obj := fun _ => ⟨(.type "tuple"), none, (.seq #[(.str (Str.ofString "self") 441), (.str (Str.ofString "cell") 442), (.str (Str.ofString "address") 443)] 0), #[]⟩
noncomputable def o246 : Params → Obj := fun _ => fo .none none (Str.ofString "Cells.push") 0 [] .none .none .none .none none .none .none #[] (rfl : (at2 19 1) = _)
noncomputable def o247 : Params → Obj := fun _ => ⟨(.type "code"), none, (.fields #[(.str (Str.ofString "push") 438), (.str (Str.ofString "Cells.push") 439), (.str (Str.ofString "/claim/cut.py") 440), (.int 98 0), (.int 2 0), (.int 0 0), (.int 0 0), (.int 3 0), (.ref 196), (.bool true), (.int 181 0), (.ref 197), .none, (.ref 198), (.ref 199), (.ref 200), (.int 444 0), (.int 98 0), (.str (Str.ofString "/claim/cut.py") 445)]), #[]⟩
noncomputable def o248 : Params → Obj := fun _ => fo (.type "function") none (Str.ofString "Cells.push") 3 [] .none .none .none (.str (Str.ofString "clausemill.store") 404) none (.ref 201) .none #[] (rfl : (at2 19 1) = _)
noncomputable def o251 : Params → Obj := fun _ => ⟨(.type "tuple"), none, (.seq #[(.str (Str.ofString "self") 450), (.str (Str.ofString "cell") 451)] 0), #[]⟩
noncomputable def o253 : Params → Obj := fun _ => fo .none none (Str.ofString "Cells.new_var") 0 [] .none .none .none .none none .none .none #[] (rfl : (at2 19 2) = _)
noncomputable def o254 : Params → Obj := fun _ => ⟨(.type "code"), none, (.fields #[(.str (Str.ofString "new_var") 447), (.str (Str.ofString "Cells.new_var") 448), (.str (Str.ofString "/claim/cut.py") 449), (.int 105 0), (.int 1 0), (.int 0 0), (.int 0 0), (.int 3 0), (.ref 203), (.bool true), (.int 181 0), (.ref 204), .none, (.ref 205), (.ref 206), (.ref 207), (.int 452 0), (.int 105 0), (.str (Str.ofString "/claim/cut.py") 453)]), #[]⟩
noncomputable def o255 : Params → Obj := fun _ => fo (.type "function") none (Str.ofString "Cells.new_var") 3 [] .none .none .none (.str (Str.ofString "clausemill.store") 404) none (.ref 208) .none #[] (rfl : (at2 19 2) = _)
noncomputable def o258 : Params → Obj := fun _ => ⟨(.type "tuple"), none, (.seq #[(.str (Str.ofString "self") 458), (.str (Str.ofString "count") 459)] 0), #[]⟩
noncomputable def o260 : Params → Obj := fun _ => fo .none none (Str.ofString "Cells.reserve") 0 [] .none .none .none .none none .none .none #[] (rfl : (at2 19 3) = _)
noncomputable def o261 : Params → Obj := fun _ => ⟨(.type "code"), none, (.fields #[(.str (Str.ofString "reserve") 455), (.str (Str.ofString "Cells.reserve") 456), (.str (Str.ofString "/claim/cut.py") 457), (.int 110 0), (.int 2 0), (.int 0 0), (.int 0 0), (.int 3 0), (.ref 210), (.bool true), (.int 181 0), (.ref 211), .none, (.ref 212), (.ref 213), (.ref 214), (.int 460 0), (.int 110 0), (.str (Str.ofString "/claim/cut.py") 461)]), #[]⟩
noncomputable def o262 : Params → Obj := fun _ => fo (.type "function") none (Str.ofString "Cells.reserve") 3 [] .none .none .none (.str (Str.ofString "clausemill.store") 404) none (.ref 215) .none #[] (rfl : (at2 19 3) = _)
noncomputable def o265 : Params → Obj := fun _ => ⟨(.type "tuple"), none, (.seq #[(.str (Str.ofString "self") 466), (.str (Str.ofString "h") 467)] 0), #[]⟩
noncomputable def o267 : Params → Obj := fun _ => fo .none none (Str.ofString "Cells.trim") 0 [] .none .none .none .none none .none .none #[] (rfl : (at2 19 4) = _)
noncomputable def o268 : Params → Obj := fun _ => ⟨(.type "code"), none, (.fields #[(.str (Str.ofString "trim") 463), (.str (Str.ofString "Cells.trim") 464), (.str (Str.ofString "/claim/cut.py") 465), (.int 113 0), (.int 2 0), (.int 0 0), (.int 0 0), (.int 3 0), (.ref 217), (.bool true), (.int 181 0), (.ref 218), .none, (.ref 219), (.ref 220), (.ref 221), (.int 468 0), (.int 113 0), (.str (Str.ofString "/claim/cut.py") 469)]), #[]⟩
noncomputable def o269 : Params → Obj := fun _ => fo (.type "function") none (Str.ofString "Cells.trim") 3 [] .none .none .none (.str (Str.ofString "clausemill.store") 404) none (.ref 222) .none #[] (rfl : (at2 19 4) = _)
noncomputable def o272 : Params → Obj := fun _ => ⟨(.type "tuple"), none, (.seq #[(.str (Str.ofString "self") 474), (.str (Str.ofString "cell") 475), (.str (Str.ofString "tag") 476), (.str (Str.ofString "found") 477)] 0), #[]⟩
noncomputable def o274 : Params → Obj := fun _ => fo .none none (Str.ofString "Cells.deref") 0 [] .none .none .none .none none .none .none #[] (rfl : (at2 19 5) = _)
noncomputable def o275 : Params → Obj := fun _ => ⟨(.type "code"), none, (.fields #[(.str (Str.ofString "deref") 471), (.str (Str.ofString "Cells.deref") 472), (.str (Str.ofString "/claim/cut.py") 473), (.int 116 0), (.int 2 0), (.int 0 0), (.int 0 0), (.int 3 0), (.ref 224), (.bool true), (.int 181 0), (.ref 225), .none, (.ref 226), (.ref 227), (.ref 228), (.int 478 0), (.int 116 0), (.str (Str.ofString "/claim/cut.py") 479)]), #[]⟩
noncomputable def o276 : Params → Obj := fun _ => fo (.type "function") none (Str.ofString "Cells.deref") 3 [] .none .none .none (.str (Str.ofString "clausemill.store") 404) none (.ref 229) .none #[] (rfl : (at2 19 5) = _)
noncomputable def o279 : Params → Obj := fun _ => ⟨(.type "tuple"), none, (.seq #[(.str (Str.ofString "self") 484), (.str (Str.ofString "cell") 485)] 0), #[]⟩
noncomputable def o281 : Params → Obj := fun _ => fo .none none (Str.ofString "Cells.is_unbound") 0 [] .none .none .none .none none .none .none #[] (rfl : (at2 19 6) = _)
noncomputable def o282 : Params → Obj := fun _ => ⟨(.type "code"), none, (.fields #[(.str (Str.ofString "is_unbound") 481), (.str (Str.ofString "Cells.is_unbound") 482), (.str (Str.ofString "/claim/cut.py") 483), (.int 129 0), (.int 2 0), (.int 0 0), (.int 0 0), (.int 3 0), (.ref 231), (.bool true), (.int 181 0), (.ref 232), .none, (.ref 233), (.ref 234), (.ref 235), (.int 486 0), (.int 129 0), (.str (Str.ofString "/claim/cut.py") 487)]), #[]⟩
noncomputable def o283 : Params → Obj := fun _ => fo (.type "function") none (Str.ofString "Cells.is_unbound") 3 [] .none .none .none (.str (Str.ofString "clausemill.store") 404) none (.ref 236) .none #[] (rfl : (at2 19 6) = _)
noncomputable def o286 : Params → Obj := fun _ => ⟨(.type "tuple"), none, (.seq #[(.str (Str.ofString "self") 492), (.str (Str.ofString "cell") 493), (.str (Str.ofString "value") 494), (.str (Str.ofString "place") 495)] 0), #[]⟩
noncomputable def o288 : Params → Obj := fun _ => fo .none none (Str.ofString "Cells.bind") 0 [] .none .none .none .none none .none .none #[] (rfl : (at2 19 7) = _)
noncomputable def o289 : Params → Obj := fun _ => ⟨(.type "code"), none, (.fields #[(.str (Str.ofString "bind") 489), (.str (Str.ofString "Cells.bind") 490), (.str (Str.ofString "/claim/cut.py") 491), (.int 136 0), (.int 3 0), (.int 0 0), (.int 0 0), (.int 3 0), (.ref 238), (.bool true), (.int 181 0), (.ref 239), .none, (.ref 240), (.ref 241), (.ref 242), (.int 496 0), (.int 136 0), (.str (Str.ofString "/claim/cut.py") 497)]), #[]⟩
noncomputable def o290 : Params → Obj := fun _ => fo (.type "function") none (Str.ofString "Cells.bind") 3 [] .none .none .none (.str (Str.ofString "clausemill.store") 404) none (.ref 243) .none #[] (rfl : (at2 19 7) = _)
noncomputable def o293 : Params → Obj := fun _ => ⟨(.type "tuple"), none, (.seq #[(.str (Str.ofString "self") 502), (.str (Str.ofString "c1") 503), (.str (Str.ofString "c2") 504)] 0), #[]⟩
noncomputable def o295 : Params → Obj := fun _ => fo .none none (Str.ofString "Cells.bind_pair") 0 [] .none .none .none .none none .none .none #[] (rfl : (at2 19 8) = _)
noncomputable def o296 : Params → Obj := fun _ => ⟨(.type "code"), none, (.fields #[(.str (Str.ofString "bind_pair") 499), (.str (Str.ofString "Cells.bind_pair") 500), (.str (Str.ofString "/claim/cut.py") 501), (.int 147 0), (.int 3 0), (.int 0 0), (.int 0 0), (.int 3 0), (.ref 245), (.bool true), (.int 181 0), (.ref 246), .none, (.ref 247), (.ref 248), (.ref 249), (.int 505 0), (.int 147 0), (.str (Str.ofString "/claim/cut.py") 506)]), #[]⟩
noncomputable def o297 : Params → Obj := fun _ => fo (.type "function") none (Str.ofString "Cells.bind_pair") 3 [] .none .none .none (.str (Str.ofString "clausemill.store") 404) none (.ref 250) .none #[] (rfl : (at2 19 8) = _)
noncomputable def o300 : Params → Obj := fun _ => ⟨(.type "tuple"), none, (.seq #[(.str (Str.ofString "self") 511), (.str (Str.ofString "cell") 512), (.str (Str.ofString "fresh") 513)] 0), #[]⟩
noncomputable def o302 : Params → Obj := fun _ => fo .none none (Str.ofString "Cells.globalise") 0 [] .none .none .none .none none .none .none #[] (rfl : (at2 19 9) = _)
noncomputable def o303 : Params → Obj := fun _ => ⟨(.type "code"), none, (.fields #[(.str (Str.ofString "globalise") 508), (.str (Str.ofString "Cells.globalise") 509), (.str (Str.ofString "/claim/cut.py") 510), (.int 160 0), (.int 2 0), (.int 0 0), (.int 0 0), (.int 3 0), (.ref 252), (.bool true), (.int 181 0), (.ref 253), .none, (.ref 254), (.ref 255), (.ref 256), (.int 514 0), (.int 160 0), (.str (Str.ofString "/claim/cut.py") 515)]), #[]⟩
noncomputable def o304 : Params → Obj := fun _ => fo (.type "function") none (Str.ofString "Cells.globalise") 3 [] .none .none .none (.str (Str.ofString "clausemill.store") 404) none (.ref 257) .none #[] (rfl : (at2 19 9) = _)
noncomputable def o307 : Params → Obj := fun _ => ⟨(.type "tuple"), none, (.seq #[(.str (Str.ofString "self") 520)] 0), #[]⟩
noncomputable def o309 : Params → Obj := fun _ => fo .none none (Str.ofString "Cells.mark") 0 [] .none .none .none .none none .none .none #[] (rfl : (at2 19 10) = _)
noncomputable def o310 : Params → Obj := fun _ => ⟨(.type "code"), none, (.fields #[(.str (Str.ofString "mark") 517), (.str (Str.ofString "Cells.mark") 518), (.str (Str.ofString "/claim/cut.py") 519), (.int 168 0), (.int 1 0), (.int 0 0), (.int 0 0), (.int 3 0), (.ref 259), (.bool true), (.int 181 0), (.ref 260), .none, (.ref 261), (.ref 262), (.ref 263), (.int 521 0), (.int 168 0), (.str (Str.ofString "/claim/cut.py") 522)]), #[]⟩
noncomputable def o311 : Params → Obj := fun _ => fo (.type "function") none (Str.ofString "Cells.mark") 3 [] .none .none .none (.str (Str.ofString "clausemill.store") 404) none (.ref 264) .none #[] (rfl : (at2 19 10) = _)
noncomputable def o314 : Params → Obj := fun _ => ⟨(.type "tuple"), none, (.seq #[(.str (Str.ofString "self") 527), (.str (Str.ofString "mark") 528), (.str (Str.ofString "entry") 529), (.str (Str.ofString "slot") 530)] 0), #[]⟩
noncomputable def o316 : Params → Obj := fun _ => fo .none none (Str.ofString "Cells.undo_to") 0 [] .none .none .none .none none .none .none #[] (rfl : (at2 19 11) = _)
noncomputable def o317 : Params → Obj := fun _ => ⟨(.type "code"), none, (.fields #[(.str (Str.ofString "undo_to") 524), (.str (Str.ofString "Cells.undo_to") 525), (.str (Str.ofString "/claim/cut.py") 526), (.int 171 0), (.int 2 0), (.int 0 0), (.int 0 0), (.int 3 0), (.ref 266), (.bool true), (.int 181 0), (.ref 267), .none, (.ref 268), (.ref 269), (.ref 270), (.int 531 0), (.int 171 0), (.str (Str.ofString "/claim/cut.py") 532)]), #[]⟩
noncomputable def o318 : Params → Obj := fun _ => fo (.type "function") none (Str.ofString "Cells.undo_to") 3 [] .none .none .none (.str (Str.ofString "clausemill.store") 404) none (.ref 271) .none #[] (rfl : (at2 19 11) = _)
noncomputable def o321 : Params → Obj := fun _ => ⟨(.type "tuple"), none, (.seq #[(.str (Str.ofString "self") 537), (.str (Str.ofString "i") 538), (.str (Str.ofString "value") 539), (.str (Str.ofString "stack") 540)] 0), #[]⟩
noncomputable def o323 : Params → Obj := fun _ => fo .none none (Str.ofString "Cells.stack_put") 0 [] .none .none .none .none none .none .none #[] (rfl : (at2 19 12) = _)
noncomputable def o324 : Params → Obj := fun _ => ⟨(.type "code"), none, (.fields #[(.str (Str.ofString "stack_put") 534), (.str (Str.ofString "Cells.stack_put") 535), (.str (Str.ofString "/claim/cut.py") 536), (.int 180 0), (.int 3 0), (.int 0 0), (.int 0 0), (.int 3 0), (.ref 273), (.bool true), (.int 181 0), (.ref 274), .none, (.ref 275), (.ref 276), (.ref 277), (.int 541 0), (.int 180 0), (.str (Str.ofString "/claim/cut.py") 542)]), #[]⟩
noncomputable def o325 : Params → Obj := fun _ => fo (.type "function") none (Str.ofString "Cells.stack_put") 3 [] .none .none .none (.str (Str.ofString "clausemill.store") 404) none (.ref 278) .none #[] (rfl : (at2 19 12) = _)
noncomputable def o328 : Params → Obj := fun _ => ⟨(.type "tuple"), none, (.seq #[(.str (Str.ofString "self") 547), (.str (Str.ofString "cell") 548)] 0), #[]⟩
noncomputable def o330 : Params → Obj := fun _ => fo .none none (Str.ofString "Cells.is_compound") 0 [] .none .none .none .none none .none .none #[] (rfl : (at2 19 13) = _)
noncomputable def o331 : Params → Obj := fun _ => ⟨(.type "code"), none, (.fields #[(.str (Str.ofString "is_compound") 544), (.str (Str.ofString "Cells.is_compound") 545), (.str (Str.ofString "/claim/cut.py") 546), (.int 189 0), (.int 2 0), (.int 0 0), (.int 0 0), (.int 3 0), (.ref 280), (.bool true), (.int 181 0), (.ref 281), .none, (.ref 282), (.ref 283), (.ref 284), (.int 549 0), (.int 189 0), (.str (Str.ofString "/claim/cut.py") 550)]), #[]⟩
noncomputable def o332 : Params → Obj := fun _ => fo (.type "function") none (Str.ofString "Cells.is_compound") 3 [] .none .none .none (.str (Str.ofString "clausemill.store") 404) none (.ref 285) .none #[] (rfl : (at2 19 13) = _)
noncomputable def o335 : Params → Obj := fun _ => ⟨(.type "tuple"), none, (.seq #[(.str (Str.ofString "self") 555), (.str (Str.ofString "cell") 556)] 0), #[]⟩
noncomputable def o337 : Params → Obj := fun _ => fo .none none (Str.ofString "Cells.functor_of") 0 [] .none .none .none .none none .none .none #[] (rfl : (at2 19 14) = _)
noncomputable def o338 : Params → Obj := fun _ => ⟨(.type "code"), none, (.fields #[(.str (Str.ofString "functor_of") 552), (.str (Str.ofString "Cells.functor_of") 553), (.str (Str.ofString "/claim/cut.py") 554), (.int 192 0), (.int 2 0), (.int 0 0), (.int 0 0), (.int 3 0), (.ref 287), (.bool true), (.int 181 0), (.ref 288), .none, (.ref 289), (.ref 290), (.ref 291), (.int 557 0), (.int 192 0), (.str (Str.ofString "/claim/cut.py") 558)]), #[]⟩
noncomputable def o339 : Params → Obj := fun _ => fo (.type "function") none (Str.ofString "Cells.functor_of") 3 [] .none .none .none (.str (Str.ofString "clausemill.store") 404) none (.ref 292) .none #[] (rfl : (at2 19 14) = _)
noncomputable def o342 : Params → Obj := fun _ => ⟨(.type "tuple"), none, (.seq #[(.str (Str.ofString "self") 563), (.str (Str.ofString "cell") 564)] 0), #[]⟩
noncomputable def o344 : Params → Obj := fun _ => fo .none none (Str.ofString "Cells.width") 0 [] .none .none .none .none none .none .none #[] (rfl : (at2 19 15) = _)
noncomputable def o345 : Params → Obj := fun _ => ⟨(.type "code"), none, (.fields #[(.str (Str.ofString "width") 560), (.str (Str.ofString "Cells.width") 561), (.str (Str.ofString "/claim/cut.py") 562), (.int 195 0), (.int 2 0), (.int 0 0), (.int 0 0), (.int 3 0), (.ref 294), (.bool true), (.int 181 0), (.ref 295), .none, (.ref 296), (.ref 297), (.ref 298), (.int 565 0), (.int 195 0), (.str (Str.ofString "/claim/cut.py") 566)]), #[]⟩
noncomputable def o346 : Params → Obj := fun _ => fo (.type "function") none (Str.ofString "Cells.width") 3 [] .none .none .none (.str (Str.ofString "clausemill.store") 404) none (.ref 299) .none #[] (rfl : (at2 19 15) = _)
noncomputable def o349 : Params → Obj := fun _ => ⟨(.type "tuple"), none, (.seq #[(.str (Str.ofString "self") 571), (.str (Str.ofString "cell") 572)] 0), #[]⟩
noncomputable def o351 : Params → Obj := fun _ => fo .none none (Str.ofString "Cells.base") 0 [] .none .none .none .none none .none .none #[] (rfl : (at2 19 16) = _)
noncomputable def o352 : Params → Obj := fun _ => ⟨(.type "code"), none, (.fields #[(.str (Str.ofString "base") 568), (.str (Str.ofString "Cells.base") 569), (.str (Str.ofString "/claim/cut.py") 570), (.int 198 0), (.int 2 0), (.int 0 0), (.int 0 0), (.int 3 0), (.ref 301), (.bool true), (.int 181 0), (.ref 302), .none, (.ref 303), (.ref 304), (.ref 305), (.int 573 0), (.int 198 0), (.str (Str.ofString "/claim/cut.py") 574)]), #[]⟩
noncomputable def o353 : Params → Obj := fun _ => fo (.type "function") none (Str.ofString "Cells.base") 3 [] .none .none .none (.str (Str.ofString "clausemill.store") 404) none (.ref 306) .none #[] (rfl : (at2 19 16) = _)
noncomputable def o356 : Params → Obj := fun _ => ⟨(.type "tuple"), none, (.seq #[(.str (Str.ofString "self") 579), (.str (Str.ofString "cell") 580), (.str (Str.ofString "i") 581)] 0), #[]⟩
noncomputable def o358 : Params → Obj := fun _ => fo .none none (Str.ofString "Cells.arg") 0 [] .none .none .none .none none .none .none #[] (rfl : (at2 19 17) = _)
noncomputable def o359 : Params → Obj := fun _ => ⟨(.type "code"), none, (.fields #[(.str (Str.ofString "arg") 576), (.str (Str.ofString "Cells.arg") 577), (.str (Str.ofString "/claim/cut.py") 578), (.int 203 0), (.int 3 0), (.int 0 0), (.int 0 0), (.int 3 0), (.ref 308), (.bool true), (.int 181 0), (.ref 309), .none, (.ref 310), (.ref 311), (.ref 312), (.int 582 0), (.int 203 0), (.str (Str.ofString "/claim/cut.py") 583)]), #[]⟩
noncomputable def o360 : Params → Obj := fun _ => fo (.type "function") none (Str.ofString "Cells.arg") 3 [] .none .none .none (.str (Str.ofString "clausemill.store") 404) none (.ref 313) .none #[] (rfl : (at2 19 17) = _)
noncomputable def o363 : Params → Obj := fun _ => ⟨(.type "tuple"), none, (.seq #[(.str (Str.ofString "self") 588), (.str (Str.ofString "f") 589)] 0), #[]⟩
noncomputable def o365 : Params → Obj := fun _ => fo .none none (Str.ofString "Cells.new_block") 0 [] .none .none .none .none none .none .none #[] (rfl : (at2 19 18) = _)
noncomputable def o366 : Params → Obj := fun _ => ⟨(.type "code"), none, (.fields #[(.str (Str.ofString "new_block") 585), (.str (Str.ofString "Cells.new_block") 586), (.str (Str.ofString "/claim/cut.py") 587), (.int 206 0), (.int 2 0), (.int 0 0), (.int 0 0), (.int 3 0), (.ref 315), (.bool true), (.int 181 0), (.ref 316), .none, (.ref 317), (.ref 318), (.ref 319), (.int 590 0), (.int 206 0), (.str (Str.ofString "/claim/cut.py") 591)]), #[]⟩
noncomputable def o367 : Params → Obj := fun _ => fo (.type "function") none (Str.ofString "Cells.new_block") 3 [] .none .none .none (.str (Str.ofString "clausemill.store") 404) none (.ref 320) .none #[] (rfl : (at2 19 18) = _)
noncomputable def o368 : Params → Obj := fun _ => ⟨(.type "tuple"), none, (.seq #[(.str (Str.ofString "bb") 593), (.str (Str.ofString "hb") 594), (.str (Str.ofString "heap") 595), (.str (Str.ofString "max_heap") 596), (.str (Str.ofString "stack") 597), (.str (Str.ofString "symbols") 598), (.str (Str.ofString "trail") 599)] 0), #[]⟩
noncomputable def o369 : Params → Obj := fun P => ⟨(.type "dict"), none, (.dict (List.toArray (⟨(PyData.keyHash P (Str.ofString "__module__")), (.str (Str.ofString "__module__") 423), (.str (Str.ofString "clausemill.store") 404)⟩ :: ⟨(PyData.keyHash P (Str.ofString "__firstlineno__")), (.str (Str.ofString "__firstlineno__") 427), (.int 87 426)⟩ :: ⟨(PyData.keyHash P (Str.ofString "__init__")), (.str (Str.ofString "__init__") 437), (.ref 195)⟩ :: ⟨(PyData.keyHash P (Str.ofString "push")), (.str (Str.ofString "push") 446), (.ref 202)⟩ :: ⟨(PyData.keyHash P (Str.ofString "new_var")), (.str (Str.ofString "new_var") 454), (.ref 209)⟩ :: ⟨(PyData.keyHash P (Str.ofString "reserve")), (.str (Str.ofString "reserve") 462), (.ref 216)⟩ :: ⟨(PyData.keyHash P (Str.ofString "trim")), (.str (Str.ofString "trim") 470), (.ref 223)⟩ :: ⟨(PyData.keyHash P (Str.ofString "deref")), (.str (Str.ofString "deref") 480), (.ref 230)⟩ :: ⟨(PyData.keyHash P (Str.ofString "is_unbound")), (.str (Str.ofString "is_unbound") 488), (.ref 237)⟩ :: ⟨(PyData.keyHash P (Str.ofString "bind")), (.str (Str.ofString "bind") 498), (.ref 244)⟩ :: ⟨(PyData.keyHash P (Str.ofString "bind_pair")), (.str (Str.ofString "bind_pair") 507), (.ref 251)⟩ :: ⟨(PyData.keyHash P (Str.ofString "globalise")), (.str (Str.ofString "globalise") 516), (.ref 258)⟩ :: ⟨(PyData.keyHash P (Str.ofString "mark")), (.str (Str.ofString "mark") 523), (.ref 265)⟩ :: ⟨(PyData.keyHash P (Str.ofString "undo_to")), (.str (Str.ofString "undo_to") 533), (.ref 272)⟩ :: ⟨(PyData.keyHash P (Str.ofString "stack_put")), (.str (Str.ofString "stack_put") 543), (.ref 279)⟩ :: ⟨(PyData.keyHash P (Str.ofString "is_compound")), (.str (Str.ofString "is_compound") 551), (.ref 286)⟩ :: ⟨(PyData.keyHash P (Str.ofString "functor_of")), (.str (Str.ofString "functor_of") 559), (.ref 293)⟩ :: ⟨(PyData.keyHash P (Str.ofString "width")), (.str (Str.ofString "width") 567), (.ref 300)⟩ :: ⟨(PyData.keyHash P (Str.ofString "base")), (.str (Str.ofString "base") 575), (.ref 307)⟩ :: ⟨(PyData.keyHash P (Str.ofString "arg")), (.str (Str.ofString "arg") 584), (.ref 314)⟩ :: ⟨(PyData.keyHash P (Str.ofString "new_block")), (.str (Str.ofString "new_block") 592), (.ref 321)⟩ :: ⟨(PyData.keyHash P (Str.ofString "__static_attributes__")), (.str (Str.ofString "__static_attributes__") 600), (.ref 322)⟩ :: ⟨(PyData.keyHash P (Str.ofString "__dict__")), (.str (Str.ofString "__dict__") 602), (.ref 325)⟩ :: ⟨(PyData.keyHash P (Str.ofString "__weakref__")), (.str (Str.ofString "__weakref__") 604), (.ref 326)⟩ :: ⟨(PyData.keyHash P (Str.ofString "__doc__")), (.str (Str.ofString "__doc__") 605), .none⟩ :: [])) 4), #[]⟩
noncomputable def o370 : Params → Obj := fun _ => ⟨(.type "type"), none, (.cls ⟨(Str.ofString "Cells"), [(.type "object")], [(.ref 324), (.type "object")], 323, (Str.ofString "Cells"), true, [], [], false, none, false⟩), #[none, none, (some (.str (Str.ofString "Cells") 416)), (some (.str (Str.ofString "Cells") 424)), (some (.builtin "object.__new__")), (some (.bool true))]⟩
noncomputable def o371 : Params → Obj := fun _ => ⟨(.type "getset_descriptor"), none, (.fields #[(.str (Str.ofString "__dict__") 601), (.ref 324), (.builtin "function.__dict__"), (.builtin "function.__dict__#set")]), #[]⟩
noncomputable def o372 : Params → Obj := fun _ => ⟨(.type "getset_descriptor"), none, (.fields #[(.str (Str.ofString "__weakref__") 603), (.ref 324), (.builtin "ExceptionGroup.__weakref__"), .none]), #[]⟩
noncomputable def o373 : Params → Obj := fun _ => ⟨(.type "super"), none, (.fields #[(.ref 324), (.ref 324), (.ref 324)]), #[]⟩
noncomputable def o374 : Params → Obj := fun _ => ⟨(.type "builtin_function_or_method"), none, (.fields #[(.builtin "object.__init_subclass__"), (.ref 324)]), #[]⟩
noncomputable def o463 : Params → Obj := fun P => ⟨(.type "dict"), none, (.dict (List.toArray (⟨(PyData.keyHash P (Str.ofString "__name__")), (.str (Str.ofString "__name__") 165), (.str (Str.ofString "law_no0163_01") 608)⟩ :: ⟨(PyData.keyHash P (Str.ofString "__doc__")), (.str (Str.ofString "__doc__") 166), .none⟩ :: ⟨(PyData.keyHash P (Str.ofString "__package__")), (.str (Str.ofString "__package__") 167), .none⟩ :: ⟨(PyData.keyHash P (Str.ofString "__loader__")), (.str (Str.ofString "__loader__") 168), (.builtin "__main__.__loader__#opaque")⟩ :: ⟨(PyData.keyHash P (Str.ofString "__spec__")), (.str (Str.ofString "__spec__") 169), .none⟩ :: ⟨(PyData.keyHash P (Str.ofString "__annotations__")), (.str (Str.ofString "__annotations__") 170), (.ref 6)⟩ :: ⟨(PyData.keyHash P (Str.ofString "__builtins__")), (.str (Str.ofString "__builtins__") 171), (.ref 4)⟩ :: ⟨(PyData.keyHash P (Str.ofString "__file__")), (.str (Str.ofString "__file__") 173), (.str (Str.ofString "/claim/cut.py") 172)⟩ :: ⟨(PyData.keyHash P (Str.ofString "__cached__")), (.str (Str.ofString "__cached__") 174), .none⟩ :: ⟨(PyData.keyHash P (Str.ofString "_wall")), (.str (Str.ofString "_wall") 193), (.ref 21)⟩ :: ⟨(PyData.keyHash P (Str.ofString "ClausemillError")), (.str (Str.ofString "ClausemillError") 215), (.ref 31)⟩ :: ⟨(PyData.keyHash P (Str.ofString "PrologError")), (.str (Str.ofString "PrologError") 240), (.ref 51)⟩ :: ⟨(PyData.keyHash P (Str.ofString "A_SYSTEM")), (.str (Str.ofString "A_SYSTEM") 242), (.int 25 241)⟩ :: ⟨(PyData.keyHash P (Str.ofString "F_ERROR")), (.str (Str.ofString "F_ERROR") 244), (.int 16 243)⟩ :: ⟨(PyData.keyHash P (Str.ofString "fixed_atoms")), (.str (Str.ofString "fixed_atoms") 250), (.ref 60)⟩ :: ⟨(PyData.keyHash P (Str.ofString "fixed_functors")), (.str (Str.ofString "fixed_functors") 256), (.ref 67)⟩ :: ⟨(PyData.keyHash P (Str.ofString "Symbols")), (.str (Str.ofString "Symbols") 375), (.ref 154)⟩ :: ⟨(PyData.keyHash P (Str.ofString "system_error")), (.str (Str.ofString "system_error") 384), (.ref 165)⟩ :: ⟨(PyData.keyHash P (Str.ofString "formal_of")), (.str (Str.ofString "formal_of") 395), (.ref 172)⟩ :: ⟨(PyData.keyHash P (Str.ofString "resource_error")), (.str (Str.ofString "resource_error") 403), (.ref 179)⟩ :: ⟨(PyData.keyHash P (Str.ofString "REF")), (.str (Str.ofString "REF") 407), (.int 0 406)⟩ :: ⟨(PyData.keyHash P (Str.ofString "SRF")), (.str (Str.ofString "SRF") 409), (.int 1 408)⟩ :: ⟨(PyData.keyHash P (Str.ofString "LIS")), (.str (Str.ofString "LIS") 411), (.int 3 410)⟩ :: ⟨(PyData.keyHash P (Str.ofString "INT")), (.str (Str.ofString "INT") 413), (.int 5 412)⟩ :: ⟨(PyData.keyHash P (Str.ofString "VOID")), (.str (Str.ofString "VOID") 415), (.ref 180)⟩ :: ⟨(PyData.keyHash P (Str.ofString "Cells")), (.str (Str.ofString "Cells") 607), (.ref 324)⟩ :: ⟨(PyData.keyHash P (Str.ofString "_law_pick")), (.str (Str.ofString "_law_pick") 619), (.ref 335)⟩ :: ⟨(PyData.keyHash P (Str.ofString "_law_sound")), (.str (Str.ofString "_law_sound") 629), (.ref 342)⟩ :: ⟨(PyData.keyHash P (Str.ofString "_law_agree")), (.str (Str.ofString "_law_agree") 635), (.ref 347)⟩ :: ⟨(PyData.keyHash P (Str.ofString "law")), (.str (Str.ofString "law") 641), (.ref 352)⟩ :: [])) 30), #[]⟩
noncomputable def o464 : Params → Obj := fun _ => ⟨.none, none, (.fields (List.toArray ((.int 1 0) :: (.int 0 0) :: (.ref 20) :: (.int 5 0) :: (.int 0 0) :: (.ref 27) :: (.int 7 0) :: (.int 0 0) :: (.ref 40) :: (.int 13 0) :: (.int 0 0) :: (.ref 59) :: (.int 15 0) :: (.int 0 0) :: (.ref 66) :: (.int 17 0) :: (.int 0 0) :: (.ref 73) :: (.int 72 0) :: (.int 0 0) :: (.ref 164) :: (.int 74 0) :: (.int 0 0) :: (.ref 171) :: (.int 79 0) :: (.int 0 0) :: (.ref 178) :: (.int 87 0) :: (.int 0 0) :: (.ref 186) :: (.int 209 0) :: (.int 0 0) :: (.ref 334) :: (.int 220 0) :: (.int 0 0) :: (.ref 341) :: (.int 230 0) :: (.int 0 0) :: (.ref 346) :: (.int 242 0) :: (.int 0 0) :: (.ref 351) :: []))), #[]⟩
noncomputable def o467 : Params → Obj := fun _ => ⟨(.type "tuple"), none, (.seq #[(.str (Str.ofString "hand") 613), (.str (Str.ofString "limit") 614), (.str (Str.ofString "number") 615), (.str (Str.ofString "digit") 616)] 0), #[]⟩
noncomputable def o469 : Params → Obj := fun _ => fo .none none (Str.ofString "_law_pick") 0 [] .none .none .none .none none .none .none #[] (rfl : (at1 21) = _)
noncomputable def o470 : Params → Obj := fun _ => ⟨(.type "code"), none, (.fields #[(.str (Str.ofString "_law_pick") 610), (.str (Str.ofString "_law_pick") 611), (.str (Str.ofString "/claim/cut.py") 612), (.int 209 0), (.int 2 0), (.int 0 0), (.int 0 0), (.int 3 0), (.ref 329), (.bool true), (.int 181 0), (.ref 330), .none, (.ref 331), (.ref 332), (.ref 333), (.int 617 0), (.int 209 0), (.str (Str.ofString "/claim/cut.py") 618)]), #[]⟩
noncomputable def o471 : Params → Obj := fun _ => fo (.type "function") none (Str.ofString "_law_pick") 3 [] .none .none .none (.str (Str.ofString "law_no0163_01") 608) none (.ref 334) .none #[] (rfl : (at1 21) = _)
noncomputable def o474 : Params → Obj := fun _ => ⟨(.type "tuple"), none, (.seq #[(.str (Str.ofString "areas") 623), (.str (Str.ofString "above") 624), (.str (Str.ofString "place") 625), (.str (Str.ofString "cell") 626)] 0), #[]⟩
noncomputable def o476 : Params → Obj := fun _ => fo .none none (Str.ofString "_law_sound") 0 [] .none .none .none .none none .none .none #[] (rfl : (at1 22) = _)
noncomputable def o477 : Params → Obj := fun _ => ⟨(.type "code"), none, (.fields #[(.str (Str.ofString "_law_sound") 620), (.str (Str.ofString "_law_sound") 621), (.str (Str.ofString "/claim/cut.py") 622), (.int 220 0), (.int 2 0), (.int 0 0), (.int 0 0), (.int 3 0), (.ref 336), (.bool true), (.int 181 0), (.ref 337), .none, (.ref 338), (.ref 339), (.ref 340), (.int 627 0), (.int 220 0), (.str (Str.ofString "/claim/cut.py") 628)]), #[]⟩
noncomputable def o478 : Params → Obj := fun _ => fo (.type "function") none (Str.ofString "_law_sound") 3 [] .none .none .none (.str (Str.ofString "law_no0163_01") 608) none (.ref 341) .none #[] (rfl : (at1 22) = _)
noncomputable def o481 : Params → Obj := fun _ => fo .none none (Str.ofString "_law_agree") 0 [] .none .none .none .none none .none .none #[] (rfl : (at1 23) = _)
noncomputable def o482 : Params → Obj := fun _ => ⟨(.type "code"), none, (.fields #[(.str (Str.ofString "_law_agree") 630), (.str (Str.ofString "_law_agree") 631), (.str (Str.ofString "/claim/cut.py") 632), (.int 230 0), (.int 4 0), (.int 0 0), (.int 0 0), (.int 3 0), (.ref 343), (.bool true), (.int 181 0), (.ref 344), .none, .none, .none, (.ref 345), (.int 633 0), (.int 230 0), (.str (Str.ofString "/claim/cut.py") 634)]), #[]⟩
noncomputable def o483 : Params → Obj := fun _ => fo (.type "function") none (Str.ofString "_law_agree") 3 [] .none .none .none (.str (Str.ofString "law_no0163_01") 608) none (.ref 346) .none #[] (rfl : (at1 23) = _)
noncomputable def o486 : Params → Obj := fun _ => fo (sc := ⟨.function, (((Str.ofString "script"), .local) :: ((Str.ofString "cells"), .local) :: ((Str.ofString "hand"), .local) :: ((Str.ofString "areas"), .local) :: ((Str.ofString "made"), .local) :: ((Str.ofString "groups"), .cell) :: ((Str.ofString "values"), .local) :: ((Str.ofString "points"), .local) :: ((Str.ofString "above"), .local) :: ((Str.ofString "fresh"), .local) :: ((Str.ofString "_"), .local) :: ((Str.ofString "deed"), .local) :: ((Str.ofString "trailed"), .local) :: ((Str.ofString "limits"), .local) :: ((Str.ofString "one"), .cell) :: ((Str.ofString "two"), .local) :: ((Str.ofString "left"), .local) :: ((Str.ofString "right"), .local) :: ((Str.ofString "joined"), .cell) :: ((Str.ofString "value"), .local) :: ((Str.ofString "point"), .local) :: ((Str.ofString "end"), .local) :: ((Str.ofString "entry"), .local) :: ((Str.ofString "sum"), .globalImplicit) :: ((Str.ofString "Cells"), .globalImplicit) :: ((Str.ofString "Symbols"), .globalImplicit) :: ((Str.ofString "range"), .globalImplicit) :: ((Str.ofString "min"), .globalImplicit) :: ((Str.ofString "len"), .globalImplicit) :: ((Str.ofString "_law_pick"), .globalImplicit) :: ((Str.ofString "SRF"), .globalImplicit) :: ((Str.ofString "INT"), .globalImplicit) :: ((Str.ofString "list"), .globalImplicit) :: ((Str.ofString "dict"), .globalImplicit) :: ((Str.ofString "_law_sound"), .globalImplicit) :: ((Str.ofString "_law_agree"), .globalImplicit) :: []), false, false, (((Str.ofString "fast"), (.str (Str.ofString "script"))) :: ((Str.ofString "fast"), (.str (Str.ofString "cells"))) :: ((Str.ofString "fast"), (.str (Str.ofString "hand"))) :: ((Str.ofString "fast"), (.str (Str.ofString "areas"))) :: ((Str.ofString "fast"), (.str (Str.ofString "made"))) :: ((Str.ofString "fast"), (.str (Str.ofString "groups"))) :: ((Str.ofString "fast"), (.str (Str.ofString "values"))) :: ((Str.ofString "fast"), (.str (Str.ofString "points"))) :: ((Str.ofString "fast"), (.str (Str.ofString "above"))) :: ((Str.ofString "fast"), (.str (Str.ofString "fresh"))) :: ((Str.ofString "fast"), (.str (Str.ofString "_"))) :: ((Str.ofString "fast"), (.str (Str.ofString "deed"))) :: ((Str.ofString "fast"), (.str (Str.ofString "trailed"))) :: ((Str.ofString "fast"), (.str (Str.ofString "limits"))) :: ((Str.ofString "fast"), (.str (Str.ofString "one"))) :: ((Str.ofString "fast"), (.str (Str.ofString "two"))) :: ((Str.ofString "fast"), (.str (Str.ofString "left"))) :: ((Str.ofString "fast"), (.str (Str.ofString "right"))) :: ((Str.ofString "fast"), (.str (Str.ofString "joined"))) :: ((Str.ofString "fast"), (.str (Str.ofString "group"))) :: ((Str.ofString "fast"), (.str (Str.ofString "value"))) :: ((Str.ofString "fast"), (.str (Str.ofString "point"))) :: ((Str.ofString "fast"), (.str (Str.ofString "end"))) :: ((Str.ofString "fast"), (.str (Str.ofString "entry"))) :: [])⟩) .none none (Str.ofString "law") 0 [] .none .none .none .none none .none .none #[] (rfl : (at1 24) = _)
noncomputable def o487 : Params → Obj := fun _ => ⟨(.type "code"), none, (.fields #[(.str (Str.ofString "law") 636), (.str (Str.ofString "law") 637), (.str (Str.ofString "/claim/cut.py") 638), (.int 242 0), (.int 1 0), (.int 0 0), (.int 0 0), (.int 3 0), (.ref 348), (.bool true), (.int 181 0), (.ref 349), .none, .none, .none, (.ref 350), (.int 639 0), (.int 242 0), (.str (Str.ofString "/claim/cut.py") 640)]), #[]⟩
noncomputable def o488 : Params → Obj := fun _ => fo (sc := ⟨.function, (((Str.ofString "script"), .local) :: ((Str.ofString "cells"), .local) :: ((Str.ofString "hand"), .local) :: ((Str.ofString "areas"), .local) :: ((Str.ofString "made"), .local) :: ((Str.ofString "groups"), .cell) :: ((Str.ofString "values"), .local) :: ((Str.ofString "points"), .local) :: ((Str.ofString "above"), .local) :: ((Str.ofString "fresh"), .local) :: ((Str.ofString "_"), .local) :: ((Str.ofString "deed"), .local) :: ((Str.ofString "trailed"), .local) :: ((Str.ofString "limits"), .local) :: ((Str.ofString "one"), .cell) :: ((Str.ofString "two"), .local) :: ((Str.ofString "left"), .local) :: ((Str.ofString "right"), .local) :: ((Str.ofString "joined"), .cell) :: ((Str.ofString "value"), .local) :: ((Str.ofString "point"), .local) :: ((Str.ofString "end"), .local) :: ((Str.ofString "entry"), .local) :: ((Str.ofString "sum"), .globalImplicit) :: ((Str.ofString "Cells"), .globalImplicit) :: ((Str.ofString "Symbols"), .globalImplicit) :: ((Str.ofString "range"), .globalImplicit) :: ((Str.ofString "min"), .globalImplicit) :: ((Str.ofString "len"), .globalImplicit) :: ((Str.ofString "_law_pick"), .globalImplicit) :: ((Str.ofString "SRF"), .globalImplicit) :: ((Str.ofString "INT"), .globalImplicit) :: ((Str.ofString "list"), .globalImplicit) :: ((Str.ofString "dict"), .globalImplicit) :: ((Str.ofString "_law_sound"), .globalImplicit) :: ((Str.ofString "_law_agree"), .globalImplicit) :: []), false, false, (((Str.ofString "fast"), (.str (Str.ofString "script"))) :: ((Str.ofString "fast"), (.str (Str.ofString "cells"))) :: ((Str.ofString "fast"), (.str (Str.ofString "hand"))) :: ((Str.ofString "fast"), (.str (Str.ofString "areas"))) :: ((Str.ofString "fast"), (.str (Str.ofString "made"))) :: ((Str.ofString "fast"), (.str (Str.ofString "groups"))) :: ((Str.ofString "fast"), (.str (Str.ofString "values"))) :: ((Str.ofString "fast"), (.str (Str.ofString "points"))) :: ((Str.ofString "fast"), (.str (Str.ofString "above"))) :: ((Str.ofString "fast"), (.str (Str.ofString "fresh"))) :: ((Str.ofString "fast"), (.str (Str.ofString "_"))) :: ((Str.ofString "fast"), (.str (Str.ofString "deed"))) :: ((Str.ofString "fast"), (.str (Str.ofString "trailed"))) :: ((Str.ofString "fast"), (.str (Str.ofString "limits"))) :: ((Str.ofString "fast"), (.str (Str.ofString "one"))) :: ((Str.ofString "fast"), (.str (Str.ofString "two"))) :: ((Str.ofString "fast"), (.str (Str.ofString "left"))) :: ((Str.ofString "fast"), (.str (Str.ofString "right"))) :: ((Str.ofString "fast"), (.str (Str.ofString "joined"))) :: ((Str.ofString "fast"), (.str (Str.ofString "group"))) :: ((Str.ofString "fast"), (.str (Str.ofString "value"))) :: ((Str.ofString "fast"), (.str (Str.ofString "point"))) :: ((Str.ofString "fast"), (.str (Str.ofString "end"))) :: ((Str.ofString "fast"), (.str (Str.ofString "entry"))) :: [])⟩) (.type "function") none (Str.ofString "law") 3 [] .none .none .none (.str (Str.ofString "law_no0163_01") 608) none (.ref 351) .none #[] (rfl : (at1 24) = _)
noncomputable def treeA : Params → BT := fun P => (.node (boot_o_0 P) (.node (boot_o_1 P) (.node (boot_o_3 P) (.node (boot_o_7 P) .nil .nil) (.node (o43 P) .nil .nil)) (.node (boot_o_5 P) (.node (boot_o_9 P) .nil .nil) (.node (o45 P) .nil .nil))) (.node (boot_o_2 P) (.node (boot_o_4 P) (.node (boot_o_8 P) .nil .nil) (.node (o44 P) .nil .nil)) (.node (boot_o_6 P) (.node (boot_o_10 P) .nil .nil) (.node (o46 P) .nil .nil))))
noncomputable def treeB : Params → BT := fun P => (.node (boot_o_0 P) (.node (boot_o_1 P) (.node (o72 P) (.node (boot_o_7 P) (.node (o43 P) (.node (o74 P) (.node (o43 P) .nil .nil) .nil) (.node (o87 P) .nil .nil)) (.node (o60 P) (.node (o79 P) .nil .nil) (.node (o44 P) .nil .nil))) (.node (o43 P) (.node (o56 P) (.node (o75 P) (.node (o107 P) .nil .nil) .nil) (.node (o91 P) .nil .nil)) (.node (o64 P) (.node (o44 P) .nil .nil) (.node (o99 P) .nil .nil)))) (.node (boot_o_5 P) (.node (boot_o_9 P) (.node (o54 P) (.node (o70 P) (.node (o105 P) .nil .nil) .nil) (.node (o89 P) .nil .nil)) (.node (o43 P) (.node (o81 P) .nil .nil) (.node (o43 P) .nil .nil))) (.node (o45 P) (.node (o58 P) (.node (o77 P) .nil .nil) (.node (o93 P) .nil .nil)) (.node (o43 P) (.node (o43 P) .nil .nil) (.node (o43 P) .nil .nil))))) (.node (o49 P) (.node (boot_o_4 P) (.node (boot_o_8 P) (.node (o44 P) (.node (o69 P) (.node (o43 P) .nil .nil) .nil) (.node (o88 P) .nil .nil)) (.node (o61 P) (.node (o80 P) .nil .nil) (.node (o43 P) .nil .nil))) (.node (o73 P) (.node (o57 P) (.node (o60 P) .nil .nil) (.node (o92 P) .nil .nil)) (.node (o65 P) (.node (o84 P) .nil .nil) (.node (o100 P) .nil .nil)))) (.node (boot_o_6 P) (.node (boot_o_10 P) (.node (o43 P) (.node (o71 P) (.node (o106 P) .nil .nil) .nil) (.node (o90 P) .nil .nil)) (.node (o44 P) (.node (o43 P) .nil .nil) (.node (o98 P) .nil .nil))) (.node (o46 P) (.node (o59 P) (.node (o43 P) .nil .nil) (.node (o43 P) .nil .nil)) (.node (o67 P) (.node (o86 P) .nil .nil) (.node (o44 P) .nil .nil))))))
noncomputable def treeC : Params → BT := fun P => (.node (boot_o_0 P) (.node (boot_o_1 P) (.node (o201 P) (.node (boot_o_7 P) (.node (o43 P) (.node (o74 P) (.node (o43 P) (.node (o43 P) .nil .nil) .nil) (.node (o137 P) (.node (o43 P) .nil .nil) .nil)) (.node (o87 P) (.node (o121 P) (.node (o185 P) .nil .nil) .nil) (.node (o44 P) (.node (o219 P) .nil .nil) .nil))) (.node (o60 P) (.node (o79 P) (.node (o43 P) (.node (o177 P) .nil .nil) .nil) (.node (o43 P) (.node (o44 P) .nil .nil) .nil)) (.node (o44 P) (.node (o129 P) (.node (o193 P) .nil .nil) .nil) (.node (o161 P) .nil .nil)))) (.node (o43 P) (.node (o56 P) (.node (o75 P) (.node (o107 P) (.node (o43 P) .nil .nil) .nil) (.node (o43 P) (.node (o207 P) .nil .nil) .nil)) (.node (o91 P) (.node (o44 P) (.node (o189 P) .nil .nil) .nil) (.node (o157 P) (.node (o223 P) .nil .nil) .nil))) (.node (o64 P) (.node (o44 P) (.node (o43 P) (.node (o44 P) .nil .nil) .nil) (.node (o149 P) (.node (o215 P) .nil .nil) .nil)) (.node (o99 P) (.node (o133 P) (.node (o197 P) .nil .nil) .nil) (.node (o165 P) .nil .nil))))) (.node (boot_o_5 P) (.node (boot_o_9 P) (.node (o54 P) (.node (o70 P) (.node (o105 P) (.node (o171 P) .nil .nil) .nil) (.node (o44 P) (.node (o205 P) .nil .nil) .nil)) (.node (o89 P) (.node (o123 P) (.node (o43 P) .nil .nil) .nil) (.node (o43 P) (.node (o221 P) .nil .nil) .nil))) (.node (o43 P) (.node (o81 P) (.node (o115 P) (.node (o179 P) .nil .nil) .nil) (.node (o147 P) (.node (o43 P) .nil .nil) .nil)) (.node (o43 P) (.node (o43 P) (.node (o195 P) .nil .nil) .nil) (.node (o163 P) .nil .nil)))) (.node (o45 P) (.node (o58 P) (.node (o77 P) (.node (o60 P) (.node (o175 P) .nil .nil) .nil) (.node (o143 P) (.node (o209 P) .nil .nil) .nil)) (.node (o93 P) (.node (o43 P) (.node (o191 P) .nil .nil) .nil) (.node (o43 P) .nil .nil))) (.node (o43 P) (.node (o43 P) (.node (o119 P) (.node (o43 P) .nil .nil) .nil) (.node (o151 P) (.node (o43 P) .nil .nil) .nil)) (.node (o43 P) (.node (o135 P) (.node (o199 P) .nil .nil) .nil) (.node (o44 P) .nil .nil)))))) (.node (o49 P) (.node (boot_o_4 P) (.node (boot_o_8 P) (.node (o44 P) (.node (o69 P) (.node (o43 P) (.node (o170 P) .nil .nil) .nil) (.node (o43 P) (.node (o44 P) .nil .nil) .nil)) (.node (o88 P) (.node (o122 P) (.node (o186 P) .nil .nil) .nil) (.node (o154 P) (.node (o43 P) .nil .nil) .nil))) (.node (o61 P) (.node (o80 P) (.node (o114 P) (.node (o178 P) .nil .nil) .nil) (.node (o44 P) (.node (o212 P) .nil .nil) .nil)) (.node (o43 P) (.node (o130 P) (.node (o194 P) .nil .nil) .nil) (.node (o43 P) .nil .nil)))) (.node (o202 P) (.node (o57 P) (.node (o60 P) (.node (o43 P) (.node (o44 P) .nil .nil) .nil) (.node (o142 P) (.node (o208 P) .nil .nil) .nil)) (.node (o92 P) (.node (o126 P) (.node (o43 P) .nil .nil) .nil) (.node (o158 P) (.node (o224 P) .nil .nil) .nil))) (.node (o65 P) (.node (o84 P) (.node (o44 P) (.node (o182 P) .nil .nil) .nil) (.node (o150 P) (.node (o216 P) .nil .nil) .nil)) (.node (o100 P) (.node (o43 P) (.node (o198 P) .nil .nil) .nil) (.node (o43 P) .nil .nil))))) (.node (boot_o_6 P) (.node (boot_o_10 P) (.node (o43 P) (.node (o71 P) (.node (o106 P) (.node (o172 P) .nil .nil) .nil) (.node (o140 P) (.node (o43 P) .nil .nil) .nil)) (.node (o90 P) (.node (o43 P) (.node (o44 P) .nil .nil) .nil) (.node (o156 P) (.node (o222 P) .nil .nil) .nil))) (.node (o44 P) (.node (o43 P) (.node (o116 P) (.node (o43 P) .nil .nil) .nil) (.node (o43 P) (.node (o214 P) .nil .nil) .nil)) (.node (o98 P) (.node (o44 P) (.node (o196 P) .nil .nil) .nil) (.node (o164 P) .nil .nil)))) (.node (o46 P) (.node (o59 P) (.node (o43 P) (.node (o112 P) (.node (o43 P) .nil .nil) .nil) (.node (o144 P) (.node (o43 P) .nil .nil) .nil)) (.node (o43 P) (.node (o128 P) (.node (o192 P) .nil .nil) .nil) (.node (o44 P) .nil .nil))) (.node (o67 P) (.node (o86 P) (.node (o43 P) (.node (o184 P) .nil .nil) .nil) (.node (o43 P) (.node (o44 P) .nil .nil) .nil)) (.node (o44 P) (.node (o136 P) (.node (o200 P) .nil .nil) .nil) (.node (o168 P) .nil .nil)))))))
noncomputable def treeD : Params → BT := fun P => (.node (boot_o_0 P) (.node (boot_o_1 P) (.node (o463 P) (.node (boot_o_7 P) (.node (o43 P) (.node (o74 P) (.node (o43 P) (.node (o43 P) (.node (o43 P) .nil .nil) .nil) (.node (o237 P) (.node (o365 P) .nil .nil) .nil)) (.node (o137 P) (.node (o43 P) (.node (o43 P) .nil .nil) .nil) (.node (o269 P) (.node (o487 P) .nil .nil) .nil))) (.node (o87 P) (.node (o121 P) (.node (o185 P) (.node (o317 P) .nil .nil) .nil) (.node (o253 P) (.node (o471 P) .nil .nil) .nil)) (.node (o44 P) (.node (o219 P) (.node (o349 P) .nil .nil) .nil) (.node (o44 P) .nil .nil)))) (.node (o60 P) (.node (o79 P) (.node (o43 P) (.node (o177 P) (.node (o309 P) .nil .nil) .nil) (.node (o43 P) (.node (o373 P) .nil .nil) .nil)) (.node (o43 P) (.node (o44 P) (.node (o44 P) .nil .nil) .nil) (.node (o43 P) .nil .nil))) (.node (o44 P) (.node (o129 P) (.node (o193 P) (.node (o325 P) .nil .nil) .nil) (.node (o261 P) (.node (o43 P) .nil .nil) .nil)) (.node (o161 P) (.node (o229 P) (.node (o43 P) .nil .nil) .nil) (.node (o293 P) .nil .nil))))) (.node (o43 P) (.node (o56 P) (.node (o75 P) (.node (o107 P) (.node (o43 P) (.node (o43 P) .nil .nil) .nil) (.node (o241 P) (.node (o369 P) .nil .nil) .nil)) (.node (o43 P) (.node (o207 P) (.node (o337 P) .nil .nil) .nil) (.node (o43 P) .nil .nil))) (.node (o91 P) (.node (o44 P) (.node (o189 P) (.node (o321 P) .nil .nil) .nil) (.node (o44 P) (.node (o43 P) .nil .nil) .nil)) (.node (o157 P) (.node (o223 P) (.node (o353 P) .nil .nil) .nil) (.node (o289 P) .nil .nil)))) (.node (o64 P) (.node (o44 P) (.node (o43 P) (.node (o44 P) (.node (o44 P) .nil .nil) .nil) (.node (o43 P) (.node (o467 P) .nil .nil) .nil)) (.node (o149 P) (.node (o215 P) (.node (o345 P) .nil .nil) .nil) (.node (o281 P) .nil .nil))) (.node (o99 P) (.node (o133 P) (.node (o197 P) (.node (o43 P) .nil .nil) .nil) (.node (o265 P) (.node (o483 P) .nil .nil) .nil)) (.node (o165 P) (.node (o233 P) (.node (o43 P) .nil .nil) .nil) (.node (o297 P) .nil .nil)))))) (.node (boot_o_5 P) (.node (boot_o_9 P) (.node (o54 P) (.node (o70 P) (.node (o105 P) (.node (o171 P) (.node (o303 P) .nil .nil) .nil) (.node (o239 P) (.node (o367 P) .nil .nil) .nil)) (.node (o44 P) (.node (o205 P) (.node (o335 P) .nil .nil) .nil) (.node (o44 P) .nil .nil))) (.node (o89 P) (.node (o123 P) (.node (o43 P) (.node (o43 P) .nil .nil) .nil) (.node (o255 P) (.node (o44 P) .nil .nil) .nil)) (.node (o43 P) (.node (o221 P) (.node (o351 P) .nil .nil) .nil) (.node (o43 P) .nil .nil)))) (.node (o43 P) (.node (o81 P) (.node (o115 P) (.node (o179 P) (.node (o311 P) .nil .nil) .nil) (.node (o247 P) (.node (o43 P) .nil .nil) .nil)) (.node (o147 P) (.node (o43 P) (.node (o43 P) .nil .nil) .nil) (.node (o279 P) .nil .nil))) (.node (o43 P) (.node (o43 P) (.node (o195 P) (.node (o44 P) .nil .nil) .nil) (.node (o43 P) (.node (o481 P) .nil .nil) .nil)) (.node (o163 P) (.node (o231 P) (.node (o359 P) .nil .nil) .nil) (.node (o295 P) .nil .nil))))) (.node (o45 P) (.node (o58 P) (.node (o77 P) (.node (o60 P) (.node (o175 P) (.node (o307 P) .nil .nil) .nil) (.node (o44 P) (.node (o371 P) .nil .nil) .nil)) (.node (o143 P) (.node (o209 P) (.node (o339 P) .nil .nil) .nil) (.node (o275 P) .nil .nil))) (.node (o93 P) (.node (o43 P) (.node (o191 P) (.node (o323 P) .nil .nil) .nil) (.node (o43 P) (.node (o477 P) .nil .nil) .nil)) (.node (o43 P) (.node (o43 P) (.node (o44 P) .nil .nil) .nil) (.node (o43 P) .nil .nil)))) (.node (o43 P) (.node (o43 P) (.node (o119 P) (.node (o43 P) (.node (o43 P) .nil .nil) .nil) (.node (o251 P) (.node (o469 P) .nil .nil) .nil)) (.node (o151 P) (.node (o43 P) (.node (o43 P) .nil .nil) .nil) (.node (o283 P) .nil .nil))) (.node (o43 P) (.node (o135 P) (.node (o199 P) (.node (o331 P) .nil .nil) .nil) (.node (o267 P) (.node (o44 P) .nil .nil) .nil)) (.node (o44 P) (.node (o43 P) (.node (o363 P) .nil .nil) .nil) (.node (o44 P) .nil .nil))))))) (.node (o49 P) (.node (boot_o_4 P) (.node (boot_o_8 P) (.node (o44 P) (.node (o69 P) (.node (o43 P) (.node (o170 P) (.node (o302 P) .nil .nil) .nil) (.node (o43 P) (.node (o366 P) .nil .nil) .nil)) (.node (o43 P) (.node (o44 P) (.node (o44 P) .nil .nil) .nil) (.node (o43 P) (.node (o488 P) .nil .nil) .nil))) (.node (o88 P) (.node (o122 P) (.node (o186 P) (.node (o318 P) .nil .nil) .nil) (.node (o254 P) (.node (o43 P) .nil .nil) .nil)) (.node (o154 P) (.node (o43 P) (.node (o43 P) .nil .nil) .nil) (.node (o286 P) .nil .nil)))) (.node (o61 P) (.node (o80 P) (.node (o114 P) (.node (o178 P) (.node (o310 P) .nil .nil) .nil) (.node (o246 P) (.node (o374 P) .nil .nil) .nil)) (.node (o44 P) (.node (o212 P) (.node (o342 P) .nil .nil) .nil) (.node (o44 P) .nil .nil))) (.node (o43 P) (.node (o130 P) (.node (o194 P) (.node (o43 P) .nil .nil) .nil) (.node (o262 P) (.node (o44 P) .nil .nil) .nil)) (.node (o43 P) (.node (o43 P) (.node (o358 P) .nil .nil) .nil) (.node (o43 P) .nil .nil))))) (.node (o464 P) (.node (o57 P) (.node (o60 P) (.node (o43 P) (.node (o44 P) (.node (o44 P) .nil .nil) .nil) (.node (o43 P) (.node (o370 P) .nil .nil) .nil)) (.node (o142 P) (.node (o208 P) (.node (o338 P) .nil .nil) .nil) (.node (o274 P) .nil .nil))) (.node (o92 P) (.node (o126 P) (.node (o43 P) (.node (o43 P) .nil .nil) .nil) (.node (o258 P) (.node (o476 P) .nil .nil) .nil)) (.node (o158 P) (.node (o224 P) (.node (o43 P) .nil .nil) .nil) (.node (o290 P) .nil .nil)))) (.node (o65 P) (.node (o84 P) (.node (o44 P) (.node (o182 P) (.node (o314 P) .nil .nil) .nil) (.node (o44 P) (.node (o43 P) .nil .nil) .nil)) (.node (o150 P) (.node (o216 P) (.node (o346 P) .nil .nil) .nil) (.node (o282 P) .nil .nil))) (.node (o100 P) (.node (o43 P) (.node (o198 P) (.node (o330 P) .nil .nil) .nil) (.node (o43 P) (.node (o43 P) .nil .nil) .nil)) (.node (o43 P) (.node (o234 P) (.node (o44 P) .nil .nil) .nil) (.node (o43 P) .nil .nil)))))) (.node (boot_o_6 P) (.node (boot_o_10 P) (.node (o43 P) (.node (o71 P) (.node (o106 P) (.node (o172 P) (.node (o304 P) .nil .nil) .nil) (.node (o240 P) (.node (o368 P) .nil .nil) .nil)) (.node (o140 P) (.node (o43 P) (.node (o43 P) .nil .nil) .nil) (.node (o272 P) .nil .nil))) (.node (o90 P) (.node (o43 P) (.node (o44 P) (.node (o44 P) .nil .nil) .nil) (.node (o43 P) (.node (o474 P) .nil .nil) .nil)) (.node (o156 P) (.node (o222 P) (.node (o352 P) .nil .nil) .nil) (.node (o288 P) .nil .nil)))) (.node (o44 P) (.node (o43 P) (.node (o116 P) (.node (o43 P) (.node (o43 P) .nil .nil) .nil) (.node (o248 P) (.node (o44 P) .nil .nil) .nil)) (.node (o43 P) (.node (o214 P) (.node (o344 P) .nil .nil) .nil) (.node (o43 P) .nil .nil))) (.node (o98 P) (.node (o44 P) (.node (o196 P) (.node (o328 P) .nil .nil) .nil) (.node (o44 P) (.node (o482 P) .nil .nil) .nil)) (.node (o164 P) (.node (o232 P) (.node (o360 P) .nil .nil) .nil) (.node (o296 P) .nil .nil))))) (.node (o46 P) (.node (o59 P) (.node (o43 P) (.node (o112 P) (.node (o43 P) (.node (o43 P) .nil .nil) .nil) (.node (o244 P) (.node (o372 P) .nil .nil) .nil)) (.node (o144 P) (.node (o43 P) (.node (o43 P) .nil .nil) .nil) (.node (o276 P) .nil .nil))) (.node (o43 P) (.node (o128 P) (.node (o192 P) (.node (o324 P) .nil .nil) .nil) (.node (o260 P) (.node (o478 P) .nil .nil) .nil)) (.node (o44 P) (.node (o60 P) (.node (o356 P) .nil .nil) .nil) (.node (o44 P) .nil .nil)))) (.node (o67 P) (.node (o86 P) (.node (o43 P) (.node (o184 P) (.node (o316 P) .nil .nil) .nil) (.node (o43 P) (.node (o470 P) .nil .nil) .nil)) (.node (o43 P) (.node (o44 P) (.node (o44 P) .nil .nil) .nil) (.node (o43 P) .nil .nil))) (.node (o44 P) (.node (o136 P) (.node (o200 P) (.node (o332 P) .nil .nil) .nil) (.node (o268 P) (.node (o486 P) .nil .nil) .nil)) (.node (o168 P) (.node (o44 P) (.node (o43 P) .nil .nil) .nil) (.node (o300 P) .nil .nil))))))))
noncomputable def heapA : Params → Heap := fun P => ⟨⟨boot_o_0 P :: boot_o_1 P :: boot_o_2 P :: boot_o_3 P :: boot_o_4 P :: boot_o_5 P :: boot_o_6 P :: boot_o_7 P :: boot_o_8 P :: boot_o_9 P :: boot_o_10 P :: o43 P :: o44 P :: o45 P :: o46 P :: []⟩, {}⟩
noncomputable def heapD : Params → Heap := fun P => ⟨⟨boot_o_0 P :: boot_o_1 P :: o49 P :: o463 P :: boot_o_4 P :: boot_o_5 P :: boot_o_6 P :: boot_o_7 P :: boot_o_8 P :: boot_o_9 P :: boot_o_10 P :: o43 P :: o464 P :: o45 P :: o46 P :: o43 P :: o44 P :: o54 P :: o43 P :: o56 P :: o57 P :: o58 P :: o59 P :: o60 P :: o61 P :: o43 P :: o44 P :: o64 P :: o65 P :: o43 P :: o67 P :: o74 P :: o69 P :: o70 P :: o71 P :: o75 P :: o60 P :: o77 P :: o43 P :: o79 P :: o80 P :: o81 P :: o43 P :: o44 P :: o84 P :: o43 P :: o86 P :: o87 P :: o88 P :: o89 P :: o90 P :: o91 P :: o92 P :: o93 P :: o43 P :: o44 P :: o43 P :: o43 P :: o98 P :: o99 P :: o100 P :: o43 P :: o44 P :: o43 P :: o43 P :: o105 P :: o106 P :: o107 P :: o43 P :: o60 P :: o112 P :: o43 P :: o114 P :: o115 P :: o116 P :: o43 P :: o44 P :: o119 P :: o43 P :: o121 P :: o122 P :: o123 P :: o43 P :: o44 P :: o126 P :: o43 P :: o128 P :: o129 P :: o130 P :: o43 P :: o44 P :: o133 P :: o43 P :: o135 P :: o136 P :: o137 P :: o43 P :: o44 P :: o140 P :: o43 P :: o142 P :: o143 P :: o144 P :: o43 P :: o44 P :: o147 P :: o43 P :: o149 P :: o150 P :: o151 P :: o43 P :: o44 P :: o154 P :: o43 P :: o156 P :: o157 P :: o158 P :: o43 P :: o44 P :: o161 P :: o43 P :: o163 P :: o164 P :: o165 P :: o43 P :: o44 P :: o168 P :: o43 P :: o170 P :: o171 P :: o172 P :: o43 P :: o44 P :: o175 P :: o43 P :: o177 P :: o178 P :: o179 P :: o43 P :: o44 P :: o182 P :: o43 P :: o184 P :: o185 P :: o186 P :: o43 P :: o44 P :: o189 P :: o43 P :: o191 P :: o192 P :: o193 P :: o194 P :: o195 P :: o196 P :: o197 P :: o198 P :: o199 P :: o200 P :: o43 P :: o44 P :: o205 P :: o43 P :: o207 P :: o208 P :: o209 P :: o43 P :: o44 P :: o212 P :: o43 P :: o214 P :: o215 P :: o216 P :: o43 P :: o44 P :: o219 P :: o43 P :: o221 P :: o222 P :: o223 P :: o224 P :: o43 P :: o60 P :: o229 P :: o43 P :: o231 P :: o232 P :: o233 P :: o234 P :: o43 P :: o44 P :: o237 P :: o43 P :: o239 P :: o240 P :: o241 P :: o43 P :: o44 P :: o244 P :: o43 P :: o246 P :: o247 P :: o248 P :: o43 P :: o44 P :: o251 P :: o43 P :: o253 P :: o254 P :: o255 P :: o43 P :: o44 P :: o258 P :: o43 P :: o260 P :: o261 P :: o262 P :: o43 P :: o44 P :: o265 P :: o43 P :: o267 P :: o268 P :: o269 P :: o43 P :: o44 P :: o272 P :: o43 P :: o274 P :: o275 P :: o276 P :: o43 P :: o44 P :: o279 P :: o43 P :: o281 P :: o282 P :: o283 P :: o43 P :: o44 P :: o286 P :: o43 P :: o288 P :: o289 P :: o290 P :: o43 P :: o44 P :: o293 P :: o43 P :: o295 P :: o296 P :: o297 P :: o43 P :: o44 P :: o300 P :: o43 P :: o302 P :: o303 P :: o304 P :: o43 P :: o44 P :: o307 P :: o43 P :: o309 P :: o310 P :: o311 P :: o43 P :: o44 P :: o314 P :: o43 P :: o316 P :: o317 P :: o318 P :: o43 P :: o44 P :: o321 P :: o43 P :: o323 P :: o324 P :: o325 P :: o43 P :: o44 P :: o328 P :: o43 P :: o330 P :: o331 P :: o332 P :: o43 P :: o44 P :: o335 P :: o43 P :: o337 P :: o338 P :: o339 P :: o43 P :: o44 P :: o342 P :: o43 P :: o344 P :: o345 P :: o346 P :: o43 P :: o44 P :: o349 P :: o43 P :: o351 P :: o352 P :: o353 P :: o43 P :: o44 P :: o356 P :: o43 P :: o358 P :: o359 P :: o360 P :: o43 P :: o44 P :: o363 P :: o43 P :: o365 P :: o366 P :: o367 P :: o368 P :: o369 P :: o370 P :: o371 P :: o372 P :: o373 P :: o374 P :: o43 P :: o44 P :: o467 P :: o43 P :: o469 P :: o470 P :: o471 P :: o43 P :: o44 P :: o474 P :: o43 P :: o476 P :: o477 P :: o478 P :: o43 P :: o44 P :: o481 P :: o482 P :: o483 P :: o43 P :: o44 P :: o486 P :: o487 P :: o488 P :: []⟩, {}⟩
noncomputable def heap_39 : Params → Frag := fun P => (nat_lit 2, o49 P) :: (nat_lit 3, o463 P) :: (nat_lit 15, o43 P) :: (nat_lit 17, o54 P) :: (nat_lit 18, o43 P) :: (nat_lit 20, o57 P) :: (nat_lit 21, o58 P) :: (nat_lit 22, o59 P) :: (nat_lit 29, o43 P) :: (nat_lit 30, o67 P) :: (nat_lit 31, o74 P) :: (nat_lit 32, o69 P) :: (nat_lit 35, o75 P) :: (nat_lit 42, o43 P) :: (nat_lit 44, o84 P) :: (nat_lit 45, o43 P) :: (nat_lit 47, o87 P) :: (nat_lit 48, o88 P) :: (nat_lit 49, o89 P) :: (nat_lit 50, o90 P) :: (nat_lit 51, o91 P) :: (nat_lit 54, o43 P) :: (nat_lit 56, o43 P) :: (nat_lit 57, o43 P) :: (nat_lit 59, o99 P) :: (nat_lit 60, o100 P) :: (nat_lit 61, o43 P) :: (nat_lit 63, o43 P) :: (nat_lit 64, o43 P) :: (nat_lit 66, o106 P) :: (nat_lit 67, o107 P) :: (nat_lit 75, o43 P) :: (nat_lit 77, o119 P) :: (nat_lit 78, o43 P) :: (nat_lit 80, o122 P) :: (nat_lit 81, o123 P) :: (nat_lit 82, o43 P) :: (nat_lit 84, o126 P) :: (nat_lit 85, o43 P) :: (nat_lit 87, o129 P) :: (nat_lit 88, o130 P) :: (nat_lit 89, o43 P) :: (nat_lit 91, o133 P) :: (nat_lit 92, o43 P) :: (nat_lit 94, o136 P) :: (nat_lit 95, o137 P) :: (nat_lit 96, o43 P) :: (nat_lit 98, o140 P) :: (nat_lit 99, o43 P) :: (nat_lit 101, o143 P) :: (nat_lit 102, o144 P) :: (nat_lit 103, o43 P) :: (nat_lit 105, o147 P) :: (nat_lit 106, o43 P) :: (nat_lit 108, o150 P) :: (nat_lit 109, o151 P) :: (nat_lit 110, o43 P) :: (nat_lit 112, o154 P) :: (nat_lit 113, o43 P) :: (nat_lit 115, o157 P) :: (nat_lit 116, o158 P) :: (nat_lit 117, o43 P) :: (nat_lit 119, o161 P) :: (nat_lit 120, o43 P) :: (nat_lit 122, o164 P) :: (nat_lit 123, o165 P) :: (nat_lit 124, o43 P) :: (nat_lit 126, o168 P) :: (nat_lit 127, o43 P) :: (nat_lit 129, o171 P) :: (nat_lit 130, o172 P) :: (nat_lit 131, o43 P) :: (nat_lit 133, o175 P) :: (nat_lit 134, o43 P) :: (nat_lit 136, o178 P) :: (nat_lit 137, o179 P) :: (nat_lit 138, o43 P) :: (nat_lit 140, o182 P) :: (nat_lit 141, o43 P) :: (nat_lit 143, o185 P) :: (nat_lit 144, o186 P) :: (nat_lit 145, o43 P) :: (nat_lit 147, o189 P) :: (nat_lit 148, o43 P) :: (nat_lit 150, o192 P) :: (nat_lit 151, o193 P) :: (nat_lit 152, o194 P) :: (nat_lit 153, o195 P) :: (nat_lit 154, o196 P) :: (nat_lit 155, o197 P) :: (nat_lit 156, o198 P) :: (nat_lit 159, o43 P) :: (nat_lit 161, o205 P) :: (nat_lit 162, o43 P) :: (nat_lit 164, o208 P) :: (nat_lit 165, o209 P) :: (nat_lit 166, o43 P) :: (nat_lit 168, o212 P) :: (nat_lit 169, o43 P) :: (nat_lit 171, o215 P) :: (nat_lit 172, o216 P) :: (nat_lit 173, o43 P) :: (nat_lit 175, o219 P) :: (nat_lit 176, o43 P) :: (nat_lit 178, o222 P) :: (nat_lit 179, o223 P) :: (nat_lit 180, o224 P) :: (nat_lit 188, o234 P) :: (nat_lit 189, o43 P) :: (nat_lit 191, o237 P) :: (nat_lit 192, o43 P) :: (nat_lit 194, o240 P) :: (nat_lit 195, o241 P) :: (nat_lit 196, o43 P) :: (nat_lit 198, o244 P) :: (nat_lit 199, o43 P) :: (nat_lit 201, o247 P) :: (nat_lit 202, o248 P) :: (nat_lit 203, o43 P) :: (nat_lit 205, o251 P) :: (nat_lit 206, o43 P) :: (nat_lit 208, o254 P) :: (nat_lit 209, o255 P) :: (nat_lit 210, o43 P) :: (nat_lit 212, o258 P) :: (nat_lit 213, o43 P) :: (nat_lit 215, o261 P) :: (nat_lit 216, o262 P) :: (nat_lit 217, o43 P) :: (nat_lit 219, o265 P) :: (nat_lit 220, o43 P) :: (nat_lit 222, o268 P) :: (nat_lit 223, o269 P) :: (nat_lit 224, o43 P) :: (nat_lit 226, o272 P) :: (nat_lit 227, o43 P) :: (nat_lit 229, o275 P) :: (nat_lit 230, o276 P) :: (nat_lit 231, o43 P) :: (nat_lit 233, o279 P) :: (nat_lit 234, o43 P) :: (nat_lit 236, o282 P) :: (nat_lit 237, o283 P) :: (nat_lit 238, o43 P) :: (nat_lit 240, o286 P) :: (nat_lit 241, o43 P) :: (nat_lit 243, o289 P) :: (nat_lit 244, o290 P) :: (nat_lit 245, o43 P) :: (nat_lit 247, o293 P) :: (nat_lit 248, o43 P) :: (nat_lit 250, o296 P) :: (nat_lit 251, o297 P) :: (nat_lit 252, o43 P) :: (nat_lit 254, o300 P) :: (nat_lit 255, o43 P) :: (nat_lit 257, o303 P) :: (nat_lit 258, o304 P) :: (nat_lit 259, o43 P) :: (nat_lit 261, o307 P) :: (nat_lit 262, o43 P) :: (nat_lit 264, o310 P) :: (nat_lit 265, o311 P) :: (nat_lit 266, o43 P) :: (nat_lit 268, o314 P) :: (nat_lit 269, o43 P) :: (nat_lit 271, o317 P) :: (nat_lit 272, o318 P) :: (nat_lit 273, o43 P) :: (nat_lit 275, o321 P) :: (nat_lit 276, o43 P) :: (nat_lit 278, o324 P) :: (nat_lit 279, o325 P) :: (nat_lit 280, o43 P) :: (nat_lit 282, o328 P) :: (nat_lit 283, o43 P) :: (nat_lit 285, o331 P) :: (nat_lit 286, o332 P) :: (nat_lit 287, o43 P) :: (nat_lit 289, o335 P) :: (nat_lit 290, o43 P) :: (nat_lit 292, o338 P) :: (nat_lit 293, o339 P) :: (nat_lit 294, o43 P) :: (nat_lit 296, o342 P) :: (nat_lit 297, o43 P) :: (nat_lit 299, o345 P) :: (nat_lit 300, o346 P) :: (nat_lit 301, o43 P) :: (nat_lit 303, o349 P) :: (nat_lit 304, o43 P) :: (nat_lit 306, o352 P) :: (nat_lit 307, o353 P) :: (nat_lit 308, o43 P) :: (nat_lit 310, o356 P) :: (nat_lit 311, o43 P) :: (nat_lit 313, o359 P) :: (nat_lit 314, o360 P) :: (nat_lit 315, o43 P) :: (nat_lit 317, o363 P) :: (nat_lit 318, o43 P) :: (nat_lit 320, o366 P) :: (nat_lit 321, o367 P) :: (nat_lit 322, o368 P) :: (nat_lit 323, o369 P) :: (nat_lit 324, o370 P) :: (nat_lit 325, o371 P) :: (nat_lit 326, o372 P) :: (nat_lit 329, o43 P) :: (nat_lit 331, o467 P) :: (nat_lit 332, o43 P) :: (nat_lit 334, o470 P) :: (nat_lit 335, o471 P) :: (nat_lit 336, o43 P) :: (nat_lit 338, o474 P) :: (nat_lit 339, o43 P) :: (nat_lit 341, o477 P) :: (nat_lit 342, o478 P) :: (nat_lit 343, o43 P) :: (nat_lit 346, o482 P) :: (nat_lit 347, o483 P) :: (nat_lit 348, o43 P) :: (nat_lit 351, o487 P) :: (nat_lit 352, o488 P) :: []
noncomputable def addrs : List Addr := 2 :: 3 :: 15 :: 17 :: 18 :: 20 :: 21 :: 22 :: 29 :: 30 :: 31 :: 32 :: 35 :: 42 :: 44 :: 45 :: 47 :: 48 :: 49 :: 50 :: 51 :: 54 :: 56 :: 57 :: 59 :: 60 :: 61 :: 63 :: 64 :: 66 :: 67 :: 75 :: 77 :: 78 :: 80 :: 81 :: 82 :: 84 :: 85 :: 87 :: 88 :: 89 :: 91 :: 92 :: 94 :: 95 :: 96 :: 98 :: 99 :: 101 :: 102 :: 103 :: 105 :: 106 :: 108 :: 109 :: 110 :: 112 :: 113 :: 115 :: 116 :: 117 :: 119 :: 120 :: 122 :: 123 :: 124 :: 126 :: 127 :: 129 :: 130 :: 131 :: 133 :: 134 :: 136 :: 137 :: 138 :: 140 :: 141 :: 143 :: 144 :: 145 :: 147 :: 148 :: 150 :: 151 :: 152 :: 153 :: 154 :: 155 :: 156 :: 159 :: 161 :: 162 :: 164 :: 165 :: 166 :: 168 :: 169 :: 171 :: 172 :: 173 :: 175 :: 176 :: 178 :: 179 :: 180 :: 188 :: 189 :: 191 :: 192 :: 194 :: 195 :: 196 :: 198 :: 199 :: 201 :: 202 :: 203 :: 205 :: 206 :: 208 :: 209 :: 210 :: 212 :: 213 :: 215 :: 216 :: 217 :: 219 :: 220 :: 222 :: 223 :: 224 :: 226 :: 227 :: 229 :: 230 :: 231 :: 233 :: 234 :: 236 :: 237 :: 238 :: 240 :: 241 :: 243 :: 244 :: 245 :: 247 :: 248 :: 250 :: 251 :: 252 :: 254 :: 255 :: 257 :: 258 :: 259 :: 261 :: 262 :: 264 :: 265 :: 266 :: 268 :: 269 :: 271 :: 272 :: 273 :: 275 :: 276 :: 278 :: 279 :: 280 :: 282 :: 283 :: 285 :: 286 :: 287 :: 289 :: 290 :: 292 :: 293 :: 294 :: 296 :: 297 :: 299 :: 300 :: 301 :: 303 :: 304 :: 306 :: 307 :: 308 :: 310 :: 311 :: 313 :: 314 :: 315 :: 317 :: 318 :: 320 :: 321 :: 322 :: 323 :: 324 :: 325 :: 326 :: 329 :: 331 :: 332 :: 334 :: 335 :: 336 :: 338 :: 339 :: 341 :: 342 :: 343 :: 346 :: 347 :: 348 :: 351 :: 352 :: []
noncomputable def env : Env := { scope := prog.main.scope, locals := mainNs, globals := mainNs, cells := [], code := .ref 13, frame := some 14 }
noncomputable abbrev stmts : List Stmt := prog.main.body
noncomputable abbrev stA : List Stmt := stmts.take 8
noncomputable abbrev stB : List Stmt := (stmts.drop 8).take 11
noncomputable abbrev stC : List Stmt := stmts.drop 19
noncomputable abbrev here : Code := .body stmts env
noncomputable abbrev top0 : List Frame := [topFrame ⟨0, 0, 0, 0⟩]
noncomputable abbrev sT (t : Params → BT) (n k : Nat) (w : World) (os : OsState) : SharedT := { tree := t w.params, n := n, life := {}, gens := ⟨[]⟩, drawn := {}, toks := k, os := os }
noncomputable abbrev sD (w : World) (os : OsState) : Shared := ⟨heapD w.params, ⟨[]⟩, {}, 642, os⟩
theorem pre : ∀ w : World, (fun os => topGo treeTable prog w 11 (some (Value.ref 6)) 12 ⟨boot_heap w.params, ⟨[]⟩, boot_drawn, boot_toks, os⟩ (topStub prog)) =
    fun os => some (⟨heapA w.params, ⟨[]⟩, {}, 187, os⟩, ⟨denote treeTable here, here, ⟨0, 0, 0, 0⟩, top0⟩) := fun w => by kernel_rfl
theorem block : ∀ w : World, (fun os => segRun treeTable prog w 11 (some (Value.ref 6)) 1 1 ⟨heapA w.params, ⟨[]⟩, {}, 187, os⟩ (blockOf stmts env here ⟨0, 0, 0, 0⟩ top0)) =
    fun os => some (Flow.next, (sT treeA 15 187 w os).abs, here, ⟨0, 0, 0, 0⟩) := fun w => by kernel_rfl
theorem quickA : ∀ w : World, (fun os => Fast.tw10110043849684766642 Fast.tw14364793385576792824 prog w 11 (some (Value.ref 6)) 1 554 (sT treeA 15 187 w os) (piecesOf stA env here ⟨0, 0, 0, 0⟩ top0)) =
    fun os => some (Flow.next, sT treeB 68 257 w os, here, ⟨15, 0, 16, 389⟩) := fun w => by kernel_rfl
theorem quickB : ∀ w : World, (fun os => Fast.tw10110043849684766642 Fast.tw14364793385576792824 prog w 11 (some (Value.ref 6)) 1 712 (sT treeB 68 257 w os) (piecesOf stB env here ⟨15, 0, 16, 389⟩ top0)) =
    fun os => some (Flow.next, sT treeC 181 416 w os, here, ⟨86, 0, 86, 4⟩) := fun w => by kernel_rfl
theorem quickC : ∀ w : World, (fun os => Fast.tw10110043849684766642 Fast.tw14364793385576792824 prog w 11 (some (Value.ref 6)) 1 944 (sT treeC 181 416 w os) (piecesOf stC env here ⟨86, 0, 86, 4⟩ top0)) =
    fun os => some (Flow.next, sT treeD 353 642 w os, here, ⟨242, 0, 318, 15⟩) := fun w => by kernel_rfl
theorem slow {w : World} {n : Nat} {s : SharedT} {t : Thread} {r : Option (Flow × SharedT × Code × Pos)}
    (h : Fast.tw10110043849684766642 Fast.tw14364793385576792824 prog w 11 (some (Value.ref 6)) 1 n s t = r) : segRunT treeTable prog w 11 (some (Value.ref 6)) 1 n s t = r := by
  rw [Fast.te10110043849684766642, Fast.te14364793385576792824]; exact h
theorem fin : ∀ w : World, (fun os => topRun treeTable prog w 11 (some (Value.ref 6)) 2 (sT treeD 353 642 w os).abs ⟨doneF .next, here, ⟨242, 0, 318, 15⟩, top0⟩) = fun os => some (sD w os) := fun w => by kernel_rfl
theorem whole : stmts = stA ++ (stB ++ (stC ++ [])) := by kernel_rfl
theorem ran (w : World) (os : OsState) : topRun treeTable prog w 11 (some (Value.ref 6)) (Nat.add 12 (Nat.add 1 (Nat.add 554 (Nat.add 712 (Nat.add 944 2))))) ⟨boot_heap w.params, ⟨[]⟩, boot_drawn, boot_toks, os⟩ (topStub prog) = some (sD w os) := by
  refine go_top (congrFun (pre w) os) (piece_block (congrFun (block w) os) ?_)
  have k := piece_app (rest := []) (segRun_of (slow (congrFun (quickC w) os))) (piece_nil (congrFun (fin w) os))
  have k := piece_app (segRun_of (slow (congrFun (quickB w) os))) k
  have k := piece_app (segRun_of (slow (congrFun (quickA w) os))) k
  exact (congrArg (fun b => topRun treeTable prog w 11 (some (Value.ref 6)) _ _ (restOf b env here _ top0)) whole).trans k
theorem size : ∀ w : World, ((boot_heap w.params).isNs mainGlobals && (⟨[]⟩ : Array GenState).size == 0, (boot_heap w.params).objs.size, (boot_heap w.params).nsMap mainGlobals "__annotations__") = (true, 11, some (Value.ref 6)) := fun w => by kernel_rfl
theorem addrs_eq : ∀ P, addrs = (heap_39 P).map (·.1) := fun _ => by kernel_rfl
noncomputable abbrev hook : Hook := kHook heap_39 addrs addrs_eq
noncomputable abbrev lits : List (Str × WData) := [(Str.ofString "VOID", WData.tuple [WData.int 5, WData.int 0])]
noncomputable abbrev looseN : List Str := [Str.ofString "VOID"]
noncomputable abbrev xt (s : Shared) : Bool := xlAt view_39 lits s && recOk PySem.Challenge.rw_no0163_01.row.toRowW.records s
theorem look1 {ms : List Str} (h : ms = []) : ∀ (w : World), (fun os => (staticsOk ms (boot_heap w.params) (heapD w.params) && namesBound prog (heapD w.params) && gensDone (sD w os) && laidKept (boot_heap w.params) (heapD w.params))) = fun _ => true := by
  subst h
  exact fun w => by kernel_rfl
theorem look2 {ms : List Str} (h : ms = []) : ∀ (w : World), (fun os => openSeen view_39 looseN ms xt true (sD w os)) = fun _ => openGood view_39 looseN := by
  subst h
  exact fun w => by kernel_rfl
theorem look3 : ∀ (w : World), (fun os => hook.obs (sD w os)) = fun _ => hook.val w := fun w => by kernel_rfl
theorem opens : opening prog = plainProg prog.main.scope.names := by kernel_rfl
theorem fenced : ∀ s, fenceModules? prog s = some s := fun s => by kernel_rfl
theorem left : LeftO prog view_39 looseN xt hook.obs hook.val 4540 true :=
  LeftO.of_pieces (H₀ := boot_heap) (H₁ := heapD) (gs₀ := ⟨[]⟩) (gs₁ := ⟨[]⟩) (d₀ := boot_drawn) (d₁ := {}) (k₀ := boot_toks) (k₁ := 642) (m₀ := 11) (ann := some (Value.ref 6))
    (boot_open opens (by decide) fenced) size ran (by decide) fun w => funext fun os => looks_pair (congrFun (look1 (by kernel_rfl) w) os) (looks_pair (congrFun (look2 (by kernel_rfl) w) os) (congrFun (look3 w) os))
theorem said : OpenLaw.wellSaid PySem.Challenge.rw_no0163_01 = true := by
  unfold OpenLaw.wellSaid OpenRow.wellSaid OpenRow.partSaid looksOpen
  repeat' (with_reducible refine look_both ?_ ?_)
  all_goals decide +kernel
end hd
end Mine
end
section
open PySem PySem.W PySem.Calls PyProof.Rows PyProof.V PySem.Spec
namespace Mine

noncomputable abbrev P0 : Program := PySem.Challenge.rw_no0163_01.row.prog
noncomputable abbrev loose0 : List Str := looseW hd.view_39 [Str.ofString "VOID"]
noncomputable abbrev Led := List (Addr × Obj)
noncomputable abbrev Map := Str → Option Value

theorem fillK : PySem.Challenge.rw_no0163_01.prog = PySem.Challenge.rw_no0163_01.prog ∧ (∀ w : World, (hd.heap_39 w.params) = hd.heap_39 w.params) := by
  k_fill
  exact ⟨rfl, fun _ => rfl⟩

theorem Ite_d {c : Prop} [Decidable c] {P Q : Prop} (h1 : c → P) (h2 : ¬ c → Q) : if decide c = true then P else Q := by
  by_cases h : c
  · simp only [h, decide_true, if_true]; exact h1 h
  · simp only [h, decide_false, Bool.false_eq_true, if_false]; exact h2 h
theorem Ite_n {c : Prop} [Decidable c] {P Q : Prop} (h1 : ¬ c → P) (h2 : c → Q) : if (!decide c) = true then P else Q := by
  by_cases h : c
  · simp only [h, decide_true, Bool.not_true, Bool.false_eq_true, if_false]; exact h2 h
  · simp only [h, decide_false, Bool.not_false, if_true]; exact h1 h
theorem Ite_t {P Q : Prop} (h : P) : if true = true then P else Q := by simpa using h
theorem Ite_f {P Q : Prop} (h : Q) : if false = true then P else Q := by simpa using h

theorem and_none {X : Prop} (h : X) : (∀ a, Value.none ≠ .ref a) ∧ X := ⟨fun _ e => (by cases e), h⟩
theorem and_int {X : Prop} {i : Int} {t : Tok} (h : X) : (∀ a, Value.int i t ≠ .ref a) ∧ X := ⟨fun _ e => (by cases e), h⟩
/-- a run of t from the names m and the ledger l ends (nothing is raised) in Φ -/
noncomputable def Tri (w : World) (A : Around) (g : Heap) (L : Addr) {α : Type} (t : Sem α) (m : Map) (l : Led) (Φ : α → Map → Led → Prop) : Prop :=
  ∀ s : Shared, Fr g L s.heap m → News g L s.heap l →
    wpAny (model P0 w) A t (fun a s' => ∃ h' tk' m' l', s' = { s with heap := h', toks := tk' } ∧ Fr g L h' m' ∧ News g L h' l' ∧ Φ a m' l') (fun _ _ => False) s

/-- what is known where a def's body runs -/
structure Ctx (w : World) (n : Nat) (A : Around) (env : Env) (g : Heap) (L : Addr) : Prop where
  below : ∃ A₀ base outer, Below A₀ base outer g ∧ A.frames = some (env :: outer)
  top : ∃ mean mg mb, Top hd.view_39 loose0 mean mg mb g
  fr : env.frame = some L
  loc : env.locals = L
  kind : env.scope.kind = .function
  gen : env.scope.isGenerator = false
  co : env.scope.isCoroutine = false
  bu : env.builtins = builtinsNs
  gl : env.globals = mainGlobals
  X : (hd.heap_39 w.params).In g
  han : A.handled = none
  dep : A.depth + (n + 110) < recursionLimit
  uni : A.units + (8 * n + 200) < cLine

section
variable {w : World} {A : Around} {g : Heap} {L : Addr} {α β : Type} {m : Map} {l : Led} {n : Nat} {env : Env}

theorem Tri.mono {t : Sem α} {Φ Ψ : α → Map → Led → Prop} (h : Tri w A g L t m l Φ) (i : ∀ a m' l', Φ a m' l' → Ψ a m' l') : Tri w A g L t m l Ψ :=
  fun s F N => wpAny_mono (h s F N) (fun a s' ⟨h', tk', m', l', e, F', N', p⟩ => ⟨h', tk', m', l', e, F', N', i _ _ _ p⟩) fun _ _ e => e

/-- the way from a triple on: the library's continuation -/
theorem Tri.go {t : Sem α} {Φ : α → Map → Led → Prop} {Q : α → Shared → Prop} {E : Value → Shared → Prop} {s : Shared} (h : Tri w A g L t m l Φ) (F : Fr g L s.heap m) (N : News g L s.heap l)
    (k : ∀ a h' tk' m' l', Fr g L h' m' → News g L h' l' → Φ a m' l' → Q a { s with heap := h', toks := tk' }) : wpAny (model P0 w) A t Q E s :=
  wpAny_mono (h s F N) (fun a s' ⟨h', tk', m', l', e, F', N', p⟩ => by subst e; exact k _ _ _ _ _ F' N' p) fun _ _ e => e.elim

/-- a nested triple at a later state of the same run -/
theorem Tri.at {t : Sem α} {Φ : α → Map → Led → Prop} {s : Shared} {h' : Heap} {tk' : Nat} (h : Tri w A g L t m l Φ) (F : Fr g L h' m) (N : News g L h' l) :
    wpAny (model P0 w) A t (fun a s' => ∃ h' tk' m' l', s' = { s with heap := h', toks := tk' } ∧ Fr g L h' m' ∧ News g L h' l' ∧ Φ a m' l') (fun _ _ => False) { s with heap := h', toks := tk' } :=
  wpAny_mono (h _ F N) (fun _ _ ⟨a, b, c, d, e, r⟩ => ⟨a, b, c, d, e, r⟩) fun _ _ e => e

theorem Tri.pure {a : α} {Φ : α → Map → Led → Prop} (h : Φ a m l) : Tri w A g L (pure a) m l Φ :=
  fun s F N => wpAny_pure ⟨s.heap, s.toks, m, l, rfl, F, N, h⟩

/-- the facts of the ledger: an address has one object, and is no frame's -/
noncomputable def LFun (L : Addr) (l : Led) : Prop := (∀ a o o', (a, o) ∈ l → (a, o') ∈ l → o = o') ∧ ∀ p ∈ l, p.1 ≠ L
theorem Tri.led {t : Sem α} {Φ : α → Map → Led → Prop} (h : LFun L l → Tri w A g L t m l Φ) : Tri w A g L t m l Φ :=
  fun s F N => h ⟨fun a o o' h1 h2 => Option.some.inj ((N _ h1).1.symm.trans (N _ h2).1), fun p hp => (N p hp).2.1⟩ s F N

/-- less of the ledger -/
theorem Tri.less {t : Sem α} {Φ : α → Map → Led → Prop} {l' : Led} (hs : ∀ p ∈ l', p ∈ l) (h : Tri w A g L t m l' Φ) : Tri w A g L t m l Φ :=
  fun s F N => h s F fun p hp => N p (hs p hp)

-- statements
theorem T_nil {Φ : Flow → Map → Led → Prop} (h : Φ .next m l) : Tri w A g L (execs [] env) m l Φ :=
  fun s F N => wpAny_execs_nil ⟨s.heap, s.toks, m, l, rfl, F, N, h⟩
/-- behind a statement: the rest, or out -/
noncomputable def SeqP (w : World) (A : Around) (g : Heap) (L : Addr) (env : Env) (rest : List Stmt) (Φ : Flow → Map → Led → Prop) (f : Flow) (m : Map) (l : Led) : Prop := match f with
  | .next => Tri w A g L (execs rest env) m l Φ
  | f => Φ f m l
theorem SeqP.next {rest : List Stmt} {Φ : Flow → Map → Led → Prop} (h : Tri w A g L (execs rest env) m l Φ) : SeqP w A g L env rest Φ .next m l := h
theorem SeqP.ret {rest : List Stmt} {v : Value} {Φ : Flow → Map → Led → Prop} (h : Φ (.ret v) m l) : SeqP w A g L env rest Φ (.ret v) m l := h
theorem T_cons {st : Stmt} {rest : List Stmt} {Φ : Flow → Map → Led → Prop}
    (h : Tri w A g L (exec st env) m l (SeqP w A g L env rest Φ)) : Tri w A g L (execs (st :: rest) env) m l Φ :=
  fun s F N => wpAny_execs_cons (h.go F N fun f h' tk' m' l' F' N' p => by
    cases f with
    | next => exact Tri.at (t := execs rest env) p F' N'
    | brk => exact ⟨h', tk', m', l', rfl, F', N', p⟩
    | cont => exact ⟨h', tk', m', l', rfl, F', N', p⟩
    | ret v => exact ⟨h', tk', m', l', rfl, F', N', p⟩)
theorem T_ret {e : Expr} {pos : Pos} {Φ : Flow → Map → Led → Prop} (h : Tri w A g L (eval e env) m l (fun v m' l' => Φ (.ret v) m' l')) : Tri w A g L (exec (.Return (some e) pos) env) m l Φ :=
  fun s F N => wpAny_Return_some (h s F N)
theorem T_ret0 {pos : Pos} {Φ : Flow → Map → Led → Prop} (h : Φ (.ret .none) m l) : Tri w A g L (exec (.Return none pos) env) m l Φ :=
  fun s F N => wpAny_Return_none ⟨s.heap, s.toks, m, l, rfl, F, N, h⟩
theorem T_if {test : Expr} {body orelse : List Stmt} {pos : Pos} {Φ : Flow → Map → Led → Prop}
    (h : Tri w A g L (isTrue test env (eval test env)) m l (fun b m' l' => if b = true then Tri w A g L (execs body env) m' l' Φ else Tri w A g L (execs orelse env) m' l' Φ)) :
    Tri w A g L (exec (.If test body orelse pos) env) m l Φ :=
  fun s F N => wpAny_If (h.go F N fun b h' tk' m' l' F' N' p => by
    cases b with
    | true => simp only [if_true] at p ⊢; exact p.at F' N'
    | false => simp only [Bool.false_eq_true, if_false] at p ⊢; exact p.at F' N')
theorem T_expr {e : Expr} {pos : Pos} {Φ : Flow → Map → Led → Prop} (h : Tri w A g L (eval e env) m l (fun v m' l' => (∀ a, v ≠ .ref a) ∧ Φ .next m' l'))
    (hi : interactive env = false := by rfl) (hs : swapsWith e none pos.line env = pure false := by rfl) : Tri w A g L (exec (.Expr e pos) env) m l Φ :=
  fun s F N => wpAny_Expr (hi := hi) (hs := hs) (h.go F N fun v h' tk' m' l' F' N' p => by
    cases v with
    | ref a => exact absurd rfl (p.1 a)
    | _ => exact ⟨h', tk', m', l', rfl, F', N', p.2⟩)
theorem T_assign {x : Str} {pos' pos : Pos} {e : Expr} {Φ : Flow → Map → Led → Prop} (h : Tri w A g L (eval e env) m l (fun v m' l' => Tri w A g L (storeName env x v) m' l' (fun _ m' l' => Φ .next m' l')))
    (hs : swapsWith e (some (.Name x pos')) pos.line env = pure false := by rfl) : Tri w A g L (exec (.Assign [.Name x pos'] e pos) env) m l Φ :=
  fun s F N => wpAny_Assign_Name (hs := hs) (h.go F N fun v h' tk' m' l' F' N' p => p.at F' N')
theorem T_assignS {o i : Expr} {pos' pos : Pos} {e : Expr} {Φ : Flow → Map → Led → Prop}
    (h : Tri w A g L (eval e env) m l (fun v m l => Tri w A g L (eval o env) m l (fun ov m l => Tri w A g L (eval i env) m l (fun iv m l => Tri w A g L (setItem ov iv v) m l (fun _ m l => Φ .next m l)))))
    (hs : swapsWith e (some (.Subscript o i pos')) pos.line env = pure false := by rfl) : Tri w A g L (exec (.Assign [.Subscript o i pos'] e pos) env) m l Φ :=
  fun s F N => wpAny_Assign_Subscript (hs := hs) (h.go F N fun v h' tk' m' l' F' N' p => wpAny_mono (p.at F' N') (fun ov s₂ ⟨h₂, tk₂, m₂, l₂, e₂, F₂, N₂, p₂⟩ => by
    subst e₂
    exact wpAny_mono (p₂.at F₂ N₂) (fun iv s₃ ⟨h₃, tk₃, m₃, l₃, e₃, F₃, N₃, p₃⟩ => by subst e₃; exact p₃.at F₃ N₃) fun _ _ x => x) fun _ _ x => x)
theorem T_assignA {o : Expr} {attr : Str} {pos' pos : Pos} {e : Expr} {Φ : Flow → Map → Led → Prop}
    (h : Tri w A g L (eval e env) m l (fun v m l => Tri w A g L (eval o env) m l (fun ov m l => Tri w A g L (setAttr ov attr v) m l (fun _ m l => Φ .next m l))))
    (hs : swapsWith e (some (.Attribute o attr pos')) pos.line env = pure false := by rfl) : Tri w A g L (exec (.Assign [.Attribute o attr pos'] e pos) env) m l Φ :=
  fun s F N => plainObj_wpAny_Assign_Attribute (hs := hs) (h.go F N fun v h' tk' m' l' F' N' p => wpAny_mono (p.at F' N') (fun ov s₂ ⟨h₂, tk₂, m₂, l₂, e₂, F₂, N₂, p₂⟩ => by
    subst e₂; exact p₂.at F₂ N₂) fun _ _ x => x)
theorem T_aug {x : Str} {op : Operator} {pos' pos : Pos} {e : Expr} {Φ : Flow → Map → Led → Prop}
    (h : Tri w A g L (loadName env x) m l (fun a m l => Tri w A g L (eval e env) m l (fun b m l => Tri w A g L (inplaceOp op a b) m l (fun c m l => Tri w A g L (storeName env x c) m l (fun _ m l => Φ .next m l))))) :
    Tri w A g L (exec (.AugAssign (.Name x pos') op e pos) env) m l Φ :=
  fun s F N => wpAny_AugAssign_Name (h.go F N fun v h' tk' m' l' F' N' p => wpAny_mono (p.at F' N') (fun ov s₂ ⟨h₂, tk₂, m₂, l₂, e₂, F₂, N₂, p₂⟩ => by
    subst e₂
    exact wpAny_mono (p₂.at F₂ N₂) (fun iv s₃ ⟨h₃, tk₃, m₃, l₃, e₃, F₃, N₃, p₃⟩ => by subst e₃; exact p₃.at F₃ N₃) fun _ _ x => x) fun _ _ x => x)

-- tests
theorem T_cmpI {a : Expr} {op : CmpOp} {b : Expr} {pos : Pos} {whole : Sem Value} {Φ : Bool → Map → Led → Prop}
    (h : Tri w A g L (eval a env) m l (fun x m l => Tri w A g L (eval b env) m l (fun y m l => Tri w A g L (compareOp op x y) m l (fun c m l => Tri w A g L (truthy c) m l Φ))))
    (hm : behindInMarks op b = false := by with_unfolding_all rfl) : Tri w A g L (isTrue (.Compare a [op] [b] pos) env whole) m l Φ :=
  fun s F N => wpAny_isTrue_Compare1 (hm := hm) (h.go F N fun v h' tk' m' l' F' N' p => wpAny_mono (p.at F' N') (fun ov s₂ ⟨h₂, tk₂, m₂, l₂, e₂, F₂, N₂, p₂⟩ => by
    subst e₂
    exact wpAny_mono (p₂.at F₂ N₂) (fun iv s₃ ⟨h₃, tk₃, m₃, l₃, e₃, F₃, N₃, p₃⟩ => by subst e₃; exact p₃.at F₃ N₃) fun _ _ x => x) fun _ _ x => x)
theorem T_cmp {a : Expr} {op : CmpOp} {b : Expr} {pos : Pos} {Φ : Value → Map → Led → Prop}
    (h : Tri w A g L (eval a env) m l (fun x m l => Tri w A g L (eval b env) m l (fun y m l => Tri w A g L (compareOp op x y) m l Φ)))
    (hm : behindInMarks op b = false := by with_unfolding_all rfl) : Tri w A g L (eval (.Compare a [op] [b] pos) env) m l Φ :=
  fun s F N => wpAny_Compare1 (hm := hm) (h.go F N fun v h' tk' m' l' F' N' p => wpAny_mono (p.at F' N') (fun ov s₂ ⟨h₂, tk₂, m₂, l₂, e₂, F₂, N₂, p₂⟩ => by
    subst e₂; exact p₂.at F₂ N₂) fun _ _ x => x)
theorem T_notI {x : Expr} {pos : Pos} {whole : Sem Value} {Φ : Bool → Map → Led → Prop} (h : Tri w A g L (isTrue x env (eval x env)) m l (fun c m l => Φ (!c) m l)) : Tri w A g L (isTrue (.UnaryOp .Not x pos) env whole) m l Φ :=
  fun s F N => isTrue_not (h s F N)
theorem T_and0 {pos : Pos} {whole : Sem Value} {Φ : Bool → Map → Led → Prop} (h : Φ true m l) : Tri w A g L (isTrue (.BoolOp .And [] pos) env whole) m l Φ :=
  fun s F N => isTrue_and_nil ⟨s.heap, s.toks, m, l, rfl, F, N, h⟩
theorem T_or0 {pos : Pos} {whole : Sem Value} {Φ : Bool → Map → Led → Prop} (h : Φ false m l) : Tri w A g L (isTrue (.BoolOp .Or [] pos) env whole) m l Φ :=
  fun s F N => isTrue_or_nil ⟨s.heap, s.toks, m, l, rfl, F, N, h⟩
theorem T_and {x : Expr} {rest : List Expr} {pos : Pos} {whole : Sem Value} {Φ : Bool → Map → Led → Prop}
    (h : Tri w A g L (isTrue x env (eval x env)) m l (fun c m l => if c = true then Tri w A g L (isTrue (.BoolOp .And rest pos) env whole) m l Φ else Φ false m l)) : Tri w A g L (isTrue (.BoolOp .And (x :: rest) pos) env whole) m l Φ :=
  fun s F N => isTrue_and (h.go F N fun b h' tk' m' l' F' N' p => by
    cases b with
    | true => simp only [if_true] at p ⊢; exact p.at F' N'
    | false => simp only [Bool.false_eq_true, if_false] at p ⊢; exact ⟨h', tk', m', l', rfl, F', N', p⟩)
theorem T_or {x : Expr} {rest : List Expr} {pos : Pos} {whole : Sem Value} {Φ : Bool → Map → Led → Prop}
    (h : Tri w A g L (isTrue x env (eval x env)) m l (fun c m l => if c = true then Φ true m l else Tri w A g L (isTrue (.BoolOp .Or rest pos) env whole) m l Φ)) : Tri w A g L (isTrue (.BoolOp .Or (x :: rest) pos) env whole) m l Φ :=
  fun s F N => isTrue_or (h.go F N fun b h' tk' m' l' F' N' p => by
    cases b with
    | true => simp only [if_true] at p ⊢; exact ⟨h', tk', m', l', rfl, F', N', p⟩
    | false => simp only [Bool.false_eq_true, if_false] at p ⊢; exact p.at F' N')
theorem T_plainI {e : Expr} {whole : Sem Value} {Φ : Bool → Map → Led → Prop} (h : Tri w A g L whole m l (fun v m l => Tri w A g L (truthy v) m l Φ))
    (he : isTrue e env whole = (do let v ← whole; standAt e.pos; holding [v] (truthy v)) := by rfl) : Tri w A g L (isTrue e env whole) m l Φ :=
  fun s F N => isTrue_plain (he := he) (h.go F N fun v h' tk' m' l' F' N' p => p.at F' N')
theorem T_truthyB {b : Bool} {Φ : Bool → Map → Led → Prop} (h : Φ b m l) : Tri w A g L (truthy (.bool b)) m l Φ :=
  fun s F N => wpAny_truthy_bool ⟨s.heap, s.toks, m, l, rfl, F, N, h⟩

-- expressions
theorem T_int {i : Int} {k : Nat} {pos : Pos} {Φ : Value → Map → Led → Prop} (h : ∀ t, Φ (.int i t) m l) : Tri w A g L (eval (.Constant (.int i) k pos) env) m l Φ :=
  fun s F N => wpAny_Constant_int ⟨s.heap, _, m, l, rfl, F, N, h _⟩
theorem T_true {b : Bool} {k : Nat} {pos : Pos} {Φ : Value → Map → Led → Prop} (h : Φ (.bool b) m l) : Tri w A g L (eval (.Constant (.bool b) k pos) env) m l Φ :=
  fun s F N => (fun _ _ _ => ⟨s.heap, s.toks, m, l, rfl, F, N, h⟩)
theorem T_str {x : Str} {k : Nat} {pos : Pos} {Φ : Value → Map → Led → Prop} (h : ∀ t, Φ (.str x t) m l) : Tri w A g L (eval (.Constant (.str x) k pos) env) m l Φ :=
  fun s F N => Calls.Constant_str ⟨s.heap, _, m, l, rfl, F, N, h _⟩
theorem T_bin {a : Expr} {op : Operator} {b : Expr} {pos : Pos} {Φ : Value → Map → Led → Prop}
    (h : Tri w A g L (eval a env) m l (fun x m l => Tri w A g L (eval b env) m l (fun y m l => Tri w A g L (binaryOp op x y) m l Φ))) : Tri w A g L (eval (.BinOp a op b pos) env) m l Φ :=
  fun s F N => wpAny_BinOp (h.go F N fun v h' tk' m' l' F' N' p => wpAny_mono (p.at F' N') (fun ov s₂ ⟨h₂, tk₂, m₂, l₂, e₂, F₂, N₂, p₂⟩ => by
    subst e₂; exact p₂.at F₂ N₂) fun _ _ x => x)
theorem T_un {op : UnaryOp} {x : Expr} {pos : Pos} {Φ : Value → Map → Led → Prop} (h : Tri w A g L (eval x env) m l (fun v m l => Tri w A g L (unaryOp op v) m l Φ)) : Tri w A g L (eval (.UnaryOp op x pos) env) m l Φ :=
  fun s F N => UnaryOp_ (h.go F N fun v h' tk' m' l' F' N' p => p.at F' N')
theorem T_ifexp {test body orelse : Expr} {pos : Pos} {Φ : Value → Map → Led → Prop}
    (h : Tri w A g L (isTrue test env (eval test env)) m l (fun b m' l' => if b = true then Tri w A g L (eval body env) m' l' Φ else Tri w A g L (eval orelse env) m' l' Φ)) :
    Tri w A g L (eval (.IfExp test body orelse pos) env) m l Φ :=
  fun s F N => IfExp_ (h.go F N fun b h' tk' m' l' F' N' p => by
    cases b with
    | true => simp only [if_true] at p ⊢; exact p.at F' N'
    | false => simp only [Bool.false_eq_true, if_false] at p ⊢; exact p.at F' N')
theorem T_sub {value slice : Expr} {pos : Pos} {Φ : Value → Map → Led → Prop}
    (h : Tri w A g L (eval value env) m l (fun o m l => Tri w A g L (eval slice env) m l (fun i m l => Tri w A g L (subscriptTail value slice o i) m l Φ))) : Tri w A g L (eval (.Subscript value slice pos) env) m l Φ :=
  fun s F N => Subscript_ (h.go F N fun v h' tk' m' l' F' N' p => wpAny_mono (p.at F' N') (fun ov s₂ ⟨h₂, tk₂, m₂, l₂, e₂, F₂, N₂, p₂⟩ => by
    subst e₂; exact p₂.at F₂ N₂) fun _ _ x => x)
theorem T_attr {value : Expr} {attr : Str} {pos : Pos} {Φ : Value → Map → Led → Prop} (h : Tri w A g L (eval value env) m l (fun o m l => Tri w A g L (getAttr o attr true) m l Φ))
    (he : eval (.Attribute value attr pos) env = (do
      let o ← eval value env
      standAt pos.atName
      let r ← holding [o] (getAttr o attr true)
      letTemporaryGo value o r
      Pure.pure r) := by with_unfolding_all rfl) : Tri w A g L (eval (.Attribute value attr pos) env) m l Φ :=
  fun s F N => Attribute_any_ (he := he) (h.go F N fun v h' tk' m' l' F' N' p => p.at F' N')
theorem T_call {func : Expr} {args : List Expr} {pos : Pos} {Φ : Value → Map → Led → Prop}
    (h : Tri w A g L (eval func env) m l (fun f m l => Tri w A g L (callWith pos f [] (backTo pos (starEach args env)) []) m l Φ))
    (he : eval (.Call func args [] pos) env = (do callWith pos (← eval func env) [] (backTo pos (starEach args env)) (backToKw pos (keywordEach [] env))) := by rfl) :
    Tri w A g L (eval (.Call func args [] pos) env) m l Φ :=
  fun s F N => Call_ (he := he) (h.go F N fun v h' tk' m' l' F' N' p => p.at F' N')
theorem T_items0 {pos : Pos} {Φ : List Value → Map → Led → Prop} (h : Φ [] m l) : Tri w A g L (spliced (backTo pos (starEach [] env))) m l Φ :=
  fun s F N => spliced_none ⟨s.heap, s.toks, m, l, rfl, F, N, h⟩
theorem T_items {e : Expr} {rest : List Expr} {pos : Pos} {Φ : List Value → Map → Led → Prop}
    (h : Tri w A g L (eval e env) m l (fun v m l => Tri w A g L (spliced (backTo pos (starEach rest env))) m l (fun vs m l => Φ (v :: vs) m l)))
    (he : starEach (e :: rest) env = (false, eval e env) :: starEach rest env := by rfl) : Tri w A g L (spliced (backTo pos (starEach (e :: rest) env))) m l Φ :=
  fun s F N => spliced_more (he := he) (h.go F N fun v h' tk' m' l' F' N' p => wpAny_mono (p.at F' N') (fun vs s₂ z => z) fun _ _ x => x)

-- names
theorem T_name {x : Str} {pos : Pos} {v : Value} {Φ : Value → Map → Led → Prop} (C : Ctx w n A env g L) (hv : m x = some v) (h : Φ v m l) (hl : env.kindOf x = some .local := by rfl)
    (hd : (x == ("__debug__" : Str)) = false := by decide) : Tri w A g L (eval (.Name x pos) env) m l Φ :=
  fun s F N => wpAny_Name (wpAny_loadName_local C.kind hl (by rw [C.loc]; exact F.ns) hv ⟨s.heap, s.toks, m, l, rfl, F, N, h⟩) hd
theorem T_nameL {x : Str} {v : Value} {Φ : Value → Map → Led → Prop} (C : Ctx w n A env g L) (hv : m x = some v) (h : Φ v m l) (hl : env.kindOf x = some .local := by rfl) : Tri w A g L (loadName env x) m l Φ :=
  fun s F N => wpAny_loadName_local C.kind hl (by rw [C.loc]; exact F.ns) hv ⟨s.heap, s.toks, m, l, rfl, F, N, h⟩
theorem T_nameC {x : Str} {pos : Pos} {v : Value} {c : Addr} {o : Obj} {Φ : Value → Map → Led → Prop} (C : Ctx w n A env g L) (hc : env.cells.lookup x = some c) (hm : (c, o) ∈ l) (hd : o.data = .cell (some v)) (h : Φ v m l)
    (hx : env.kindOf x = some .cell := by rfl) (hb : (x == ("__debug__" : Str)) = false := by decide) : Tri w A g L (eval (.Name x pos) env) m l Φ :=
  fun s F N => wpAny_Name (wpAny_loadName_cell C.kind hx hc ⟨o, N.get hm, hd⟩ ⟨s.heap, s.toks, m, l, rfl, F, N, h⟩) hb
theorem T_nameK {x : Str} {pos : Pos} {v : Value} {Φ : Value → Map → Led → Prop} (C : Ctx w n A env g L) (e : nsIn (hd.heap_39 w.params) mainGlobals x = some (some v)) (h : Φ v m l)
    (hx : env.kindOf x = some .globalImplicit := by rfl) (hd : (x == ("__debug__" : Str)) = false := by decide) : Tri w A g L (eval (.Name x pos) env) m l Φ :=
  fun s F N => by
    obtain ⟨mean, mg, mb, T⟩ := C.top
    exact Name_function_global C.kind hx (loadGlobal_global (env := env) (mg := mg) (by rw [C.gl]; exact T.g.keeps F.keep) (mg_of C.X T.g e) ⟨s.heap, s.toks, m, l, rfl, F, N, h⟩) hd
theorem T_nameB {x : Str} {pos : Pos} {v : Value} {Φ : Value → Map → Led → Prop} (C : Ctx w n A env g L) (e : nsIn (hd.heap_39 w.params) mainGlobals x = some none) (hv : bootBuiltins x = some v) (hn : x ≠ "__name__") (h : Φ v m l)
    (hx : env.kindOf x = some .globalImplicit := by rfl) (hd : (x == ("__debug__" : Str)) = false := by decide) : Tri w A g L (eval (.Name x pos) env) m l Φ :=
  fun s F N => by
    obtain ⟨mean, mg, mb, T⟩ := C.top
    exact Name_function_global C.kind hx (loadGlobal_builtin (env := env) (mg := mg) (mb := mb) (by rw [C.gl]; exact T.g.keeps F.keep) (mg_none_of C.X T.g e) (by rw [C.bu]; exact T.b.keeps F.keep) ((T.builtins x hn).trans hv) ⟨s.heap, s.toks, m, l, rfl, F, N, h⟩) hd
theorem T_store {x : Str} {v : Value} {Φ : Unit → Map → Led → Prop} (C : Ctx w n A env g L) (h : Φ () (fun y => if y = x then some v else m y) l) (hl : env.kindOf x = some .local := by rfl) : Tri w A g L (storeName env x v) m l Φ :=
  fun s F N => wpAny_storeName_local hl (by rw [C.loc]; exact F.ns) (fun h' hn hs => ⟨h', _, _, l, rfl, F.set (by rw [C.loc] at hn; exact hn) (by rw [C.loc] at hs; exact hs), N.set (by rw [C.loc] at hs; exact hs), h⟩)
    (by rw [C.kind]; rfl)
end
end Mine
end
section
open PySem PySem.W PySem.Calls PyProof.Rows PyProof.V PySem.Spec
namespace Mine

/-- the end of a def's body -/
noncomputable def RetP (Post : Value → Led → Prop) (fl : Flow) (_ : Map) (l : Led) : Prop := Post (match fl with | .ret v => v | _ => .none) l
theorem RetP.ret {Post : Value → Led → Prop} {v : Value} {m : Map} {l : Led} (h : Post v l) : RetP Post (.ret v) m l := h
theorem RetP.next {Post : Value → Led → Prop} {m : Map} {l : Led} (h : Post .none l) : RetP Post .next m l := h
/-- what a call of the def at f does: all contexts -/
noncomputable def Spec (w : World) (f : Addr) (n : Nat) (args : List Value) (l : Led) (Post : Value → Led → Prop) : Prop :=
  ∀ (A : Around) (env : Env) (g : Heap) (L : Addr) (m : Map) (s : Shared), Ctx w n A env g L → Fr g L s.heap m → News g L s.heap l →
    codeAny (model P0 w) A (.call (.ref f) ⟨args, []⟩) (fun r s' => match r with
      | .ok (.ret v) => ∃ h' tk' l', s' = { s with heap := h', toks := tk' } ∧ Fr g L h' m ∧ News g L h' l' ∧ Post v l'
      | _ => False) s

section
variable {w : World} {A : Around} {g : Heap} {L : Addr} {α β : Type} {m : Map} {l : Led} {n : Nat} {env : Env}

theorem Ctx.down {k : Nat} (C : Ctx w n A env g L) (h : k ≤ n) : Ctx w k A env g L :=
  { C with dep := by have := C.dep; omega, uni := by have := C.uni; omega }
theorem Ctx.units1 {A' : Around} (C : Ctx w (n + 1) A env g L) (hd : A'.depth ≤ A.depth + 1) (hu : A'.units ≤ A.units + 4) (hf : A'.frames = A.frames) (hh : A'.handled = A.handled) : Ctx w n A' env g L :=
  { C with below := by rw [hf]; exact C.below, han := hh.trans C.han, dep := by have := C.dep; omega, uni := by have := C.uni; omega }

theorem enter {f : Addr} {name qual : Str} {params : Arguments} {body : List Stmt} {scope : Scope} {dV kV doc pm cdv ct oc : Value} {an od : Option Addr} {osl : Array (Option Value)} {args : List Value} {Post : Value → Led → Prop}
    (ho : (hd.heap_39 w.params).lookup f = some ⟨oc, od, .func (fnOf name qual params body scope dV kV doc pm an cdv ct), osl⟩) (hcd : codeIn (hd.heap_39 w.params) cdv qual = true) (binds : List (Str × Value))
    (hbind : bindArgs (fnOf name qual params body scope dV kV doc pm an cdv ct) ⟨args, []⟩ = pure binds) (hloc : ∀ y ∈ binds, scope.names.lookup y.1 = some .local)
    (h : ∀ A' env' g' L', env' = envOf qual scope L' f cdv → Ctx w n A' env' g' L' → Tri w A' g' L' (execs body env') (fun y => binds.reverse.lookup y) l (RetP Post))
    (hco : scope.isCoroutine = false) (hgen : scope.isGenerator = false) (hk : scope.kind = .function) (hcell : ∀ x ∈ scope.names, x.2 ≠ .cell) : Spec w f (n + 1) args l Post := by
  intro A env g L m s C F N
  obtain ⟨A₀, base, outer, B, hA⟩ := C.below
  obtain ⟨mean, mg, mb, T⟩ := C.top
  refine code_def B F C.X N T hA C.fr C.kind ho hcd (by have := C.dep; omega) (BindsTo.of_eq hbind) hloc ?_ hco hgen hk hcell
  intro g' L' h₁ FG F' N' B' X' T'
  have C' : Ctx w n (A.deeper (envOf qual scope L' f cdv)) (envOf qual scope L' f cdv) g' L' := {
    below := ⟨A, base, _, B', Around.frames_deeper hA⟩
    top := ⟨mean, mg, mb, T'⟩
    fr := rfl
    loc := rfl
    kind := hk
    gen := hgen
    co := hco
    bu := rfl
    gl := rfl
    X := X'
    han := C.han
    dep := by have := C.dep; show A.depth + 1 + _ < _; omega
    uni := by have := C.uni; show A.units + 3 + _ < _; omega }
  refine (h _ _ g' L' rfl C').go F' N' fun fl h' tk' m' l' F'' N'' p => ?_
  refine leaveK_ F'' N'' fun kF kN => ?_
  exact ⟨h', tk', l', rfl, kF, kN, p⟩

theorem T_spec {f : Addr} {args : List Value} {Post : Value → Led → Prop} {Φ : Value → Map → Led → Prop} (C : Ctx w n A env g L) (S : Spec w f n args l Post) (h : ∀ r l', Post r l' → Φ r m l') : Tri w A g L (call (.ref f) args) m l Φ :=
  fun s F N => wpAny_call (codeAny_mono (S A env g L m s C F N) fun r s' p => by
    match r, p with
    | .ok (.ret v), ⟨h', tk', l', e, F', N', q⟩ => exact ⟨h', tk', m, l', e, F', N', h _ _ q⟩)

-- calls
theorem T_callK {env' : Env} {f : Value} {e : Expr} {rest : List Expr} {pos : Pos} {first : List Value} {Φ : Value → Map → Led → Prop} (C : Ctx w n A env' g L) (hk : keepIn (hd.heap_39 w.params) f = true)
    (h : Tri w A g L (spliced (backTo pos (starEach (e :: rest) env))) m l (fun vs m l => Tri w A g L (call f (first ++ vs)) m l Φ))
    (he : starEach (e :: rest) env = (false, eval e env) :: starEach rest env := by rfl) (hplain : (backTo pos (starEach rest env)).any (·.1) = false := by rfl) :
    Tri w A g L (callWith pos f first (backTo pos (starEach (e :: rest) env)) []) m l Φ :=
  fun s F N => callWith_K (he := he) (hplain := hplain) C.X hk (h.go F N fun vs h' tk' m' l' F' N' p => ⟨C.X.keeps F'.keep, p.at F' N'⟩)
theorem T_callK0 {env' : Env} {f : Value} {pos : Pos} {first : List Value} {Φ : Value → Map → Led → Prop} (C : Ctx w n A env' g L) (hk : keepIn (hd.heap_39 w.params) f = true)
    (h : Tri w A g L (call f (first ++ [])) m l Φ) : Tri w A g L (callWith pos f first (backTo pos (starEach [] env)) []) m l Φ :=
  fun s F N => callWith_K0 (C.X.keeps F.keep) hk (h s F N)
theorem T_callB {id : String} {e : Expr} {rest : List Expr} {pos : Pos} {first : List Value} {Φ : Value → Map → Led → Prop}
    (h : Tri w A g L (spliced (backTo pos (starEach (e :: rest) env))) m l (fun vs m l => Tri w A g L (call (.builtin id) (first ++ vs)) m l Φ))
    (he : starEach (e :: rest) env = (false, eval e env) :: starEach rest env := by rfl) (hplain : (backTo pos (starEach rest env)).any (·.1) = false := by rfl) :
    Tri w A g L (callWith pos (.builtin id) first (backTo pos (starEach (e :: rest) env)) []) m l Φ := fun s F N => by
  have h1 := h
  rw [he] at h1 ⊢
  exact Calls.callWith_builtin (by show (false || (backTo pos (starEach rest env)).any (·.1)) = false; rw [hplain]; rfl) (evalArgs_plain (h1.go F N fun vs h' tk' m' l' F' N' p => p.at F' N'))
theorem T_callB0 {id : String} {pos : Pos} {first : List Value} {Φ : Value → Map → Led → Prop}
    (h : Tri w A g L (call (.builtin id) (first ++ [])) m l Φ) : Tri w A g L (callWith pos (.builtin id) first (backTo pos (starEach [] env)) []) m l Φ :=
  fun s F N => Calls.callWith_builtin rfl (evalArgs_nil3 (h s F N))
theorem T_callT {T : String} {e : Expr} {rest : List Expr} {pos : Pos} {Φ : Value → Map → Led → Prop}
    (h : Tri w A g L (spliced (backTo pos (starEach (e :: rest) env))) m l (fun vs m l => Tri w A g L (call (.type T) vs) m l Φ))
    (he : starEach (e :: rest) env = (false, eval e env) :: starEach rest env := by rfl) (hplain : (backTo pos (starEach rest env)).any (·.1) = false := by rfl) :
    Tri w A g L (callWith pos (.type T) [] (backTo pos (starEach (e :: rest) env)) []) m l Φ :=
  fun s F N => PyProof.Rows.callWith_type1 (he := he) (hplain := hplain) (h.go F N fun vs h' tk' m' l' F' N' p => p.at F' N')
theorem T_meth {o : Expr} {name : Str} {apos pos : Pos} {args : List Expr} {pl : Sem Bool} {Φ : Value → Map → Led → Prop}
    (h : Tri w A g L (eval o env) m l (fun ov m l => Tri w A g L (getMethod ov name pl) m l (fun fx m l => Tri w A g L (callWith pos fx.1 fx.2 (backTo pos (starEach args env)) []) m l Φ)))
    (he : eval (.Call (.Attribute o name apos) args [] pos) env = (do
      let ov ← eval o env
      standAt apos.atName
      let (f, first) ← holding [ov] (getMethod ov name pl)
      callWith pos f first (backTo pos (starEach args env)) (backToKw pos (keywordEach [] env))) := by rfl) :
    Tri w A g L (eval (.Call (.Attribute o name apos) args [] pos) env) m l Φ :=
  fun s F N => methodCall_KW (he := he) (h.go F N fun ov h' tk' m' l' F' N' p => wpAny_mono (p.at F' N') (fun fx s₂ ⟨h₂, tk₂, m₂, l₂, e₂, F₂, N₂, p₂⟩ => by
    subst e₂; exact p₂.at F₂ N₂) fun _ _ x => x)

-- own instances
theorem T_attrOwn {x dx Cc : Addr} {es : List DictEntry} {k : Nat} {name : Str} {v : Value} {attr : Option Value} {expr : Bool} {Φ : Value → Map → Led → Prop} (C : Ctx w n A env g L)
    (h1 : (x, instObj Cc dx) ∈ l) (h2 : (dx, dictOf es k) ∈ l) (hg : plainGet (hd.heap_39 w.params) Cc name = true) (hh : hasDictIn (hd.heap_39 w.params) Cc = true) (ha : findIn (hd.heap_39 w.params) (.ref Cc) name = some attr) (hn : noGet (hd.heap_39 w.params) attr = true)
    (hl : getL name es = some (some v)) (hv : handedIn v = true) (h : Φ v m l) : Tri w A g L (getAttr (.ref x) name expr) m l Φ :=
  fun s F N => get_own F C.X (InstAt.of_news N h1 h2) hg hh ha hn hl hv ⟨s.heap, _, m, l, rfl, F, N, h⟩
theorem T_methOwn {x dx Cc f : Addr} {es : List DictEntry} {k : Nat} {name : Str} {pl : Sem Bool} {Φ : Value × List Value → Map → Led → Prop} (C : Ctx w n A env g L)
    (h1 : (x, instObj Cc dx) ∈ l) (h2 : (dx, dictOf es k) ∈ l) (hg : plainGet (hd.heap_39 w.params) Cc name = true) (hf : findIn (hd.heap_39 w.params) (.ref Cc) name = some (some (.ref f))) (ht : isFn (hd.heap_39 w.params) (.ref f) = true)
    (hl : getL name es = some none) (h : Φ (.ref f, [.ref x]) m l) : Tri w A g L (getMethod (.ref x) name pl) m l Φ :=
  fun s F N => method_inst F C.X (InstAt.of_news N h1 h2) hg hf ht hl ⟨s.heap, _, m, l, rfl, F, N, h⟩

-- ints
theorem T_add {a b : Int} {t u : Tok} {Φ : Value → Map → Led → Prop} (h : ∀ t, Φ (.int (a + b) t) m l) : Tri w A g L (binaryOp .Add (.int a t) (.int b u)) m l Φ :=
  fun s F N => PyProof.Rows.add_int ⟨s.heap, _, m, l, rfl, F, N, h _⟩
theorem T_iadd {a b : Int} {t u : Tok} {Φ : Value → Map → Led → Prop} (h : ∀ t, Φ (.int (a + b) t) m l) : Tri w A g L (inplaceOp .Add (.int a t) (.int b u)) m l Φ :=
  fun s F N => PyProof.Rows.iadd_int ⟨s.heap, _, m, l, rfl, F, N, h _⟩
theorem T_subI {a b : Int} {t u : Tok} {Φ : Value → Map → Led → Prop} (h : ∀ t, Φ (.int (a - b) t) m l) : Tri w A g L (binaryOp .Sub (.int a t) (.int b u)) m l Φ :=
  fun s F N => PyProof.Rows.sub_int ⟨s.heap, _, m, l, rfl, F, N, h _⟩
theorem T_mul {a b : Int} {t u : Tok} {Φ : Value → Map → Led → Prop} (hm : IntMulOk a b) (h : ∀ t, Φ (.int (a * b) t) m l) : Tri w A g L (binaryOp .Mult (.int a t) (.int b u)) m l Φ :=
  fun s F N => PyProof.Rows.mul_int (hm := hm) ⟨s.heap, _, m, l, rfl, F, N, h _⟩
theorem T_mod {a b : Int} {t u : Tok} {Φ : Value → Map → Led → Prop} (hb : b ≠ 0) (h : ∀ t, Φ (.int (a.fmod b) t) m l) : Tri w A g L (binaryOp .Mod (.int a t) (.int b u)) m l Φ :=
  fun s F N => PyProof.Rows.mod_int' hb ⟨s.heap, _, m, l, rfl, F, N, h _⟩
theorem T_fdiv {a b : Int} {t u : Tok} {Φ : Value → Map → Led → Prop} (C : Ctx w n A env g L) (hb : b ≠ 0) (h : ∀ t, Φ (.int (a.fdiv b) t) m l) : Tri w A g L (binaryOp .FloorDiv (.int a t) (.int b u)) m l Φ :=
  fun s F N => by
    obtain ⟨mean, mg, mb, T⟩ := C.top
    obtain ⟨A₀, base, outer, B, hA⟩ := C.below
    refine PyProof.Rows.floordiv_int hb ⟨s.heap, _, m, l, rfl, F, N, h _⟩ (Or.inr (PySem.PylongRoom.of (Heap.NoLimit.keeps T.nolimit F.keep) (by have := C.dep; show _ + 100 < _; omega) (PySem.SeerAt.of (Heap.NoSeer.keeps (PyProof.Rows.Top.seer T (by decide +kernel)) F.keep) rfl hA C.gen C.co C.bu C.gl)))
theorem T_neg {a : Int} {t : Tok} {Φ : Value → Map → Led → Prop} (h : ∀ t, Φ (.int (-a) t) m l) : Tri w A g L (unaryOp .USub (.int a t)) m l Φ :=
  fun s F N => PyProof.Rows.neg_int ⟨s.heap, _, m, l, rfl, F, N, h _⟩
theorem T_eqI {a b : Int} {t u : Tok} {Φ : Value → Map → Led → Prop} (h : Φ (.bool (decide (a = b))) m l) : Tri w A g L (compareOp .Eq (.int a t) (.int b u)) m l Φ :=
  fun s F N => PyProof.Rows.eq_int ⟨s.heap, _, m, l, rfl, F, N, h⟩
theorem T_neI {a b : Int} {t u : Tok} {Φ : Value → Map → Led → Prop} (h : Φ (.bool (decide (a ≠ b))) m l) : Tri w A g L (compareOp .NotEq (.int a t) (.int b u)) m l Φ :=
  fun s F N => PyProof.Rows.ne_int ⟨s.heap, _, m, l, rfl, F, N, by rw [bne, Bool.beq_eq_decide_eq, ← decide_not] ; exact h⟩
theorem T_ltI {a b : Int} {t u : Tok} {Φ : Value → Map → Led → Prop} (h : Φ (.bool (decide (a < b))) m l) : Tri w A g L (compareOp .Lt (.int a t) (.int b u)) m l Φ :=
  fun s F N => PyProof.Rows.lt_int ⟨s.heap, _, m, l, rfl, F, N, h⟩
theorem T_leI {a b : Int} {t u : Tok} {Φ : Value → Map → Led → Prop} (h : Φ (.bool (decide (a ≤ b))) m l) : Tri w A g L (compareOp .LtE (.int a t) (.int b u)) m l Φ :=
  fun s F N => PySem.P.le_int ⟨s.heap, _, m, l, rfl, F, N, h⟩
theorem T_gtI {a b : Int} {t u : Tok} {Φ : Value → Map → Led → Prop} (h : Φ (.bool (decide (b < a))) m l) : Tri w A g L (compareOp .Gt (.int a t) (.int b u)) m l Φ :=
  fun s F N => PySem.P.gt_int ⟨s.heap, _, m, l, rfl, F, N, h⟩
theorem T_geI {a b : Int} {t u : Tok} {Φ : Value → Map → Led → Prop} (h : Φ (.bool (decide (b ≤ a))) m l) : Tri w A g L (compareOp .GtE (.int a t) (.int b u)) m l Φ :=
  fun s F N => PySem.P.ge_int ⟨s.heap, _, m, l, rfl, F, N, h⟩
end
-- the same, the first arguments written
section
variable {w : World} {A : Around} {g : Heap} {L : Addr} {m : Map} {l : Led} {n : Nat} {env : Env} {f x : Value} {id : String} {e : Expr} {rest : List Expr} {pos : Pos} {Φ : Value → Map → Led → Prop}
theorem T_callKf {env' : Env} (C : Ctx w n A env' g L) (hk : keepIn (hd.heap_39 w.params) f = true) (h : Tri w A g L (spliced (backTo pos (starEach (e :: rest) env))) m l (fun vs m l => Tri w A g L (call f vs) m l Φ))
    (he : starEach (e :: rest) env = (false, eval e env) :: starEach rest env := by rfl) (hplain : (backTo pos (starEach rest env)).any (·.1) = false := by rfl) : Tri w A g L (callWith pos f [] (backTo pos (starEach (e :: rest) env)) []) m l Φ := T_callK C hk h he hplain
theorem T_callKm {env' : Env} (C : Ctx w n A env' g L) (hk : keepIn (hd.heap_39 w.params) f = true) (h : Tri w A g L (spliced (backTo pos (starEach (e :: rest) env))) m l (fun vs m l => Tri w A g L (call f (x :: vs)) m l Φ))
    (he : starEach (e :: rest) env = (false, eval e env) :: starEach rest env := by rfl) (hplain : (backTo pos (starEach rest env)).any (·.1) = false := by rfl) : Tri w A g L (callWith pos f [x] (backTo pos (starEach (e :: rest) env)) []) m l Φ := T_callK C hk h he hplain
theorem T_callK0f {env' : Env} (C : Ctx w n A env' g L) (hk : keepIn (hd.heap_39 w.params) f = true) (h : Tri w A g L (call f []) m l Φ) : Tri w A g L (callWith pos f [] (backTo pos (starEach [] env)) []) m l Φ := T_callK0 C hk h
theorem T_callK0m {env' : Env} (C : Ctx w n A env' g L) (hk : keepIn (hd.heap_39 w.params) f = true) (h : Tri w A g L (call f [x]) m l Φ) : Tri w A g L (callWith pos f [x] (backTo pos (starEach [] env)) []) m l Φ := T_callK0 C hk h
theorem T_callBf (h : Tri w A g L (spliced (backTo pos (starEach (e :: rest) env))) m l (fun vs m l => Tri w A g L (call (.builtin id) vs) m l Φ))
    (he : starEach (e :: rest) env = (false, eval e env) :: starEach rest env := by rfl) (hplain : (backTo pos (starEach rest env)).any (·.1) = false := by rfl) : Tri w A g L (callWith pos (.builtin id) [] (backTo pos (starEach (e :: rest) env)) []) m l Φ := T_callB h he hplain
theorem T_callBm (h : Tri w A g L (spliced (backTo pos (starEach (e :: rest) env))) m l (fun vs m l => Tri w A g L (call (.builtin id) (x :: vs)) m l Φ))
    (he : starEach (e :: rest) env = (false, eval e env) :: starEach rest env := by rfl) (hplain : (backTo pos (starEach rest env)).any (·.1) = false := by rfl) : Tri w A g L (callWith pos (.builtin id) [x] (backTo pos (starEach (e :: rest) env)) []) m l Φ := T_callB h he hplain
theorem T_callB0m (h : Tri w A g L (call (.builtin id) [x]) m l Φ) : Tri w A g L (callWith pos (.builtin id) [x] (backTo pos (starEach [] env)) []) m l Φ := T_callB0 h
end
end Mine
end
section
open PySem PySem.W PySem.Calls PyProof.Rows PyProof.V PySem.Spec
namespace Mine

noncomputable abbrev tupO (vs : List Value) : Obj := { cls := .type "tuple", data := .seq vs.toArray }
noncomputable abbrev lstO (vs : List Value) (n : Nat) : Obj := { cls := .type "list", data := .seq vs.toArray n }
/-- a list, a tuple of the ledger -/
noncomputable def LL (l : Led) (a : Addr) (vs : List Value) : Prop := ∃ n, (a, lstO vs n) ∈ l
noncomputable def TT (l : Led) (a : Addr) (vs : List Value) : Prop := (a, tupO vs) ∈ l
/-- what no step turns: all but lists, dicts, cells -/
noncomputable def fixV (v : Value) : Bool := !(v == .type "list" || v == .type "dict" || v == .type "cell")
noncomputable def isCellD : Data → Bool
  | .cell _ => true
  | _ => false
noncomputable def fixC (o : Obj) : Bool := fixV o.cls && !isCellD o.data
theorem fixC_cls {o : Obj} (h : fixC o = true) : fixV o.cls = true := (Bool.and_eq_true_iff.mp h).1
/-- all but the objects at D stay; tuples and the like stay always -/
noncomputable def Sub (D : List Addr) (l l' : Led) : Prop := ∀ p ∈ l, (fixC p.2 = true ∨ p.1 ∉ D) → p ∈ l'
theorem Sub.fix {D : List Addr} {l l' : Led} (s : Sub D l l') {p : Addr × Obj} (h : p ∈ l) (hf : fixC p.2 = true := by rfl) : p ∈ l' := s p h (.inl hf)
theorem Sub.refl {D : List Addr} {l : Led} : Sub D l l := fun _ h _ => h
theorem Sub.trans {D : List Addr} {l l' l'' : Led} (a : Sub D l l') (b : Sub D l' l'') : Sub D l l'' := fun p h c => b p (a p h c) c
theorem Sub.mono {D D' : List Addr} {l l' : Led} (a : Sub D l l') (h : ∀ x ∈ D, x ∈ D') : Sub D' l l' := fun p hp c => a p hp (c.imp id fun q q' => q (h _ q'))
theorem TT.sub {D : List Addr} {l l' : Led} {a : Addr} {vs : List Value} (h : TT l a vs) (s : Sub D l l') : TT l' a vs := s _ h (.inl rfl)
theorem LL.sub {D : List Addr} {l l' : Led} {a : Addr} {vs : List Value} (h : LL l a vs) (s : Sub D l l') (hn : a ∉ D) : LL l' a vs := h.imp fun _ q => s _ q (.inr hn)
/-- a is new to l -/
noncomputable def New (l : Led) (a : Addr) : Prop := ∀ p ∈ l, p.1 ≠ a
theorem New.ne {l : Led} {a b : Addr} {o : Obj} (h : New l a) (hb : (b, o) ∈ l) : b ≠ a := h _ hb
theorem New.neL {l : Led} {a b : Addr} {vs : List Value} (h : New l a) (hb : LL l b vs) : b ≠ a := hb.elim fun _ q => h _ q

section
variable {w : World} {A : Around} {g : Heap} {L : Addr} {α β : Type} {m : Map} {l : Led} {n : Nat} {env : Env}

theorem change {s : Shared} {h' : Heap} {D : Addr} {old new : Obj} (F : Fr g L s.heap m) (N : News g L s.heap l) (hm : (D, old) ∈ l) (hs : Heap.SameBut D s.heap h') (ho : h'.get? D = some new) :
    Fr g L h' m ∧ ∃ l', News g L h' l' ∧ (D, new) ∈ l' ∧ ∀ p ∈ l, p.1 ≠ D → p ∈ l' := by
  have z := N _ hm
  refine ⟨F.change hs z.2.1 z.2.2, (D, new) :: l.filter (fun p => p.1 ≠ D), ?_, .head _, fun p hp hn => .tail _ (List.mem_filter.mpr ⟨hp, by simpa using hn⟩)⟩
  intro p hp
  rcases List.mem_cons.mp hp with rfl | hp
  · exact ⟨ho, z.2.1, z.2.2⟩
  · obtain ⟨hp, hn⟩ := List.mem_filter.mp hp
    exact ⟨(hs.2 _ (by simpa using hn)).trans (N p hp).1, (N p hp).2⟩

theorem sub_of_change {s : Shared} {D : Addr} {vs : List Value} {k : Nat} {l' : Led} (N : News g L s.heap l) (hm : (D, lstO vs k) ∈ l) (h : ∀ p ∈ l, p.1 ≠ D → p ∈ l') : Sub [D] l l' := by
  intro p hp c
  refine h p hp fun e => ?_
  rcases c with c | c
  · have := (N p hp).1
    rw [e, (N _ hm).1] at this
    cases p with | mk a o => cases this; exact absurd (show fixV (.type "list") = true from fixC_cls c) (by decide)
  · exact c (by simp [e])

theorem T_newTuple {vs : List Value} {Φ : Value → Map → Led → Prop} (hz : vs.length ≤ sizeLine) (h : ∀ a l', TT l' a vs → Sub [] l l' → New l a → Φ (.ref a) m l') : Tri w A g L (newTuple vs) m l Φ :=
  fun s F N => newTuple_N (hsz := hz) F N fun h' F' N' => ⟨h', s.toks, m, _, rfl, F', N', h _ _ (.head _) (fun p hp _ => .tail _ hp) fun p hp => Nat.ne_of_lt (Heap.lt_size (N p hp).1)⟩
theorem T_newList {vs : List Value} {Φ : Value → Map → Led → Prop} (hz : vs.length ≤ sizeLine) (h : ∀ a l', LL l' a vs → Sub [] l l' → New l a → Φ (.ref a) m l') : Tri w A g L (newList vs) m l Φ :=
  fun s F N => newList_N (hsz := hz) F N fun h' F' N' => ⟨h', s.toks, m, _, rfl, F', N', h _ _ ⟨_, .head _⟩ (fun p hp _ => .tail _ hp) fun p hp => Nat.ne_of_lt (Heap.lt_size (N p hp).1)⟩
theorem T_tuple {elts : List Expr} {k : Nat} {pos : Pos} {Φ : Value → Map → Led → Prop} (h : Tri w A g L (spliced (backTo pos (starEach elts env))) m l (fun vs m l => Tri w A g L (newTuple vs) m l Φ)) : Tri w A g L (eval (.Tuple elts k pos) env) m l Φ :=
  fun s F N => Tuple_ (h.go F N fun vs h' tk' m' l' F' N' p => p.at F' N')
theorem T_list {elts : List Expr} {pos : Pos} {Φ : Value → Map → Led → Prop} (h : Tri w A g L (spliced (backTo pos (starEach elts env))) m l (fun vs m l => Tri w A g L (newList vs) m l Φ)) : Tri w A g L (eval (.List elts pos) env) m l Φ :=
  fun s F N => List_ (h.go F N fun vs h' tk' m' l' F' N' p => p.at F' N')

theorem isList_of {s : Shared} {a : Addr} {vs : List Value} (N : News g L s.heap l) (h : LL l a vs) : s.heap.IsList a vs.toArray := let ⟨k, q⟩ := h; ⟨_, (N _ q).1, rfl, k, rfl⟩
theorem isTup_of {s : Shared} {a : Addr} {vs : List Value} (N : News g L s.heap l) (h : TT l a vs) : IsTup s.heap a vs.toArray := ⟨_, (N _ h).1, rfl, 0, rfl⟩

theorem T_getL {a : Addr} {vs : List Value} {k : Int} {t : Tok} {v : Value} {Φ : Value → Map → Led → Prop} (hl : LL l a vs) (h0 : 0 ≤ k) (hf : k < 2 ^ 63) (hx : vs[k.toNat]? = some v) (h : Φ v m l) : Tri w A g L (getItem (.ref a) (.int k t)) m l Φ :=
  fun s F N => wpAny_getItem_list (isList_of N hl) h0 hf (by simpa using hx) ⟨s.heap, s.toks, m, l, rfl, F, N, h⟩
theorem T_itemL {value slice : Expr} {a : Addr} {vs : List Value} {k : Int} {t : Tok} {v : Value} {Φ : Value → Map → Led → Prop} (hl : LL l a vs) (h0 : 0 ≤ k) (hf : k < 2 ^ 63) (hx : vs[k.toNat]? = some v) (h : Φ v m l)
    (hs : subscripted slice false (.ref a) (.int k t) = operate [.ref a, .int k t] (getItem (.ref a) (.int k t)) := by with_unfolding_all rfl) : Tri w A g L (subscriptTail value slice (.ref a) (.int k t)) m l Φ :=
  fun s F N => tail_any (isList_of N hl).typeIs slot_list_getitem.lookup (wpAny_getItem_list (isList_of N hl) h0 hf (by simpa using hx) ⟨s.heap, s.toks, m, l, rfl, F, N, h⟩) hs
theorem T_itemT {value slice : Expr} {a : Addr} {vs : List Value} {k : Int} {t : Tok} {j : Nat} {v : Value} {Φ : Value → Map → Led → Prop} (hl : TT l a vs) (hlo : -(2 ^ 63) ≤ k) (hhi : k < 2 ^ 63) (hj : seqIndex? k vs.length = some j) (hx : vs[j]? = some v) (h : Φ v m l)
    (hs : subscripted slice false (.ref a) (.int k t) = operate [.ref a, .int k t] (getItem (.ref a) (.int k t)) := by with_unfolding_all rfl) : Tri w A g L (subscriptTail value slice (.ref a) (.int k t)) m l Φ :=
  fun s F N => item_tupleT (isTup_of N hl) hlo hhi hj hx ⟨s.heap, s.toks, m, l, rfl, F, N, h⟩ hs
theorem T_lenL {a : Addr} {vs : List Value} {Φ : Value → Map → Led → Prop} (hl : LL l a vs) (hz : vs.length < 2 ^ 62) (h : ∀ t, Φ (.int (vs.length : Nat) t) m l) : Tri w A g L (call (.builtin "len") [.ref a]) m l Φ :=
  fun s F N => Calls.call_len_list (isList_of N hl) (by rw [List.size_toArray]; omega) ⟨s.heap, _, m, l, rfl, F, N, by rw [List.size_toArray]; exact h _⟩
theorem T_setL {a : Addr} {vs : List Value} {k : Int} {t : Tok} {v : Value} {Φ : Unit → Map → Led → Prop} (hl : LL l a vs) (h0 : 0 ≤ k) (hn : k < vs.length) (hf : k < 2 ^ 63)
    (h : ∀ l', LL l' a (vs.set k.toNat v) → Sub [a] l l' → Φ () m l') : Tri w A g L (setItem (.ref a) (.int k t) v) m l Φ := by
  obtain ⟨c, hm⟩ := hl
  intro s F N
  have z := N _ hm
  refine ki_setAt z.1 h0 hf (by rw [List.size_toArray]; exact hn) ?_
  have q := PySem.IsL.update (n := c) z.1 (·.setIfInBounds k.toNat v)
  have e : vs.toArray.setIfInBounds k.toNat v = (vs.set k.toNat v).toArray := by apply Array.toList_inj.mp; simp
  rw [e] at q
  obtain ⟨F', l', N', m1, m2⟩ := change F N hm (Heap.SameBut.update ..) q
  exact ⟨_, _, m, l', rfl, F', N', h l' ⟨_, m1⟩ (sub_of_change N hm m2)⟩
theorem T_append {a : Addr} {vs : List Value} {v : Value} {Φ : Value → Map → Led → Prop} (hl : LL l a vs) (hz : vs.length ≤ sizeLine) (h : ∀ l', LL l' a (vs ++ [v]) → Sub [a] l l' → Φ .none m l') :
    Tri w A g L (call (.builtin "list.append") [.ref a, v]) m l Φ := by
  obtain ⟨c, hm⟩ := hl
  intro s F N
  refine append_at (hsz := by rw [List.size_toArray]; exact hz) (N _ hm).1 fun h' hs ho => ?_
  have e : vs.toArray.push v = (vs ++ [v]).toArray := by simp
  rw [e] at ho
  obtain ⟨F', l', N', m1, m2⟩ := change F N hm hs ho
  exact ⟨_, _, m, l', rfl, F', N', h l' ⟨_, m1⟩ (sub_of_change N hm m2)⟩
theorem T_pop {a : Addr} {vs : List Value} {v : Value} {Φ : Value → Map → Led → Prop} (hl : LL l a (vs ++ [v])) (hz : vs.length < sizeLine) (h : ∀ l', LL l' a vs → Sub [a] l l' → Φ v m l') :
    Tri w A g L (call (.builtin "list.pop") [.ref a]) m l Φ := by
  obtain ⟨c, hm⟩ := hl
  intro s F N
  have z := N _ hm
  have hk : (vs ++ [v]).toArray.size - 1 = vs.length := by rw [List.size_toArray, List.length_append]; rfl
  have hy : (vs ++ [v]).toArray[(vs ++ [v]).toArray.size - 1]? = some v := by rw [hk]; simp
  refine call_meets PySem.F.slot_list_pop ⟨_, z.1, rfl⟩ PySem.F.entry_list_pop (PySem.F.args_list_pop_1 _) (PySem.MeetsSeq.list_pop_last a _ c v hy (by rw [List.size_toArray, List.length_append]; exact hz)) ⟨z.1, ?_⟩
  have q := PySem.IsL.update (n := c) z.1 (fun xs => xs.eraseIdxIfInBounds ((vs ++ [v]).toArray.size - 1))
  have e : (vs ++ [v]).toArray.eraseIdxIfInBounds ((vs ++ [v]).toArray.size - 1) = vs.toArray := by rw [hk, kl_erase, List.append_nil]
  rw [e] at q
  obtain ⟨F', l', N', m1, m2⟩ := change F N hm (Heap.SameBut.update ..) q
  exact ⟨_, _, m, l', rfl, F', N', h l' ⟨_, m1⟩ (sub_of_change N hm m2)⟩
theorem T_methL {a : Addr} {vs : List Value} {name : Str} {id : String} {pl : Sem Bool} {Φ : Value × List Value → Map → Led → Prop} (hl : LL l a vs) (slot : Slot "list" name id) (hty : typeOf (.builtin id) = pure (.type "method_descriptor"))
    (h : Φ (.builtin id, [.ref a]) m l) : Tri w A g L (getMethod (.ref a) name pl) m l Φ := by
  obtain ⟨c, hm⟩ := hl
  exact fun s F N => kl_method N hm slot hty ⟨s.heap, s.toks, m, l, rfl, F, N, h⟩
theorem T_listOf {a : Addr} {vs : List Value} {Φ : Value → Map → Led → Prop} (hl : LL l a vs) (hz : vs.length ≤ sizeLine) (h : ∀ b l', LL l' b vs → Sub [] l l' → New l b → Φ (.ref b) m l') : Tri w A g L (call (.type "list") [.ref a]) m l Φ := by
  obtain ⟨c, hm⟩ := hl
  exact fun s F N => kup_listOf F N hm (by rfl) (fun D c h' F' N' l1 => ⟨h', s.toks, m, _, rfl, F', N', h _ _ ⟨_, .head _⟩ (fun p hp _ => .tail _ hp) fun p hp => Nat.ne_of_lt (l1 p hp)⟩) hz

-- slices
/-- the bounds of a slice that stands in the ledger -/
noncomputable def SL (l : Led) (a : Addr) (vl vu : Value) : Prop := (a, ({ cls := .type "slice", data := .fields #[vl, vu, .none] } : Obj)) ∈ l
theorem T_slice {lo hi : Option Expr} {p : Pos} {Φ : Value → Map → Led → Prop}
    (h : Tri w A g L (evalPart lo env) m l (fun x m l => Tri w A g L (evalPart hi env) m l (fun y m l => ∀ a l', SL l' a x y → Sub [] l l' → New l a → Φ (.ref a) m l'))) : Tri w A g L (eval (.Slice lo hi none p) env) m l Φ :=
  fun s F N => wpAny_Slice (h.go F N fun x h₁ tk₁ m₁ l₁ F₁ N₁ p₁ => wpAny_mono (p₁.at F₁ N₁) (fun y s₂ ⟨h₂, tk₂, m₂, l₂, e₂, F₂, N₂, p₂⟩ => by
    subst e₂
    exact wpAny_pure ⟨_, _, m₂, _, rfl, F₂.push _, N₂.push F₂ _, p₂ _ _ (.head _) (fun p hp _ => .tail _ hp) fun p hp => Nat.ne_of_lt (Heap.lt_size (N₂ p hp).1)⟩) fun _ _ x => x)
theorem T_part {e : Expr} {Φ : Value → Map → Led → Prop} (h : Tri w A g L (eval e env) m l Φ) : Tri w A g L (evalPart (some e) env) m l Φ := h
theorem T_part0 {Φ : Value → Map → Led → Prop} (h : Φ .none m l) : Tri w A g L (evalPart none env) m l Φ := Tri.pure h
theorem T_sliceL {value slice : Expr} {a b : Addr} {vs : List Value} {vl vu : Value} {lo hi : Option Int} {Φ : Value → Map → Led → Prop} (hl : LL l a vs) (hb : SL l b vl vu) (pl : IsPart vl lo) (pu : IsPart vu hi) (hz : vs.length ≤ sizeLine)
    (h : ∀ c l', LL l' c (slicePick vs.toArray lo hi none).toList → Sub [] l l' → New l c → Φ (.ref c) m l')
    (hs : subscripted slice false (.ref a) (.ref b) = operate [.ref b, .ref a] (getItem (.ref a) (.ref b)) := by with_unfolding_all rfl)
    (ht : ∀ r, letTemporaryGo value (.ref a) r = pure () := by intro _; with_unfolding_all rfl) : Tri w A g L (subscriptTail value slice (.ref a) (.ref b)) m l Φ :=
  fun s F N => subscriptTail_ops (isList_of N hl).typeIs list_getitem_lookup
    (wpAny_getItem_list_slice (isList_of N hl) ⟨_, (N _ hb).1, rfl, rfl⟩ pl pu .none (by simp) ⟨_, _, m, _, rfl, F.push _, N.push F _, h _ _ ⟨0, by simp [lstO]⟩ (fun p hp _ => .tail _ hp) fun p hp => Nat.ne_of_lt (Heap.lt_size (N p hp).1)⟩ (by rw [List.size_toArray]; exact hz)) hs ht
end
end Mine
end
section
open PySem PySem.W PySem.Calls PyProof.Rows PyProof.V PySem.Spec
namespace Mine

noncomputable def isItV (v : Value) : Bool := v == .type "range_iterator" || v == .type "list_iterator" || v == .type "tuple_iterator"
noncomputable def isIt (o : Obj) : Bool := isItV o.cls && !isCellD o.data
/-- more of the ledger, less of the iterators that are not of l₀ -/
noncomputable def Stay (l₀ l l' : Led) : Prop := ∀ p ∈ l, (isIt p.2 = false ∨ p ∈ l₀) → p ∈ l'
section
variable {w : World} {A : Around} {g : Heap} {L : Addr} {α β : Type} {m : Map} {l : Led} {n : Nat} {env : Env}

theorem T_while {test : Expr} {body : List Stmt} {pos : Pos} {Φ : Flow → Map → Led → Prop} (J : Nat → Map → Led → Prop) {k₀ : Nat} (h0 : J k₀ m l)
    (turn : ∀ k m l, J k m l → Tri w A g L (isTrue test env (eval test env)) m l (fun b m l =>
      if b = true then Tri w A g L (execs body env) m l (fun f m l => match f with | .next | .cont => ∃ k', k' < k ∧ J k' m l | .brk => Φ .next m l | .ret v => Φ (.ret v) m l) else Φ .next m l)) :
    Tri w A g L (exec (.While test body [] pos) env) m l Φ := by
  intro s F N
  refine While_inv2 J F N h0 ?_ PySem.PassesOwn.never
  intro k m₁ l₁ h₁ tk₁ F₁ N₁ hJ
  refine wpAny_mono ((turn k m₁ l₁ hJ).at (s := s) F₁ N₁) (fun b s₂ ⟨h₂, tk₂, m₂, l₂, e₂, F₂, N₂, p₂⟩ => ?_) fun _ _ x => x
  subst e₂
  cases b with
  | false => simp only [Bool.false_eq_true, if_false] at p₂ ⊢; exact ⟨h₂, tk₂, m₂, l₂, rfl, F₂, N₂, p₂⟩
  | true =>
    simp only [if_true] at p₂ ⊢
    refine wpAny_mono (p₂.at (s := s) F₂ N₂) (fun f s₃ ⟨h₃, tk₃, m₃, l₃, e₃, F₃, N₃, p₃⟩ => ?_) fun _ _ x => x
    subst e₃
    cases f with
    | next => obtain ⟨k', a, b⟩ := p₃; exact ⟨h₃, tk₃, m₃, l₃, k', rfl, F₃, N₃, a, b⟩
    | cont => obtain ⟨k', a, b⟩ := p₃; exact ⟨h₃, tk₃, m₃, l₃, k', rfl, F₃, N₃, a, b⟩
    | brk => exact ⟨h₃, tk₃, m₃, l₃, rfl, F₃, N₃, p₃⟩
    | ret v => exact ⟨h₃, tk₃, m₃, l₃, rfl, F₃, N₃, p₃⟩

/-- the end of a turn -/
noncomputable def TurnEnd (Φ : Flow → Map → Led → Prop) (J : Map → Led → Prop) (Keep : Led → Prop) (f : Flow) (m : Map) (l : Led) : Prop := match f with
  | .ret v => Φ (.ret v) m l
  | .brk => Φ .next m l
  | _ => J m l ∧ Keep l

theorem loopAt {I : Addr} {fp wr : List Addr} {k : Nat} {P : Nat → Value → Prop} {St : Nat → Heap → Prop} {x : Str} {body : List Stmt} {Φ : Flow → Map → Led → Prop} {s s₂ : Shared} (C : Ctx w n A env g L)
    (J : Nat → Map → Led → Prop) (Keep : Led → Led → Prop) (W : Walks P0 w A I fp wr k P St) (hLf : L ∉ fp) (hwr : ∀ b ∈ wr, g.get? b = none) (hst : St 0 s₂.heap) (F : Fr g L s₂.heap m) (N : News g L s₂.heap l) (hnw : ∀ p ∈ l, p.1 ∉ wr)
    (hs : ∃ h tk, s₂ = { s with heap := h, toks := tk })
    (hJ : ∀ i m l₁ l', Stay l l₁ l' → J i m l₁ → J i m l') (h0 : J 0 m l)
    (hit : ∀ i h b, St i h → b ∈ wr → ∃ o, h.get? b = some o ∧ isIt o = true)
    (hk : ∀ i h own l₁ l', St i h → (∀ p ∈ own, p.1 ∈ fp) → (∀ p ∈ own, h.get? p.1 = some p.2) → Keep (own ++ l₁) l' → ∀ p ∈ own, p ∈ l')
    (turn : ∀ i v m l, i < k → P i v → J i m l → Tri w A g L (execs body env) (fun y => if y = x then some v else m y) l (TurnEnd Φ (J (i + 1)) (Keep l)))
    (done : ∀ m l, J k m l → Φ .next m l) :
    LoopAtV P0 w A g env x body (fun f s' => ∃ h' tk' m' l', s' = { s with heap := h', toks := tk' } ∧ Fr g L h' m' ∧ News g L h' l' ∧ Φ f m' l') (fun _ _ => False) (.ref I) s₂ := by
  obtain ⟨hh, tk0, rfl⟩ := hs
  have hL := C.loc
  refine ⟨I, fp, wr, k, P, St, m, l, J, rfl, W, by rw [hL]; exact hLf, hwr, hnw, hst, by rw [hL]; exact F, by rw [hL]; exact N, h0, ?_, ?_⟩
  · rintro i v m₁ l₁ s₁ own ⟨h₁, tk₁, rfl⟩ hi hP hj hoff hown hownAt hfull hst₁ F₁ N₁
    rw [hL] at F₁ N₁ ⊢
    have hj' : J i m₁ (own ++ l₁) := hJ _ _ _ _ (fun p hp _ => List.mem_append_right _ hp) hj
    refine wpAny_mono ((turn i v m₁ (own ++ l₁) hi hP hj').at F₁ N₁ (s := s)) (fun f s₃ ⟨h₃, tk₃, m₃, l₃, e₃, F₃, N₃, p₃⟩ => ?_) fun _ _ z => z
    subst e₃
    have fin : (J (i + 1) m₃ l₃ ∧ Keep (own ++ l₁) l₃) → LoopStepU g L wr own (J (i + 1)) { s with heap := h₁, toks := tk₁ } .next { s with heap := h₃, toks := tk₃ } := by
      rintro ⟨hJ₃, hK⟩
      have ho := hk _ _ _ _ _ hst₁ hown hownAt hK
      refine ⟨rfl, h₃, tk₃, m₃, l₃.filter (fun p => p.1 ∉ wr), rfl, F₃, fun p hp => ?_, fun p hp => by simpa using (List.mem_filter.mp hp).2, hJ _ _ _ _ (fun p hp hni => List.mem_filter.mpr ⟨hp, ?_⟩) hJ₃⟩
      · rcases List.mem_append.mp hp with hp | hp
        · exact N₃ p (ho p hp)
        · exact N₃ p (List.mem_filter.mp hp).1
      · simp only [decide_eq_true_eq]
        intro hw
        obtain ⟨o, e1, e2⟩ := hit _ _ _ hst₁ hw
        have q := ho _ (hfull _ (W.sub _ hw) (hwr _ hw) _ e1)
        have := (N₃ _ q).1
        rw [(N₃ p hp).1] at this
        have e3 : p.2 = o := Option.some.inj this
        rcases hni with hni | hni
        · rw [← e3, hni] at e2
          cases e2
        · exact hnw p hni hw
    cases f with
    | ret v => exact .ret ⟨h₃, tk₃, m₃, l₃, rfl, F₃, N₃, p₃⟩
    | brk => exact .brk ⟨h₃, tk₃, m₃, l₃, rfl, F₃, N₃, p₃⟩
    | next => exact .next (fin p₃)
    | cont => exact .cont (fin p₃)
  · intro h' tk m' l' F' N' _ hj
    rw [hL] at F' N'
    exact ⟨h', tk, m', l', rfl, F', N', done _ _ hj⟩

theorem T_for {x : Str} {px pos : Pos} {iter : Expr} {body : List Stmt} {Φ : Flow → Map → Led → Prop} (C : Ctx w n A env g L)
    (h : Tri w A g L (eval iter env) m l (fun xv m l => ∀ s : Shared, Fr g L s.heap m → News g L s.heap l →
      wpAny (model P0 w) A (pyIter xv) (fun it s₂ => LoopAtV P0 w A g env x body (fun f s' => ∃ h' tk' m' l', s' = { s with heap := h', toks := tk' } ∧ Fr g L h' m' ∧ News g L h' l' ∧ Φ f m' l') (fun _ _ => False) it s₂) (fun _ _ => False) s))
    (hx : env.kindOf x = some .local := by rfl) (hs : ∀ x, foldedSetIterable iter env x = pure x := by intro _; rfl) : Tri w A g L (exec (.For (.Name x px) iter body [] pos) env) m l Φ := by
  intro s F N
  refine For_invV g hx (by rw [C.kind]; rfl) (h.go F N fun xv h' tk' m' l' F' N' p => ?_) hs PySem.PassesOwn.never
  exact p { s with heap := h', toks := tk' } F' N'

noncomputable abbrev rngO (a b c : Int) (t u v : Tok) : Obj := { cls := .type "range", data := .fields #[.int a t, .int b u, .int c v] }
theorem iter_range {r : Addr} {k : Nat} {t u v : Tok} {x : Str} {body : List Stmt} {Φ : Flow → Map → Led → Prop} (C : Ctx w n A env g L) (hr : (r, rngO 0 k 1 t u v) ∈ l) (hz : k < 2 ^ 31)
    (J : Nat → Map → Led → Prop) (hJ : ∀ i m l₁ l', Stay l l₁ l' → J i m l₁ → J i m l') (h0 : J 0 m l)
    (turn : ∀ i m l, i < k → J i m l → ∀ t, Tri w A g L (execs body env) (fun y => if y = x then some (.int (i : Nat) t) else m y) l (TurnEnd Φ (J (i + 1)) (fun l' => ∀ p ∈ l, isIt p.2 = true → p ∈ l')))
    (done : ∀ m l, J k m l → Φ .next m l) (s : Shared) (F : Fr g L s.heap m) (N : News g L s.heap l) :
    wpAny (model P0 w) A (pyIter (.ref r)) (fun it s₂ => LoopAtV P0 w A g env x body (fun f s' => ∃ h' tk' m' l', s' = { s with heap := h', toks := tk' } ∧ Fr g L h' m' ∧ News g L h' l' ∧ Φ f m' l') (fun _ _ => False) it s₂) (fun _ _ => False) s := by
  have e : Builtin.Range.rangeSize 0 (k : Int) 1 = (k : Int) := by rw [rangeSize_one]; split <;> omega
  refine wpAny_pyIter_range (N _ hr).1 (small_one (by omega) (by omega) (by omega) (by omega)) ?_
  rw [e]
  have W := (Walks.range (prog := P0) (w := w) C.han s.heap.objs.size 0 1 k)
  refine loopAt C J (fun l l' => ∀ p ∈ l, isIt p.2 = true → p ∈ l') W ?_ ?_ (by show IsRangeIter _ _ _ _ _; simpa using Heap.get?_push_size _ rfl) (F.push _) (fun p hp => ⟨Heap.get?_push_of_some _ (N p hp).1, (N p hp).2⟩) ?_ ⟨_, _, rfl⟩ hJ h0 ?_ ?_ ?_ done
  · intro hm
    exact absurd F.ns.lt ((List.mem_singleton.mp hm) ▸ Nat.lt_irrefl _)
  · intro b hb
    rw [List.mem_singleton.mp hb]
    exact next_is_new F
  · intro p hp hI
    exact absurd (Heap.lt_size (N p hp).1) ((List.mem_singleton.mp hI) ▸ Nat.lt_irrefl _)
  · intro i h b hst hb
    rw [List.mem_singleton.mp hb]
    exact ⟨_, hst, rfl⟩
  · intro i h own l₁ l' hst ho hat hK p hp
    refine hK p (List.mem_append_left _ hp) ?_
    have e1 := hat p hp
    rw [List.mem_singleton.mp (ho p hp)] at e1
    have hst' : h.get? s.heap.objs.size = some _ := hst
    rw [hst'] at e1
    rw [← Option.some.inj e1]
    rfl
  · rintro i v m₁ l₁ hi ⟨t, rfl⟩ hj
    have e1 : (0 : Int) + (i : Int) * 1 = (i : Int) := by omega
    rw [e1]
    exact turn i m₁ l₁ hi hj t
theorem T_range {k : Int} {t : Tok} {Φ : Value → Map → Led → Prop} (h : ∀ r l' t u v, (r, rngO 0 k 1 t u v) ∈ l' → Sub [] l l' → New l r → Φ (.ref r) m l') : Tri w A g L (call (.type "range") [.int k t]) m l Φ :=
  fun s F N => call_range_1 ⟨_, _, m, _, rfl, F.push _, N.push F _, h _ _ _ _ _ (.head _) (fun p hp _ => .tail _ hp) fun p hp => Nat.ne_of_lt (Heap.lt_size (N p hp).1)⟩
end
end Mine
end
section
open PySem PySem.W PySem.Calls PyProof.Rows PyProof.V PySem.Spec
namespace Mine
theorem fillK_areas : PySem.Challenge.rw_no0163_01.prog = PySem.Challenge.rw_no0163_01.prog ∧ (∀ w : World, (hd.heap_39 w.params) = hd.heap_39 w.params) := by
  k_fill
  exact ⟨rfl, fun _ => rfl⟩

noncomputable abbrev Cc := Int × Int
/-- a cell: a tuple of two ints -/
noncomputable def Cel (l : Led) (v : Value) (c : Cc) : Prop := ∃ a t u, v = .ref a ∧ TT l a [.int c.1 t, .int c.2 u]
inductive Cels (l : Led) : List Value → List Cc → Prop
  | nil : Cels l [] []
  | cons {v c vs cs} : Cel l v c → Cels l vs cs → Cels l (v :: vs) (c :: cs)
theorem Cel.sub {D : List Addr} {l l' : Led} {v : Value} {c : Cc} (h : Cel l v c) (s : Sub D l l') : Cel l' v c := let ⟨a, t, u, e, q⟩ := h; ⟨a, t, u, e, q.sub s⟩
theorem Cels.sub {D : List Addr} {l l' : Led} {vs : List Value} {cs : List Cc} (h : Cels l vs cs) (s : Sub D l l') : Cels l' vs cs := by
  induction h with
  | nil => exact .nil
  | cons a _ ih => exact .cons (a.sub s) ih
theorem Cels.len {l : Led} {vs : List Value} {cs : List Cc} (h : Cels l vs cs) : vs.length = cs.length := by
  induction h with
  | nil => rfl
  | cons _ _ ih => simp [ih]
theorem Cels.app {l : Led} {vs vs' : List Value} {cs cs' : List Cc} (h : Cels l vs cs) (h' : Cels l vs' cs') : Cels l (vs ++ vs') (cs ++ cs') := by
  induction h with
  | nil => exact h'
  | cons a _ ih => exact .cons a ih
theorem Cels.take {l : Led} {vs : List Value} {cs : List Cc} (h : Cels l vs cs) : ∀ k : Nat, Cels l (vs.take k) (cs.take k) := by
  induction h with
  | nil => intro k; simp; exact .nil
  | cons a _ ih => intro k; cases k with
    | zero => exact .nil
    | succ k => exact .cons a (ih k)
theorem Cels.set {l : Led} {vs : List Value} {cs : List Cc} {v : Value} {c : Cc} (h : Cels l vs cs) (hc : Cel l v c) : ∀ k : Nat, Cels l (vs.set k v) (cs.set k c) := by
  induction h with
  | nil => intro k; simp; exact .nil
  | cons a r ih => intro k; cases k with
    | zero => exact .cons hc r
    | succ k => exact .cons a (ih k)
theorem Cels.get {l : Led} {vs : List Value} {cs : List Cc} (h : Cels l vs cs) : ∀ {k : Nat}, k < cs.length → ∃ v, vs[k]? = some v ∧ Cel l v (cs.getD k (5, 0)) := by
  induction h with
  | nil => intro k hk; simp at hk
  | cons a r ih => intro k hk; cases k with
    | zero => exact ⟨_, rfl, a⟩
    | succ k => obtain ⟨v, e, q⟩ := ih (k := k) (by simpa using hk); exact ⟨v, by simpa using e, by simpa using q⟩

structure Sig where
  heap : List Cc
  stack : List Cc
  trail : List Int
  hb : Int
  bb : Int
structure Adr where
  ax : Addr
  dx : Addr
  hA : Addr
  sA : Addr
  tA : Addr
noncomputable abbrev Adr.D (a : Adr) : List Addr := [a.hA, a.sA, a.tA]

noncomputable def methNames : List Str := [Str.ofString "push", Str.ofString "new_var", Str.ofString "trim", Str.ofString "deref", Str.ofString "is_unbound", Str.ofString "bind", Str.ofString "bind_pair", Str.ofString "globalise", Str.ofString "mark", Str.ofString "undo_to", Str.ofString "stack_put"]
structure AD (es : List DictEntry) (a : Adr) (hb bb : Int) : Prop where
  heap : getL (Str.ofString "heap") es = some (some (.ref a.hA))
  stack : getL (Str.ofString "stack") es = some (some (.ref a.sA))
  trail : getL (Str.ofString "trail") es = some (some (.ref a.tA))
  hb : ∃ t, getL (Str.ofString "hb") es = some (some (.int hb t))
  bb : ∃ t, getL (Str.ofString "bb") es = some (some (.int bb t))
  mx : ∃ t, getL (Str.ofString "max_heap") es = some (some (.int 100000 t))
  meth : ∀ nm ∈ methNames, getL nm es = some none
  len : es.length ≤ 20

structure AR (l : Led) (a : Adr) (σ : Sig) : Prop where
  ob : (a.ax, instObj 324 a.dx) ∈ l
  di : ∃ es k, (a.dx, dictOf es k) ∈ l ∧ AD es a σ.hb σ.bb
  hp : ∃ vs, LL l a.hA vs ∧ Cels l vs σ.heap
  sp : ∃ vs, LL l a.sA vs ∧ Cels l vs σ.stack
  tp : ∃ vs, LL l a.tA vs ∧ IntsAre vs σ.trail
  n1 : a.hA ≠ a.sA
  n2 : a.hA ≠ a.tA
  n3 : a.sA ≠ a.tA
  n4 : a.dx ∉ a.D

theorem AR.sub {D : List Addr} {l l' : Led} {a : Adr} {σ : Sig} (h : AR l a σ) (s : Sub D l l') (d1 : a.dx ∉ D) (d2 : a.hA ∉ D) (d3 : a.sA ∉ D) (d4 : a.tA ∉ D) : AR l' a σ := by
  obtain ⟨ob, ⟨es, k, di, ad⟩, ⟨hv, h1, h2⟩, ⟨sv, s1, s2⟩, ⟨tv, t1, t2⟩, n1, n2, n3, n4⟩ := h
  exact ⟨s.fix ob, ⟨es, k, s _ di (.inr d1), ad⟩, ⟨hv, h1.sub s d2, h2.sub s⟩, ⟨sv, s1.sub s d3, s2.sub s⟩, ⟨tv, t1.sub s d4, t2⟩, n1, n2, n3, n4⟩
theorem AR.sub0 {l l' : Led} {a : Adr} {σ : Sig} (h : AR l a σ) (s : Sub [] l l') : AR l' a σ := h.sub s (by simp) (by simp) (by simp) (by simp)

theorem k_at (w : World) : hasDictIn (hd.heap_39 w.params) 324 = true := by k_is
theorem k_heap (w : World) : plainGet (hd.heap_39 w.params) 324 (Str.ofString "heap") = true ∧ findIn (hd.heap_39 w.params) (.ref 324) (Str.ofString "heap") = some none := ⟨by k_is, by k_is⟩
theorem k_stack (w : World) : plainGet (hd.heap_39 w.params) 324 (Str.ofString "stack") = true ∧ findIn (hd.heap_39 w.params) (.ref 324) (Str.ofString "stack") = some none := ⟨by k_is, by k_is⟩
theorem k_trail (w : World) : plainGet (hd.heap_39 w.params) 324 (Str.ofString "trail") = true ∧ findIn (hd.heap_39 w.params) (.ref 324) (Str.ofString "trail") = some none := ⟨by k_is, by k_is⟩
theorem k_hb (w : World) : plainGet (hd.heap_39 w.params) 324 (Str.ofString "hb") = true ∧ findIn (hd.heap_39 w.params) (.ref 324) (Str.ofString "hb") = some none := ⟨by k_is, by k_is⟩
theorem k_bb (w : World) : plainGet (hd.heap_39 w.params) 324 (Str.ofString "bb") = true ∧ findIn (hd.heap_39 w.params) (.ref 324) (Str.ofString "bb") = some none := ⟨by k_is, by k_is⟩
theorem k_mx (w : World) : plainGet (hd.heap_39 w.params) 324 (Str.ofString "max_heap") = true ∧ findIn (hd.heap_39 w.params) (.ref 324) (Str.ofString "max_heap") = some none := ⟨by k_is, by k_is⟩

section
variable {w : World} {A : Around} {g : Heap} {L : Addr} {m : Map} {l : Led} {n : Nat} {env : Env} {a : Adr} {σ : Sig} {expr : Bool} {value slice : Expr} {t u : Tok} {v v' : Value} {c c' : Cc}

theorem A_heap {Φ : Value → Map → Led → Prop} (C : Ctx w n A env g L) (H : AR l a σ) (h : Φ (.ref a.hA) m l) : Tri w A g L (getAttr (.ref a.ax) (Str.ofString "heap") expr) m l Φ := by
  obtain ⟨es, k, di, ad⟩ := H.di
  exact T_attrOwn C H.ob di (k_heap w).1 (k_at w) (k_heap w).2 rfl ad.heap rfl h
theorem A_stack {Φ : Value → Map → Led → Prop} (C : Ctx w n A env g L) (H : AR l a σ) (h : Φ (.ref a.sA) m l) : Tri w A g L (getAttr (.ref a.ax) (Str.ofString "stack") expr) m l Φ := by
  obtain ⟨es, k, di, ad⟩ := H.di
  exact T_attrOwn C H.ob di (k_stack w).1 (k_at w) (k_stack w).2 rfl ad.stack rfl h
theorem A_trail {Φ : Value → Map → Led → Prop} (C : Ctx w n A env g L) (H : AR l a σ) (h : Φ (.ref a.tA) m l) : Tri w A g L (getAttr (.ref a.ax) (Str.ofString "trail") expr) m l Φ := by
  obtain ⟨es, k, di, ad⟩ := H.di
  exact T_attrOwn C H.ob di (k_trail w).1 (k_at w) (k_trail w).2 rfl ad.trail rfl h
theorem A_hb {Φ : Value → Map → Led → Prop} (C : Ctx w n A env g L) (H : AR l a σ) (h : ∀ t, Φ (.int σ.hb t) m l) : Tri w A g L (getAttr (.ref a.ax) (Str.ofString "hb") expr) m l Φ := by
  obtain ⟨es, k, di, ad⟩ := H.di
  obtain ⟨t, e⟩ := ad.hb
  exact T_attrOwn C H.ob di (k_hb w).1 (k_at w) (k_hb w).2 rfl e rfl (h t)
theorem A_bb {Φ : Value → Map → Led → Prop} (C : Ctx w n A env g L) (H : AR l a σ) (h : ∀ t, Φ (.int σ.bb t) m l) : Tri w A g L (getAttr (.ref a.ax) (Str.ofString "bb") expr) m l Φ := by
  obtain ⟨es, k, di, ad⟩ := H.di
  obtain ⟨t, e⟩ := ad.bb
  exact T_attrOwn C H.ob di (k_bb w).1 (k_at w) (k_bb w).2 rfl e rfl (h t)
theorem A_mx {Φ : Value → Map → Led → Prop} (C : Ctx w n A env g L) (H : AR l a σ) (h : ∀ t, Φ (.int 100000 t) m l) : Tri w A g L (getAttr (.ref a.ax) (Str.ofString "max_heap") expr) m l Φ := by
  obtain ⟨es, k, di, ad⟩ := H.di
  obtain ⟨t, e⟩ := ad.mx
  exact T_attrOwn C H.ob di (k_mx w).1 (k_at w) (k_mx w).2 rfl e rfl (h t)
theorem A_meth {name : Str} {f : Addr} {pl : Sem Bool} {Φ : Value × List Value → Map → Led → Prop} (C : Ctx w n A env g L) (H : AR l a σ) (hg : plainGet (hd.heap_39 w.params) 324 name = true)
    (hf : findIn (hd.heap_39 w.params) (.ref 324) name = some (some (.ref f))) (ht : isFn (hd.heap_39 w.params) (.ref f) = true) (hm : name ∈ methNames) (h : Φ (.ref f, [.ref a.ax]) m l) : Tri w A g L (getMethod (.ref a.ax) name pl) m l Φ := by
  obtain ⟨es, k, di, ad⟩ := H.di
  exact T_methOwn C H.ob di hg hf ht (ad.meth _ hm) h

-- cells
theorem C_0 {Φ : Value → Map → Led → Prop} (hc : Cel l v c) (h : ∀ t, Φ (.int c.1 t) m l)
    (hs : ∀ b, subscripted slice false (.ref b) (.int 0 t) = operate [.ref b, .int 0 t] (getItem (.ref b) (.int 0 t)) := by intro _; with_unfolding_all rfl) : Tri w A g L (subscriptTail value slice v (.int 0 t)) m l Φ := by
  obtain ⟨b, t1, t2, rfl, q⟩ := hc
  exact T_itemT q (by decide) (by decide) (j := 0) rfl rfl (h _) (hs b)
theorem C_1 {Φ : Value → Map → Led → Prop} (hc : Cel l v c) (h : ∀ t, Φ (.int c.2 t) m l)
    (hs : ∀ b, subscripted slice false (.ref b) (.int 1 t) = operate [.ref b, .int 1 t] (getItem (.ref b) (.int 1 t)) := by intro _; with_unfolding_all rfl) : Tri w A g L (subscriptTail value slice v (.int 1 t)) m l Φ := by
  obtain ⟨b, t1, t2, rfl, q⟩ := hc
  exact T_itemT q (by decide) (by decide) (j := 1) rfl rfl (h _) (hs b)
noncomputable abbrev dC (c : Cc) : PyData := .tuple [.int c.1, .int c.2]
theorem reads_cel {s : Shared} (N : News g L s.heap l) (h : Cel l v c) : Reads s.heap v (dC c) [] := by
  obtain ⟨b, t1, t2, rfl, q⟩ := h
  exact reads_tuple_at (N _ q).1 rfl rfl (.cons (.int _ _) (.cons (.int _ _) .nil))
theorem eqv_cel : PyData.eqv (dC c) (dC c') = decide (c = c') := by
  obtain ⟨a, b⟩ := c
  obtain ⟨a', b'⟩ := c'
  simp only [PyData.eqv, PyData.eqvAll, Bool.and_true]
  by_cases h1 : a = a' <;> by_cases h2 : b = b' <;> simp [h1, h2]
theorem C_eq {Φ : Value → Map → Led → Prop} (C : Ctx w n A env g L) (hc : Cel l v c) (hc' : Cel l v' c') (h : Φ (.bool (decide (c = c'))) m l) : Tri w A g L (compareOp .Eq v v') m l Φ :=
  fun s F N => eq_dataH (reads_cel N hc) (reads_cel N hc') rfl rfl (by have := C.uni; omega) ⟨s.heap, s.toks, m, l, rfl, F, N, by rw [eqv_cel]; exact h⟩
theorem C_ne {Φ : Value → Map → Led → Prop} (C : Ctx w n A env g L) (hc : Cel l v c) (hc' : Cel l v' c') (h : Φ (.bool (decide (c ≠ c'))) m l) : Tri w A g L (compareOp .NotEq v v') m l Φ :=
  fun s F N => ne_dataH (reads_cel N hc) (reads_cel N hc') rfl rfl (by have := C.uni; omega) ⟨s.heap, s.toks, m, l, rfl, F, N, by rw [eqv_cel, ← decide_not]; exact h⟩
theorem C_new {x y : Int} {Φ : Value → Map → Led → Prop} (h : ∀ v l', Cel l' v (x, y) → Sub [] l l' → (∃ b, v = .ref b ∧ New l b) → Φ v m l') : Tri w A g L (newTuple [.int x t, .int y u]) m l Φ :=
  T_newTuple (by rw [sizeLine_eq]; simp) fun b l' q s nw => h _ _ ⟨b, t, u, rfl, q⟩ s ⟨b, rfl, nw⟩

-- the areas
noncomputable abbrev at' (xs : List Cc) (k : Int) : Cc := xs.getD k.toNat (5, 0)
theorem A_hget {k : Int} {Φ : Value → Map → Led → Prop} (H : AR l a σ) (h0 : 0 ≤ k) (h1 : k < σ.heap.length) (hz : σ.heap.length < 100000) (h : ∀ v, Cel l v (at' σ.heap k) → Φ v m l)
    (hs : ∀ b, subscripted slice false (.ref b) (.int k t) = operate [.ref b, .int k t] (getItem (.ref b) (.int k t)) := by intro _; with_unfolding_all rfl) : Tri w A g L (subscriptTail value slice (.ref a.hA) (.int k t)) m l Φ := by
  obtain ⟨vs, q, cs⟩ := H.hp
  obtain ⟨v, e, hc⟩ := cs.get (k := k.toNat) (by omega)
  exact T_itemL q h0 (by omega) e (h v hc) (hs _)
theorem A_sget {k : Int} {Φ : Value → Map → Led → Prop} (H : AR l a σ) (h0 : 0 ≤ k) (h1 : k < σ.stack.length) (hz : σ.stack.length < 100000) (h : ∀ v, Cel l v (at' σ.stack k) → Φ v m l)
    (hs : ∀ b, subscripted slice false (.ref b) (.int k t) = operate [.ref b, .int k t] (getItem (.ref b) (.int k t)) := by intro _; with_unfolding_all rfl) : Tri w A g L (subscriptTail value slice (.ref a.sA) (.int k t)) m l Φ := by
  obtain ⟨vs, q, cs⟩ := H.sp
  obtain ⟨v, e, hc⟩ := cs.get (k := k.toNat) (by omega)
  exact T_itemL q h0 (by omega) e (h v hc) (hs _)
theorem A_hset {k : Int} {Φ : Unit → Map → Led → Prop} (H : AR l a σ) (h0 : 0 ≤ k) (h1 : k < σ.heap.length) (hz : σ.heap.length < 100000) (hc : Cel l v c) (h : ∀ l', AR l' a { σ with heap := σ.heap.set k.toNat c } → Sub a.D l l' → Φ () m l') : Tri w A g L (setItem (.ref a.hA) (.int k t) v) m l Φ := by
  obtain ⟨ob, ⟨es, e1, di, ad⟩, ⟨hv, p1, p2⟩, ⟨sv, s1, s2⟩, ⟨tv, t1, t2⟩, n1, n2, n3, n4⟩ := H
  refine T_setL p1 h0 (by rw [p2.len]; exact h1) (by omega) fun l' q s => ?_
  refine h l' ⟨s.fix ob, ⟨es, e1, s _ di (.inr fun z => n4 (by simp at z; simp [z])), ad⟩, ⟨_, q, (p2.set hc _).sub s⟩, ⟨sv, s1.sub s (by simpa using Ne.symm n1), s2.sub s⟩, ⟨tv, t1.sub s (by simpa using Ne.symm n2), t2⟩, n1, n2, n3, n4⟩ (s.mono (by simp))
theorem A_sset {k : Int} {Φ : Unit → Map → Led → Prop} (H : AR l a σ) (h0 : 0 ≤ k) (h1 : k < σ.stack.length) (hz : σ.stack.length < 100000) (hc : Cel l v c) (h : ∀ l', AR l' a { σ with stack := σ.stack.set k.toNat c } → Sub a.D l l' → Φ () m l') : Tri w A g L (setItem (.ref a.sA) (.int k t) v) m l Φ := by
  obtain ⟨ob, ⟨es, e1, di, ad⟩, ⟨hv, p1, p2⟩, ⟨sv, s1, s2⟩, ⟨tv, t1, t2⟩, n1, n2, n3, n4⟩ := H
  refine T_setL s1 h0 (by rw [s2.len]; exact h1) (by omega) fun l' q s => ?_
  refine h l' ⟨s.fix ob, ⟨es, e1, s _ di (.inr fun z => n4 (by simp at z; simp [z])), ad⟩, ⟨hv, p1.sub s (by simpa using n1), p2.sub s⟩, ⟨_, q, (s2.set hc _).sub s⟩, ⟨tv, t1.sub s (by simpa using Ne.symm n3), t2⟩, n1, n2, n3, n4⟩ (s.mono (by simp))
theorem A_happ {Φ : Value → Map → Led → Prop} (H : AR l a σ) (hz : σ.heap.length < 100000) (hc : Cel l v c) (h : ∀ l', AR l' a { σ with heap := σ.heap ++ [c] } → Sub a.D l l' → Φ .none m l') : Tri w A g L (call (.builtin "list.append") [.ref a.hA, v]) m l Φ := by
  obtain ⟨ob, ⟨es, e1, di, ad⟩, ⟨hv, p1, p2⟩, ⟨sv, s1, s2⟩, ⟨tv, t1, t2⟩, n1, n2, n3, n4⟩ := H
  refine T_append p1 (by rw [p2.len, sizeLine_eq]; omega) fun l' q s => ?_
  refine h l' ⟨s.fix ob, ⟨es, e1, s _ di (.inr fun z => n4 (by simp at z; simp [z])), ad⟩, ⟨_, q, (p2.app (.cons hc .nil)).sub s⟩, ⟨sv, s1.sub s (by simpa using Ne.symm n1), s2.sub s⟩, ⟨tv, t1.sub s (by simpa using Ne.symm n2), t2⟩, n1, n2, n3, n4⟩ (s.mono (by simp))
theorem A_sapp {Φ : Value → Map → Led → Prop} (H : AR l a σ) (hz : σ.stack.length < 100000) (hc : Cel l v c) (h : ∀ l', AR l' a { σ with stack := σ.stack ++ [c] } → Sub a.D l l' → Φ .none m l') : Tri w A g L (call (.builtin "list.append") [.ref a.sA, v]) m l Φ := by
  obtain ⟨ob, ⟨es, e1, di, ad⟩, ⟨hv, p1, p2⟩, ⟨sv, s1, s2⟩, ⟨tv, t1, t2⟩, n1, n2, n3, n4⟩ := H
  refine T_append s1 (by rw [s2.len, sizeLine_eq]; omega) fun l' q s => ?_
  refine h l' ⟨s.fix ob, ⟨es, e1, s _ di (.inr fun z => n4 (by simp at z; simp [z])), ad⟩, ⟨hv, p1.sub s (by simpa using n1), p2.sub s⟩, ⟨_, q, (s2.app (.cons hc .nil)).sub s⟩, ⟨tv, t1.sub s (by simpa using Ne.symm n3), t2⟩, n1, n2, n3, n4⟩ (s.mono (by simp))
theorem A_tapp {e : Int} {Φ : Value → Map → Led → Prop} (H : AR l a σ) (hz : σ.trail.length < 100000) (h : ∀ l', AR l' a { σ with trail := σ.trail ++ [e] } → Sub a.D l l' → Φ .none m l') : Tri w A g L (call (.builtin "list.append") [.ref a.tA, .int e t]) m l Φ := by
  obtain ⟨ob, ⟨es, e1, di, ad⟩, ⟨hv, p1, p2⟩, ⟨sv, s1, s2⟩, ⟨tv, t1, t2⟩, n1, n2, n3, n4⟩ := H
  refine T_append t1 (by rw [t2.length, sizeLine_eq]; omega) fun l' q s => ?_
  refine h l' ⟨s.fix ob, ⟨es, e1, s _ di (.inr fun z => n4 (by simp at z; simp [z])), ad⟩, ⟨hv, p1.sub s (by simpa using n2), p2.sub s⟩, ⟨sv, s1.sub s (by simpa using n3), s2.sub s⟩, ⟨_, q, t2.append (.cons _ _ .nil)⟩, n1, n2, n3, n4⟩ (s.mono (by simp))
theorem ints_snoc {vs : List Value} {ns : List Int} {e : Int} (h : IntsAre vs (ns ++ [e])) : ∃ us t, vs = us ++ [.int e t] ∧ IntsAre us ns := by
  induction ns generalizing vs with
  | nil => cases h with | cons _ t r => cases r; exact ⟨[], t, rfl, .nil⟩
  | cons x r ih => cases h with | cons _ t q => obtain ⟨us, t', e1, e2⟩ := ih q; exact ⟨_ :: us, t', by rw [e1]; rfl, .cons _ _ e2⟩
theorem A_tpop {tr : List Int} {e : Int} {Φ : Value → Map → Led → Prop} (H : AR l a σ) (ht : σ.trail = tr ++ [e]) (hz : σ.trail.length < 100000) (h : ∀ l' t, AR l' a { σ with trail := tr } → Sub a.D l l' → Φ (.int e t) m l') : Tri w A g L (call (.builtin "list.pop") [.ref a.tA]) m l Φ := by
  obtain ⟨ob, ⟨es, e1, di, ad⟩, ⟨hv, p1, p2⟩, ⟨sv, s1, s2⟩, ⟨tv, t1, t2⟩, n1, n2, n3, n4⟩ := H
  have hl := t2.length
  rw [ht] at t2
  obtain ⟨us, t', rfl, t3⟩ := ints_snoc t2
  refine T_pop t1 (by rw [sizeLine_eq]; simp at hl; omega) fun l' q s => ?_
  refine h l' _ ⟨s.fix ob, ⟨es, e1, s _ di (.inr fun z => n4 (by simp at z; simp [z])), ad⟩, ⟨hv, p1.sub s (by simpa using n2), p2.sub s⟩, ⟨sv, s1.sub s (by simpa using n3), s2.sub s⟩, ⟨_, q, t3⟩, n1, n2, n3, n4⟩ (s.mono (by simp))
theorem A_hlen {Φ : Value → Map → Led → Prop} (H : AR l a σ) (hz : σ.heap.length < 100000) (h : ∀ t, Φ (.int (σ.heap.length : Nat) t) m l) : Tri w A g L (call (.builtin "len") [.ref a.hA]) m l Φ := by
  obtain ⟨vs, q, cs⟩ := H.hp
  exact T_lenL q (by rw [cs.len]; omega) (by rw [cs.len]; exact h)
theorem A_slen {Φ : Value → Map → Led → Prop} (H : AR l a σ) (hz : σ.stack.length < 100000) (h : ∀ t, Φ (.int (σ.stack.length : Nat) t) m l) : Tri w A g L (call (.builtin "len") [.ref a.sA]) m l Φ := by
  obtain ⟨vs, q, cs⟩ := H.sp
  exact T_lenL q (by rw [cs.len]; omega) (by rw [cs.len]; exact h)
theorem A_tlen {Φ : Value → Map → Led → Prop} (H : AR l a σ) (hz : σ.trail.length < 100000) (h : ∀ t, Φ (.int (σ.trail.length : Nat) t) m l) : Tri w A g L (call (.builtin "len") [.ref a.tA]) m l Φ := by
  obtain ⟨vs, q, cs⟩ := H.tp
  exact T_lenL q (by rw [cs.length]; omega) (by rw [cs.length]; exact h)
theorem A_happM {Φ : Value × List Value → Map → Led → Prop} {pl : Sem Bool} (H : AR l a σ) (h : Φ (.builtin "list.append", [.ref a.hA]) m l) : Tri w A g L (getMethod (.ref a.hA) (Str.ofString "append") pl) m l Φ := by
  obtain ⟨vs, q, cs⟩ := H.hp
  exact T_methL q PySem.F.slot_list_append PySem.F.type_list_append h
theorem A_sappM {Φ : Value × List Value → Map → Led → Prop} {pl : Sem Bool} (H : AR l a σ) (h : Φ (.builtin "list.append", [.ref a.sA]) m l) : Tri w A g L (getMethod (.ref a.sA) (Str.ofString "append") pl) m l Φ := by
  obtain ⟨vs, q, cs⟩ := H.sp
  exact T_methL q PySem.F.slot_list_append PySem.F.type_list_append h
theorem A_tappM {Φ : Value × List Value → Map → Led → Prop} {pl : Sem Bool} (H : AR l a σ) (h : Φ (.builtin "list.append", [.ref a.tA]) m l) : Tri w A g L (getMethod (.ref a.tA) (Str.ofString "append") pl) m l Φ := by
  obtain ⟨vs, q, cs⟩ := H.tp
  exact T_methL q PySem.F.slot_list_append PySem.F.type_list_append h
theorem A_tpopM {Φ : Value × List Value → Map → Led → Prop} {pl : Sem Bool} (H : AR l a σ) (h : Φ (.builtin "list.pop", [.ref a.tA]) m l) : Tri w A g L (getMethod (.ref a.tA) (Str.ofString "pop") pl) m l Φ := by
  obtain ⟨vs, q, cs⟩ := H.tp
  exact T_methL q PySem.F.slot_list_pop PySem.F.type_list_pop h
end
end Mine
end
section
open PySem PySem.W PySem.Calls PyProof.Rows PyProof.V PySem.Spec
namespace Mine
section
variable {w : World} {A : Around} {g : Heap} {L : Addr} {m : Map} {l : Led} {n : Nat} {env : Env}

/-- an element of a comprehension, read alone: the ledger stays -/
noncomputable def EltOk (w : World) (A : Around) (g : Heap) (L : Addr) (m : Map) (l₁ : Led) (env : Env) (elt : Expr) (x : Str) (scope : Scope) (cl : List (Str × Addr)) (vs : List Value) (Rel : Nat → Value → Value → Prop) : Prop :=
  ∀ i v, vs[i]? = some v → ∀ (lf : Led) (Ca : Addr) (oC : Obj) (m₂ : Map), (∀ p ∈ l₁, p ∈ lf) → (Ca, oC) ∈ lf → LCg.NsObj oC m₂ → m₂ x = some v →
    Tri w A g L (eval elt (compEnvC scope cl Ca env)) m lf (fun y m' l' => m' = m ∧ l' = lf ∧ Rel i v y)
/-- what the elements came to -/
noncomputable def CompYs (vs : List Value) (Rel : Nat → Value → Value → Prop) (ys : List Value) : Prop := ys.length = vs.length ∧ ∀ i, i < vs.length → ∃ v y, vs[i]? = some v ∧ ys[i]? = some y ∧ Rel i v y

theorem comp_rest {elt : Expr} {x : Str} {scope : Scope} {cl : List (Str × Addr)} {s : Shared} {S : Led → Prop} {Fin : List Value → Led → Prop} {vs : List Value} {l₁ : Led} {Rel : Nat → Value → Value → Prop}
    (hS : S l₁) (turn : EltOk w A g L m l₁ env elt x scope cl vs Rel) (fin : ∀ ys, CompYs vs Rel ys → Fin ys l₁) :
    LCg.CompRest P0 w A g L m env elt x scope cl s S (fun i v => vs.toArray[i]? = some v) Fin vs.toArray.size 0 [] l₁ := by
  have key : ∀ (j i : Nat) (ys : List Value), i + j = vs.length → ys.length = i → (∀ k, k < i → ∃ v y, vs[k]? = some v ∧ ys[k]? = some y ∧ Rel k v y) →
      LCg.CompRest P0 w A g L m env elt x scope cl s S (fun i v => vs.toArray[i]? = some v) Fin j i ys l₁ := by
    intro j
    induction j with
    | zero => exact fun i ys hi hy hr => LCg.CompRest.zero (fin ys ⟨by omega, fun k hk => hr k (by omega)⟩)
    | succ j ih =>
      intro i ys hi hy hr
      refine LCg.CompRest.succ ?_
      intro v I oI Ca oC D m₂ h tk E' hv hC hx F N off ne
      have hv' : vs[i]? = some v := by simpa using hv
      refine (turn i v hv' ((I, oI) :: (Ca, oC) :: (D, LCg.lst ys) :: l₁) Ca oC m₂ (fun p hp => .tail _ (.tail _ (.tail _ hp))) (.tail _ (.head _)) hC hx).go (s := { s with heap := h, toks := tk }) F N fun y h' tk' m' l' F' N' p => ?_
      obtain ⟨rfl, rfl, hrel⟩ := p
      refine ⟨h', tk', l₁, rfl, F', N', off, hS, ?_⟩
      refine ih (i + 1) _ (by omega) (by simp [hy]) fun k hk => ?_
      by_cases hki : k < i
      · obtain ⟨v', y', e1, e2, e3⟩ := hr k hki
        exact ⟨v', y', e1, by rw [List.getElem?_append_left (by omega)]; exact e2, e3⟩
      · have e : k = i := by omega
        subst e
        exact ⟨v, y, hv', by rw [List.getElem?_append_right (by omega), hy]; simp, hrel⟩
  have := key vs.length 0 [] (by omega) rfl fun k hk => absurd hk (Nat.not_lt_zero _)
  simpa using this

/-- y = [elt for x in iter], y a local name -/
theorem T_compL {elt iter : Expr} {x y : Str} {px py : Pos} {scope : Scope} {cl : List (Str × Addr)} {pos spos : Pos} {Φ : Flow → Map → Led → Prop} (C : Ctx w n A env g L)
    (h : Tri w A g L (eval iter env) m l (fun xv m₁ l₁ => m₁ = m ∧ ∃ ax vs Rel, xv = .ref ax ∧ LL l₁ ax vs ∧ vs.length ≤ sizeLine ∧ EltOk w A g L m l₁ env elt x scope cl vs Rel ∧
      ∀ ys D l', CompYs vs Rel ys → LL l' D ys → Sub [] l₁ l' → New l₁ D → Φ .next (fun z => if z = y then some (.ref D) else m z) l'))
    (hsw : swapsWith (.ListComp elt [⟨.Name x px, iter, [], 0⟩] scope pos) (some (.Name y py)) spos.line env = pure true) (hclos : closureFor scope env = pure cl)
    (hcell : ∀ z ∈ scope.names, z.2 ≠ .cell) (hkind : scope.kind = .function) (hnames : ∀ z ∈ scope.names, z.2 = .local → scope.names.lookup z.1 = some .local) (hx : scope.names.lookup x = some .local)
    (hy : env.kindOf y = some .local) (hs : ∀ x, foldedSetIterable iter env x = pure x) :
    Tri w A g L (exec (.Assign [.Name y py] (.ListComp elt [⟨.Name x px, iter, [], 0⟩] scope pos) spos) env) m l Φ := by
  intro s F N
  refine LCg.Assign_ListComp_U F C.loc hsw hclos hcell hkind hnames hx hy (by rw [C.kind]; rfl) (h.go F N fun xv h' tk' m' l' F' N' p => ?_) hs
  obtain ⟨rfl, ax, vs, Rel, rfl, ⟨c, hm⟩, hz, he, hf⟩ := p
  refine LCg.CompSrc.ledger C.han F' N' hm (by rw [List.size_toArray]; exact hz) fun g' => ?_
  refine comp_rest (.inr ⟨_, hm, rfl, _, rfl⟩) he fun ys hys => ?_
  intro D h'' tk'' F'' N'' off
  have nw : ∀ p ∈ l', p.1 ≠ D := by
    have key : ∀ {q : Led}, LCg.Off1 D q → ∀ p ∈ q, p.1 ≠ D := by
      intro q
      induction q with
      | nil => intro _ p hp; cases hp
      | cons a r ih => intro hq p hp; rcases List.mem_cons.mp hp with rfl | hp; exact hq.1; exact ih hq.2 p hp
    exact key off
  exact ⟨h'', tk'', _, _, rfl, F'', N'', hf ys D _ hys ⟨_, .head _⟩ (fun p hp _ => .tail _ hp) nw⟩

theorem T_nameX {x : Str} {pos : Pos} {v : Value} {scope : Scope} {cl : List (Str × Addr)} {Ca : Addr} {oC : Obj} {m₂ : Map} {Φ : Value → Map → Led → Prop} (hC : (Ca, oC) ∈ l) (hn : LCg.NsObj oC m₂) (hv : m₂ x = some v) (h : Φ v m l)
    (hk : (compEnvC scope cl Ca env).scope.kind = .function := by rfl) (hx : (compEnvC scope cl Ca env).kindOf x = some .local := by rfl) (hd : (x == ("__debug__" : Str)) = false := by decide) : Tri w A g L (eval (.Name x pos) (compEnvC scope cl Ca env)) m l Φ :=
  fun s F N => wpAny_Name (wpAny_loadName_local hk hx (hn.ns (N _ hC).1) hv ⟨s.heap, s.toks, m, l, rfl, F, N, h⟩) hd
theorem T_nameXC {x : Str} {pos : Pos} {v : Value} {scope : Scope} {cl : List (Str × Addr)} {Ca c : Addr} {o : Obj} {Φ : Value → Map → Led → Prop} (hc : cl.lookup x = some c) (hm : (c, o) ∈ l) (hd : o.data = .cell (some v)) (h : Φ v m l)
    (hk : (compEnvC scope cl Ca env).scope.kind = .function := by rfl) (hx : (compEnvC scope cl Ca env).kindOf x = some .cell := by rfl) (hb : (x == ("__debug__" : Str)) = false := by decide) : Tri w A g L (eval (.Name x pos) (compEnvC scope cl Ca env)) m l Φ :=
  fun s F N => wpAny_Name (wpAny_loadName_cell hk hx hc ⟨o, N.get hm, hd⟩ ⟨s.heap, s.toks, m, l, rfl, F, N, h⟩) hb
end
end Mine
end
section
open PySem PySem.W PySem.Calls PyProof.Rows PyProof.V PySem.Spec
namespace Mine

/-- a dict of ints under ints: val says what stands under a key; k bounds its size -/
noncomputable def DI (w : World) (l : Led) (d : Addr) (val : Int → Option Int) (k : Nat) : Prop :=
  (d == sysModules) = false ∧ ∃ o kvs D, (d, o) ∈ l ∧ o.IsDictOf (PySem.intKind P0 w) kvs ∧ FlatPairs PyData.int kvs D ∧ (∀ i, lookup (.int i) D = (val i).map PyData.int) ∧ D.length ≤ k
theorem DI.sub {D : List Addr} {w : World} {l l' : Led} {d : Addr} {val : Int → Option Int} {k : Nat} (h : DI w l d val k) (s : Sub D l l') (hn : d ∉ D) : DI w l' d val k :=
  ⟨h.1, let ⟨o, kvs, E, a, r⟩ := h.2; ⟨o, kvs, E, s _ a (.inr hn), r⟩⟩
theorem DI.more {w : World} {l : Led} {d : Addr} {val : Int → Option Int} {k k' : Nat} (h : DI w l d val k) (hk : k ≤ k') : DI w l d val k' :=
  ⟨h.1, let ⟨o, kvs, E, a, b, c, e, f⟩ := h.2; ⟨o, kvs, E, a, b, c, e, by omega⟩⟩
theorem New.neD {w : World} {l : Led} {a d : Addr} {val : Int → Option Int} {k : Nat} (h : New l a) (hb : DI w l d val k) : d ≠ a := let ⟨_, _, _, q, _⟩ := hb.2; h _ q
theorem LL.neD {w : World} {l : Led} {L a d : Addr} {vs : List Value} {val : Int → Option Int} {k : Nat} (hF : LFun L l) (h : LL l a vs) (hb : DI w l d val k) : a ≠ d := by
  rintro rfl
  obtain ⟨c, q⟩ := h
  obtain ⟨o, kvs, D, q', hd, _⟩ := hb.2
  have := hF.1 _ _ _ q q'
  obtain ⟨es, ep, he, hdd, _⟩ := hd
  rw [← this] at hdd
  cases hdd

section
variable {w : World} {A : Around} {g : Heap} {L : Addr} {m : Map} {l : Led} {n : Nat} {env : Env} {d : Addr} {val : Int → Option Int} {k : Nat} {i : Int} {t : Tok}

theorem tab_of {s : Shared} (N : News g L s.heap l) (h : DI w l d val k) : ∃ D, TabAt (PySem.intKind P0 w) PyData.int s.heap d D ∧ (∀ i, lookup (.int i) D = (val i).map PyData.int) ∧ D.length ≤ k := by
  obtain ⟨lo, o, kvs, D, q, hd, hf, hv, hk⟩ := h
  exact ⟨D, TabAt.ofNews N q lo hd hf, hv, hk⟩
theorem D_in {Φ : Value → Map → Led → Prop} (h : DI w l d val k) (q : Φ (.bool (val i).isSome) m l) : Tri w A g L (compareOp .In (.int i t) (.ref d)) m l Φ := fun s F N => by
  obtain ⟨D, T, hv, _⟩ := tab_of N h
  exact in_intTab T ⟨s.heap, _, m, l, rfl, F, N, by rw [hv, Option.isSome_map]; exact q⟩
theorem D_notIn {Φ : Value → Map → Led → Prop} (h : DI w l d val k) (q : Φ (.bool (!(val i).isSome)) m l) : Tri w A g L (compareOp .NotIn (.int i t) (.ref d)) m l Φ := fun s F N => by
  obtain ⟨D, T, hv, _⟩ := tab_of N h
  exact notin_intTab T ⟨s.heap, _, m, l, rfl, F, N, by rw [hv, Option.isSome_map]; exact q⟩
theorem D_item {value slice : Expr} {x : Int} {Φ : Value → Map → Led → Prop} (h : DI w l d val k) (hx : val i = some x) (q : ∀ t, Φ (.int x t) m l)
    (hs : subscripted slice false (.ref d) (.int i t) = operate [.ref d, .int i t] (getItem (.ref d) (.int i t)) := by with_unfolding_all rfl) (hg : ∀ r, letTemporaryGo value (.ref d) r = pure () := by intro _; with_unfolding_all rfl) :
    Tri w A g L (subscriptTail value slice (.ref d) (.int i t)) m l Φ := fun s F N => by
  obtain ⟨D, T, hv, _⟩ := tab_of N h
  refine item_intTab T (by rw [hv, hx]; rfl) (fun v hF => ?_) hs hg
  have hR := hF s.heap
  cases hR with
  | int _ t => exact ⟨s.heap, _, m, l, rfl, F, N, q _⟩
theorem D_set {x : Int} {u : Tok} {Φ : Unit → Map → Led → Prop} (h : DI w l d val k) (hk : k < 100000) (q : ∀ l', DI w l' d (fun j => if j = i then some x else val j) (k + 1) → Sub [d] l l' → Φ () m l') : Tri w A g L (setItem (.ref d) (.int i t) (.int x u)) m l Φ := fun s F N => by
  obtain ⟨lo, o, kvs, D, hm, hd, hf, hv, hl⟩ := h
  refine wpAny_setItem_pairs (hsz := by rw [← hf.length, sizeLine_eq]; omega) (intKind_is P0 w i t) (Heap.dictOf_iff.mpr ⟨o, (N _ hm).1, hd⟩) fun h' hmm hs => ?_
  obtain ⟨o', ho', hd'⟩ := Heap.dictOf_iff.mp hmm
  obtain ⟨F', l', N', m1, m2⟩ := change F N hm hs ho'
  refine ⟨_, _, m, l', rfl, F', N', q l' ⟨lo, o', _, putD (.int i) (.int x) D, m1, hd', hf.stored same_int i (.int _ _), fun j => ?_, ?_⟩ (fun p hp c => m2 p hp fun e => ?_)⟩
  · by_cases hj : j = i
    · subst hj; simp [lookup_putD_same]
    · rw [lookup_putD_other hj, hv]; simp [hj]
  · unfold putD
    split <;> simp <;> omega
  · rcases c with c | c
    · have := (N p hp).1
      rw [e, (N _ hm).1] at this
      obtain ⟨es, ep, he, _⟩ := hd
      rw [← Option.some.inj this] at c
      have c := fixC_cls c
      rw [he.1] at c
      exact absurd (show fixV (.type "dict") = true from c) (by decide)
    · exact c (by simp [e])
theorem D_new {pos : Pos} {Φ : Value → Map → Led → Prop} (C : Ctx w n A env g L) (q : ∀ b l', DI w l' b (fun _ => none) 0 → Sub [] l l' → New l b → Φ (.ref b) m l') : Tri w A g L (eval (.Dict [] [] pos) env) m l Φ := fun s F N => by
  obtain ⟨mean, mg, mb, T⟩ := C.top
  refine newDict_K F N T.nolimit fun b h' o F' N' l1 lo _ _ hi fi => ⟨h', _, m, _, rfl, F', N', q b _ ⟨lo, o, [], [], .head _, hi, fi, fun _ => rfl, Nat.le_refl _⟩ (fun p hp _ => .tail _ hp) fun p hp => Nat.ne_of_lt (l1 p hp)⟩
theorem D_copy {Φ : Value → Map → Led → Prop} (C : Ctx w n A env g L) (h : DI w l d val k) (hk : k < 100000) (q : ∀ b l', DI w l' b val k → Sub [] l l' → New l b → Φ (.ref b) m l') : Tri w A g L (call (.type "dict") [.ref d]) m l Φ := fun s F N => by
  obtain ⟨mean, mg, mb, T⟩ := C.top
  obtain ⟨D, T', hv, hl⟩ := tab_of N h
  refine kt_dict_of F N (modules_low T.nolimit) T' (by rw [sizeLine_eq]; omega) fun h' o kvs F' N' lo hd hf nw => ⟨h', _, m, _, rfl, F', N', q _ _ ⟨lo, o, kvs, D, .head _, hd, hf, hv, hl⟩ (fun p hp _ => .tail _ hp) nw⟩

theorem enterC {f : Addr} {name qual : Str} {params : Arguments} {body : List Stmt} {scope : Scope} {dV kV doc pm cdv ct oc : Value} {an od : Option Addr} {osl : Array (Option Value)} {args : List Value} {Post : Value → Led → Prop}
    (ho : (hd.heap_39 w.params).lookup f = some ⟨oc, od, .func (fnOf name qual params body scope dV kV doc pm an cdv ct), osl⟩) (hcd : codeIn (hd.heap_39 w.params) cdv qual = true) (binds : List (Str × Value))
    (hbind : bindArgs (fnOf name qual params body scope dV kV doc pm an cdv ct) ⟨args, []⟩ = pure binds)
    (hkind : (binds.all fun y => scope.names.lookup y.1 == some .local || scope.names.lookup y.1 == some .cell) = true) (hnd : ((cellsFrom 0 scope.names []).map (·.1)).Nodup)
    (h : ∀ A' env' g' L' cells l', env' = envOfC qual scope L' f cdv → Ctx w n A' env' g' L' → CellsAre (bindC (envOfC qual scope L' f cdv).kindOf binds fun _ => none) (cellsFrom (L' + 1) scope.names []) cells → l' = cells ++ l → (∀ p ∈ l, p.1 < L') →
      Tri w A' g' L' (execs body env') (bindL (envOfC qual scope L' f cdv).kindOf binds fun _ => none) l' (RetP Post))
    (hco : scope.isCoroutine = false) (hgen : scope.isGenerator = false) (hk : scope.kind = .function) : Spec w f (n + 1) args l Post := by
  intro A env g L m s C F N
  obtain ⟨A₀, base, outer, B, hA⟩ := C.below
  obtain ⟨mean, mg, mb, T⟩ := C.top
  refine code_defC B F C.X N T hA C.fr C.kind ho hcd (by have := C.dep; omega) (BindsTo.of_eq hbind) hkind hnd ?_ hco hgen hk
  intro g' L' h₁ tk cells FG F' N' Y B' X' T' hlt
  have C' : Ctx w n (A.deeper (envOfC qual scope L' f cdv)) (envOfC qual scope L' f cdv) g' L' := {
    below := ⟨A, base, _, B', Around.frames_deeper hA⟩
    top := ⟨mean, mg, mb, T'⟩
    fr := rfl
    loc := rfl
    kind := hk
    gen := hgen
    co := hco
    bu := rfl
    gl := rfl
    X := X'
    han := C.han
    dep := by have := C.dep; show A.depth + 1 + _ < _; omega
    uni := by have := C.uni; show A.units + 3 + _ < _; omega }
  refine (h _ _ g' L' cells _ rfl C' Y rfl hlt).go F' N' fun fl h' tk' m' l' F'' N'' p => ?_
  refine leaveK_ F'' N'' fun kF kN => ?_
  exact ⟨h', tk', l', rfl, kF, kN, p⟩
end
end Mine
end
section
open PySem PySem.W PySem.Calls PyProof.Rows PyProof.V PySem.Spec
open Mine
local macro_rules | `(tactic| walk_at "m") => `(tactic| first
  | with_reducible refine T_cons ?_
  | with_reducible refine SeqP.next ?_
  | with_reducible refine and_none ?_
  | with_reducible refine and_int ?_
  | with_reducible refine SeqP.ret ?_
  | with_reducible refine RetP.ret ?_
  | with_reducible refine RetP.next ?_
  | with_reducible refine T_nil ?_
  | ((with_reducible refine T_assign ?_ ?hs); (case hs => rfl))
  | ((with_reducible refine T_assignS ?_ ?hs); (case hs => rfl))
  | ((with_reducible refine T_assignA ?_ ?hs); (case hs => rfl))
  | ((with_reducible refine T_expr ?_ ?hi ?hs); (case hi => rfl); (case hs => rfl))
  | with_reducible refine T_if ?_
  | with_reducible refine T_ret ?_
  | with_reducible refine T_ret0 ?_
  | with_reducible refine T_aug ?_
  | ((with_reducible refine T_cmpI ?_ ?hs); (case hs => with_unfolding_all rfl))
  | ((with_reducible refine T_cmp ?_ ?hs); (case hs => with_unfolding_all rfl))
  | with_reducible refine T_and ?_
  | with_reducible refine T_and0 ?_
  | with_reducible refine T_or ?_
  | with_reducible refine T_or0 ?_
  | with_reducible refine T_notI ?_
  | ((with_reducible refine' T_name ?C ?hv ?_ ?hl ?hd); (case C => assumption); (case hl => rfl); (case hd => decide); (case hv => first | rfl | assumption))
  | ((with_reducible refine' T_nameL ?C ?hv ?_ ?hl); (case C => assumption); (case hl => rfl); (case hv => first | rfl | assumption))
  | ((with_reducible refine' T_nameK ?C ?he ?_ ?hl ?hd); (case C => assumption); (case hl => rfl); (case hd => decide); (case he => k_is))
  | ((with_reducible refine' T_nameB ?C ?he ?hv ?hn ?_ ?hl ?hd); (case C => assumption); (case hl => rfl); (case hd => decide); (case he => k_is); (case hv => boot_by_name); (case hn => decide))
  | (with_reducible refine T_int (fun _ => ?_))
  | with_reducible refine T_true ?_
  | with_reducible refine T_sub ?_
  | ((with_reducible refine T_attr ?_ ?he); (case he => with_unfolding_all rfl))
  | with_reducible refine T_bin ?_
  | with_reducible refine T_un ?_
  | with_reducible refine T_ifexp ?_
  | with_reducible refine T_tuple ?_
  | with_reducible refine T_list ?_
  | with_reducible refine T_truthyB ?_
  | with_reducible refine Ite_t ?_
  | with_reducible refine Ite_f ?_
  | with_reducible refine Ite_d (fun _ => ?_) (fun _ => ?_)
  | with_reducible refine Ite_n (fun _ => ?_) (fun _ => ?_)
  | with_reducible refine T_eqI ?_
  | with_reducible refine T_neI ?_
  | with_reducible refine T_ltI ?_
  | with_reducible refine T_leI ?_
  | with_reducible refine T_gtI ?_
  | with_reducible refine T_geI ?_
  | (with_reducible refine T_add (fun _ => ?_))
  | (with_reducible refine T_iadd (fun _ => ?_))
  | (with_reducible refine T_subI (fun _ => ?_))
  | (with_reducible refine T_neg (fun _ => ?_))
  | ((with_reducible refine' T_meth ?_ ?he); rotate_left; (case he => rfl))
  | ((with_reducible refine T_call ?_ ?he); (case he => rfl))
  | ((with_reducible refine T_callBf ?_ ?he ?hp); (case he => rfl); (case hp => rfl))
  | ((with_reducible refine T_callBm ?_ ?he ?hp); (case he => rfl); (case hp => rfl))
  | with_reducible refine T_callB0m ?_
  | ((with_reducible refine' T_callKf ?C ?hk ?_ ?he ?hp); (case C => assumption); (case hk => k_is); (case he => rfl); (case hp => rfl))
  | ((with_reducible refine' T_callKm ?C ?hk ?_ ?he ?hp); (case C => assumption); (case hk => k_is); (case he => rfl); (case hp => rfl))
  | ((with_reducible refine' T_callK0f ?C ?hk ?_); (case C => assumption); (case hk => k_is))
  | ((with_reducible refine' T_callK0m ?C ?hk ?_); (case C => assumption); (case hk => k_is))
  | ((with_reducible refine T_callT ?_ ?he ?hp); (case he => rfl); (case hp => rfl))
  | ((with_reducible refine T_items ?_ ?he); (case he => rfl))
  | with_reducible refine T_items0 ?_
  | ((with_reducible refine' T_store ?C ?_ ?hl); (case C => assumption); (case hl => rfl))
  | ((with_reducible refine T_plainI ?_ ?he); (case he => rfl)))
section
open PySem PySem.W PySem.Calls PyProof.Rows PyProof.V PySem.Spec
namespace Mine
theorem fillK_pick : PySem.Challenge.rw_no0163_01.prog = PySem.Challenge.rw_no0163_01.prog ∧ (∀ w : World, (hd.heap_39 w.params) = hd.heap_39 w.params) := by
  k_fill
  exact ⟨rfl, fun _ => rfl⟩

/-- what a number hand gives: index, rest, seed; the digit -/
noncomputable def pickH (ns : List Int) (i : Nat) (c g lim : Int) : Nat × Int × Int × Int :=
  if c = 0 then
    if (i : Int) = (ns.length : Int) then (i, c, Int.fmod (g * 48271) 2147483647, Int.fmod (Int.fdiv (Int.fmod (g * 48271) 2147483647) 7) lim)
    else if 0 ≤ ns.getD i 0 then (i + 1, Int.fdiv (ns.getD i 0) lim, g, Int.fmod (ns.getD i 0) lim)
    else (i + 1, Int.fdiv (-ns.getD i 0) lim, g, Int.fmod (-ns.getD i 0) lim)
  else (i, Int.fdiv c lim, g, Int.fmod c lim)

/-- the hand's list, the numbers; what else stood at l0 stands -/
structure HandOk (l0 l : Led) (hA cA : Addr) (cvs : List Value) (i c g : Int) : Prop where
  a : ∃ t1 t2 t3, LL l hA [.ref cA, .int i t1, .int c t2, .int g t3]
  b : LL l cA cvs
  s : Sub [hA] l0 l
  ne : cA ≠ hA
section
variable {w : World} {A : Around} {g : Heap} {L : Addr} {m : Map} {l l0 : Led} {n : Nat} {env : Env} {hA cA : Addr} {cvs : List Value} {i c gd : Int} {value slice : Expr} {t u : Tok} {x : Int}
theorem H_get0 {Φ : Value → Map → Led → Prop} (H : HandOk l0 l hA cA cvs i c gd) (h : Φ (.ref cA) m l)
    (hs : subscripted slice false (.ref hA) (.int 0 t) = operate [.ref hA, .int 0 t] (getItem (.ref hA) (.int 0 t)) := by with_unfolding_all rfl) : Tri w A g L (subscriptTail value slice (.ref hA) (.int 0 t)) m l Φ := by
  obtain ⟨⟨t1, t2, t3, a⟩, b, s, ne⟩ := H
  exact T_itemL a (by decide) (by decide) rfl h hs
theorem H_get1 {Φ : Value → Map → Led → Prop} (H : HandOk l0 l hA cA cvs i c gd) (h : ∀ t, Φ (.int i t) m l)
    (hs : subscripted slice false (.ref hA) (.int 1 t) = operate [.ref hA, .int 1 t] (getItem (.ref hA) (.int 1 t)) := by with_unfolding_all rfl) : Tri w A g L (subscriptTail value slice (.ref hA) (.int 1 t)) m l Φ := by
  obtain ⟨⟨t1, t2, t3, a⟩, b, s, ne⟩ := H
  exact T_itemL a (by decide) (by decide) rfl (h _) hs
theorem H_get2 {Φ : Value → Map → Led → Prop} (H : HandOk l0 l hA cA cvs i c gd) (h : ∀ t, Φ (.int c t) m l)
    (hs : subscripted slice false (.ref hA) (.int 2 t) = operate [.ref hA, .int 2 t] (getItem (.ref hA) (.int 2 t)) := by with_unfolding_all rfl) : Tri w A g L (subscriptTail value slice (.ref hA) (.int 2 t)) m l Φ := by
  obtain ⟨⟨t1, t2, t3, a⟩, b, s, ne⟩ := H
  exact T_itemL a (by decide) (by decide) rfl (h _) hs
theorem H_get3 {Φ : Value → Map → Led → Prop} (H : HandOk l0 l hA cA cvs i c gd) (h : ∀ t, Φ (.int gd t) m l)
    (hs : subscripted slice false (.ref hA) (.int 3 t) = operate [.ref hA, .int 3 t] (getItem (.ref hA) (.int 3 t)) := by with_unfolding_all rfl) : Tri w A g L (subscriptTail value slice (.ref hA) (.int 3 t)) m l Φ := by
  obtain ⟨⟨t1, t2, t3, a⟩, b, s, ne⟩ := H
  exact T_itemL a (by decide) (by decide) rfl (h _) hs
theorem H_set1 {Φ : Unit → Map → Led → Prop} (H : HandOk l0 l hA cA cvs i c gd) (h : ∀ l', HandOk l0 l' hA cA cvs x c gd → Φ () m l') : Tri w A g L (setItem (.ref hA) (.int 1 t) (.int x u)) m l Φ := by
  obtain ⟨⟨t1, t2, t3, a⟩, b, s, ne⟩ := H
  exact T_setL a (by decide) (by simp) (by decide) fun l' a' s' => h l' ⟨⟨_, _, _, a'⟩, b.sub s' (by simpa using ne), s.trans s', ne⟩
theorem H_set2 {Φ : Unit → Map → Led → Prop} (H : HandOk l0 l hA cA cvs i c gd) (h : ∀ l', HandOk l0 l' hA cA cvs i x gd → Φ () m l') : Tri w A g L (setItem (.ref hA) (.int 2 t) (.int x u)) m l Φ := by
  obtain ⟨⟨t1, t2, t3, a⟩, b, s, ne⟩ := H
  exact T_setL a (by decide) (by simp) (by decide) fun l' a' s' => h l' ⟨⟨_, _, _, a'⟩, b.sub s' (by simpa using ne), s.trans s', ne⟩
theorem H_set3 {Φ : Unit → Map → Led → Prop} (H : HandOk l0 l hA cA cvs i c gd) (h : ∀ l', HandOk l0 l' hA cA cvs i c x → Φ () m l') : Tri w A g L (setItem (.ref hA) (.int 3 t) (.int x u)) m l Φ := by
  obtain ⟨⟨t1, t2, t3, a⟩, b, s, ne⟩ := H
  exact T_setL a (by decide) (by simp) (by decide) fun l' a' s' => h l' ⟨⟨_, _, _, a'⟩, b.sub s' (by simpa using ne), s.trans s', ne⟩
theorem H_len {ns : List Int} {Φ : Value → Map → Led → Prop} (H : HandOk l0 l hA cA cvs i c gd) (hI : IntsAre cvs ns) (hz : ns.length ≤ 63) (h : ∀ t, Φ (.int (ns.length : Nat) t) m l) : Tri w A g L (call (.builtin "len") [.ref cA]) m l Φ :=
  T_lenL H.b (by have := hI.length; omega) (by have := hI.length; rw [this]; exact h)
theorem H_item {ns : List Int} {Φ : Value → Map → Led → Prop} (H : HandOk l0 l hA cA cvs i c gd) (hI : IntsAre cvs ns) (hz : ns.length ≤ 63) (h0 : 0 ≤ i) (h1 : i < ns.length) (h : ∀ t, Φ (.int (ns.getD i.toNat 0) t) m l)
    (hs : subscripted slice false (.ref cA) (.int i t) = operate [.ref cA, .int i t] (getItem (.ref cA) (.int i t)) := by with_unfolding_all rfl) : Tri w A g L (subscriptTail value slice (.ref cA) (.int i t)) m l Φ := by
  obtain ⟨t', hx⟩ := hI.get i.toNat _ (ints_getD h0 h1)
  exact T_itemL H.b h0 (by omega) hx (h _) hs
end
theorem mul_small {a b : Int} (h0 : 0 ≤ a) (h1 : a < 2147483647) (h2 : 0 ≤ b) (h3 : b < 100000) : IntMulOk a b := PySem.IntMulOk.of_left (PySem.intBits_le_64 (by omega) (by omega))

local macro_rules | `(tactic| walk_at "h") => `(tactic| first
  | ((with_reducible refine H_get0 (by assumption) ?_ ?hs); (case hs => with_unfolding_all rfl))
  | ((with_reducible refine H_get1 (by assumption) (fun _ => ?_) ?hs); (case hs => with_unfolding_all rfl))
  | ((with_reducible refine H_get2 (by assumption) (fun _ => ?_) ?hs); (case hs => with_unfolding_all rfl))
  | ((with_reducible refine H_get3 (by assumption) (fun _ => ?_) ?hs); (case hs => with_unfolding_all rfl))
  | (with_reducible refine H_set1 (by assumption) (fun _ _ => ?_))
  | (with_reducible refine H_set2 (by assumption) (fun _ _ => ?_))
  | (with_reducible refine H_set3 (by assumption) (fun _ _ => ?_))
  | (with_reducible refine H_len (by assumption) (by assumption) (by assumption) (fun _ => ?_))
  | ((with_reducible refine H_item (by assumption) (by assumption) (by assumption) ?h0 ?h1 (fun _ => ?_) ?hs); (case hs => with_unfolding_all rfl); (case h0 => omega); (case h1 => omega))
  | ((with_reducible refine T_mul ?hm (fun _ => ?_)); (case hm => exact mul_small (by omega) (by omega) (by omega) (by omega)))
  | (with_reducible refine T_mod (by assumption) (fun _ => ?_))
  | ((with_reducible refine' T_fdiv ?C ?hb (fun _ => ?_)); (case C => assumption); (case hb => assumption)))

theorem ex_int {a b : Int} {t : Tok} (h : a = b) : ∃ u, Value.int a t = Value.int b u := ⟨t, by rw [h]⟩
theorem pick_spec {w : World} {l : Led} {hA cA : Addr} {i : Nat} {c gd lim : Int} {t4 : Tok} {cvs : List Value} {ns : List Int}
    (H : HandOk l l hA cA cvs i c gd) (hI : IntsAre cvs ns) (hi2 : i ≤ ns.length) (hlen : ns.length ≤ 63) (hg : 0 ≤ gd) (hg2 : gd < 2147483647) (hlim : 0 < lim) :
    Spec w 335 1 [.ref hA, .int lim t4] l (fun r l' => (∃ t8, r = .int (pickH ns i c gd lim).2.2.2 t8) ∧
      HandOk l l' hA cA cvs (pickH ns i c gd lim).1 (pickH ns i c gd lim).2.1 (pickH ns i c gd lim).2.2.1) := by
  refine enter (by k_is) (by k_is) [(Str.ofString "hand", .ref hA), (Str.ofString "limit", .int lim t4)] (by rfl) (locs rfl) ?_ rfl rfl rfl (by decide)
  intro A env g L he C
  subst he
  have hlim' : lim ≠ 0 := by omega
  have n7 : (7 : Int) ≠ 0 := by decide
  have nM : (2147483647 : Int) ≠ 0 := by decide
  repeat' (first | walk_at "m" | walk_at "h")
  all_goals (rename HandOk _ _ _ _ _ _ _ _ => H9)
  all_goals (try simp only [Int.toNat_natCast] at *)
  all_goals (refine ⟨?_, ?_⟩)
  all_goals first
    | (refine ex_int ?_; (simp only [pickH, *, if_true, if_false]); done)
    | (revert H9; simp only [pickH, *, if_true, if_false, Int.natCast_add, Int.cast_ofNat_Int, Int.natCast_one]; exact id)
end Mine
end
section
open PySem PySem.W PySem.Calls PyProof.Rows PyProof.V PySem.Spec
namespace Mine
section
variable {w : World} {A : Around} {g : Heap} {L : Addr} {m : Map} {l : Led} {n : Nat} {env : Env}

theorem cel_fun {v : Value} {c c' : Cc} (hF : LFun L l) (h : Cel l v c) (h' : Cel l v c') : c = c' := by
  obtain ⟨a, t, u, e, q⟩ := h
  obtain ⟨a', t', u', e', q'⟩ := h'
  rw [e] at e'
  cases e'
  have := hF.1 _ _ _ q q'
  simp only [tupO, Obj.mk.injEq, Data.seq.injEq, true_and, and_true] at this
  obtain ⟨p, q⟩ := c
  obtain ⟨p', q'⟩ := c'
  have h2 := congrArg Array.toList this
  simp only [List.cons.injEq, Value.int.injEq, and_true] at h2
  rw [h2.1.1, h2.2.1]
theorem eqAt_cel {s : Shared} {A : Around} {v v' : Value} {c c' : Cc} (N : News g L s.heap l) (hF : LFun L l) (hu : A.units + 64 < cLine) (h : Cel l v c) (h' : Cel l v' c') : SeqAt.EqAt A s v v' (decide (c = c')) := by
  have r1 := reads_cel N h
  have r2 := reads_cel N h'
  have z1 := h
  have z2 := h'
  obtain ⟨a, t, u, rfl, q⟩ := z1
  obtain ⟨a', t', u', rfl, q'⟩ := z2
  by_cases e : a = a'
  · subst e
    rw [cel_fun hF h h']
    simpa using SeqAt.EqAt.same (A := A) (s := s) (Value.ref a)
  · exact SeqAt.EqAt.of_refs e fun prog w E Q hq => eq_dataH (Q := Q) r1 r2 rfl rfl hu (by rw [eqv_cel]; exact hq)
theorem Cels.at {vs : List Value} {cs : List Cc} (h : Cels l vs cs) : ∀ {k : Nat} (h1 : k < vs.length) (h2 : k < cs.length), Cel l vs[k] cs[k] := by
  induction h with
  | nil => intro k h1; simp at h1
  | cons a r ih => intro k h1 h2; cases k with
    | zero => exact a
    | succ k => simpa using ih (k := k) (by simpa using h1) (by simpa using h2)
theorem not_idx {c : Cc} : ∀ {cs : List Cc} {j : Nat} {h : j < cs.length}, j < cs.idxOf c → cs[j] ≠ c := by
  intro cs
  induction cs with
  | nil => intro j h; simp at h
  | cons x r ih =>
    intro j h hj
    rw [List.idxOf_cons] at hj
    cases e : (x == c) with
    | true => rw [e] at hj; simp at hj
    | false =>
      rw [e] at hj
      cases j with
      | zero => simpa using e
      | succ j => simpa using ih (j := j) (h := by simpa using h) (by simpa using hj)
theorem T_indexC {a : Addr} {vs : List Value} {cs : List Cc} {v : Value} {c : Cc} {Φ : Value → Map → Led → Prop} (C : Ctx w n A env g L) (hl : LL l a vs) (hc : Cels l vs cs) (hz : cs.length < 100000) (hv : Cel l v c) (hm : c ∈ cs) (h : ∀ t, Φ (.int (cs.idxOf c : Nat) t) m l) :
    Tri w A g L (call (.builtin "list.index") [.ref a, v]) m l Φ := by
  obtain ⟨k, hk⟩ := hl
  refine Tri.led fun hF => ?_
  intro s F N
  have hlen := hc.len
  have hj : cs.idxOf c < cs.length := List.idxOf_lt_length_iff.mpr hm
  let e : Value → Bool := fun y => @decide (∃ c', Cel l y c' ∧ c' = c) (Classical.propDecidable _)
  have he : ∀ y c', Cel l y c' → e y = decide (c' = c) := by
    intro y c' hy
    have : (∃ c'', Cel l y c'' ∧ c'' = c) ↔ c' = c := ⟨fun ⟨c'', a, b⟩ => (cel_fun hF hy a).trans b, fun b => ⟨c', hy, b⟩⟩
    show @decide _ (Classical.propDecidable _) = _
    by_cases hb : c' = c
    · rw [@decide_eq_true _ (Classical.propDecidable _) (this.mpr hb)]; simp [hb]
    · rw [@decide_eq_false _ (Classical.propDecidable _) (mt this.mp hb)]; simp [hb]
  refine call_meets PySem.F.slot_list_index ⟨_, (N _ hk).1, rfl⟩ PySem.F.entry_list_index (PySem.F.args_list_index_2 _ _)
    (SeqAt.list_indexAt a vs.toArray k none #[] v e (cs.idxOf c) (by simpa [hlen] using hj) (by omega) ?_ ?_) ⟨(N _ hk).1, fun y hy => ?_, ⟨s.heap, _, m, l, rfl, F, N, h _⟩⟩
  · have := hc.at (k := cs.idxOf c) (by omega) hj
    show e vs[cs.idxOf c] = true
    rw [he _ _ this]
    simp
  · intro j hjs hlt
    have hj' : j < cs.length := by omega
    have := hc.at (k := j) (by simpa using hjs) hj'
    show e vs[j] = false
    rw [he _ _ this]
    have hne : cs[j] ≠ c := not_idx hlt
    simpa using hne
  · have hy' : y ∈ vs := by simpa using hy
    obtain ⟨j, hj1, hj2⟩ := List.getElem_of_mem hy'
    have := hc.at (k := j) hj1 (by omega)
    rw [hj2] at this
    rw [he _ _ this]
    exact eqAt_cel N hF (by have := C.uni; show A.units + 1 + 64 < _; omega) this hv
theorem T_indexI {a : Addr} {vs : List Value} {ns : List Int} {k : Int} {t : Tok} {Φ : Value → Map → Led → Prop} (hl : LL l a vs) (hi : IntsAre vs ns) (hz : ns.length < 100000) (hm : k ∈ ns) (h : ∀ t, Φ (.int (ns.idxOf k : Nat) t) m l) :
    Tri w A g L (call (.builtin "list.index") [.ref a, .int k t]) m l Φ := by
  obtain ⟨c, hk⟩ := hl
  intro s F N
  have hlen := hi.length
  have hj : ns.idxOf k < ns.length := List.idxOf_lt_length_iff.mpr hm
  refine call_meets PySem.F.slot_list_index ⟨_, (N _ hk).1, rfl⟩ PySem.F.entry_list_index (PySem.F.args_list_index_2 _ _)
    (SeqAt.list_indexAt a vs.toArray c none #[] (.int k t) (isInt k) (ns.idxOf k) (by simpa [hlen] using hj) (by omega) ?_ ?_) ⟨(N _ hk).1, fun y hy => (eq_isInt k t hi y (by simpa using hy)).at _ _, ⟨s.heap, _, m, l, rfl, F, N, h _⟩⟩
  · show isInt k vs[ns.idxOf k] = true
    rw [isInt_at k hi _ (by omega) hj]
    simp
  · intro j hjs hlt
    show isInt k vs[j] = false
    rw [isInt_at k hi j (by simpa using hjs) (by omega)]
    exact ne_of_lt_idxOf hlt _
theorem T_itemI {value slice : Expr} {a : Addr} {vs : List Value} {ns : List Int} {k : Int} {t : Tok} {Φ : Value → Map → Led → Prop} (hl : LL l a vs) (hi : IntsAre vs ns) (h0 : 0 ≤ k) (h1 : k < ns.length) (hz : ns.length < 100000) (h : ∀ t, Φ (.int (ns.getD k.toNat 0) t) m l)
    (hs : ∀ b, subscripted slice false (.ref b) (.int k t) = operate [.ref b, .int k t] (getItem (.ref b) (.int k t)) := by intro _; with_unfolding_all rfl) : Tri w A g L (subscriptTail value slice (.ref a) (.int k t)) m l Φ := by
  obtain ⟨t', hx⟩ := hi.get k.toNat _ (ints_getD h0 h1)
  exact T_itemL hl h0 (by omega) hx (h _) (hs _)
theorem T_itemC {value slice : Expr} {a : Addr} {vs : List Value} {cs : List Cc} {k : Int} {t : Tok} {Φ : Value → Map → Led → Prop} (hl : LL l a vs) (hi : Cels l vs cs) (h0 : 0 ≤ k) (h1 : k < cs.length) (hz : cs.length < 100000) (h : ∀ v, Cel l v (at' cs k) → Φ v m l)
    (hs : ∀ b, subscripted slice false (.ref b) (.int k t) = operate [.ref b, .int k t] (getItem (.ref b) (.int k t)) := by intro _; with_unfolding_all rfl) : Tri w A g L (subscriptTail value slice (.ref a) (.int k t)) m l Φ := by
  obtain ⟨v, e, hc⟩ := hi.get (k := k.toNat) (by omega)
  exact T_itemL hl h0 (by omega) e (h v hc) (hs _)
end
end Mine
end
section
open PySem PySem.W PySem.Calls PyProof.Rows PyProof.V PySem.Spec
open Mine
local macro_rules | `(tactic| walk_at "a") => `(tactic| first
  | ((with_reducible refine' A_heap ?C ?H ?_); (case C => assumption); (case H => assumption))
  | ((with_reducible refine' A_stack ?C ?H ?_); (case C => assumption); (case H => assumption))
  | ((with_reducible refine' A_trail ?C ?H ?_); (case C => assumption); (case H => assumption))
  | ((with_reducible refine' A_hb ?C ?H (fun _ => ?_)); (case C => assumption); (case H => assumption))
  | ((with_reducible refine' A_bb ?C ?H (fun _ => ?_)); (case C => assumption); (case H => assumption))
  | ((with_reducible refine' A_mx ?C ?H (fun _ => ?_)); (case C => assumption); (case H => assumption))
  | ((with_reducible refine' A_meth ?C ?H ?hg ?hf ?ht ?hm ?_); (case C => assumption); (case H => assumption); (case hg => k_is); (case hf => k_is); (case ht => k_is); (case hm => decide))
  | ((with_reducible refine' C_0 ?hc (fun _ => ?_) ?hs); (case hc => assumption); (case hs => (intro _; with_unfolding_all rfl)))
  | ((with_reducible refine' C_1 ?hc (fun _ => ?_) ?hs); (case hc => assumption); (case hs => (intro _; with_unfolding_all rfl)))
  | ((with_reducible refine' C_eq ?C ?hc ?hd ?_); (case C => assumption); (case hc => assumption); (case hd => assumption))
  | ((with_reducible refine' A_happM ?H ?_); (case H => assumption))
  | ((with_reducible refine' A_sappM ?H ?_); (case H => assumption))
  | ((with_reducible refine' A_tappM ?H ?_); (case H => assumption))
  | ((with_reducible refine' A_tpopM ?H ?_); (case H => assumption))
  | ((with_reducible refine' A_hlen ?H ?hz (fun _ => ?_)); (case H => assumption); (case hz => first | assumption | omega))
  | ((with_reducible refine' A_slen ?H ?hz (fun _ => ?_)); (case H => assumption); (case hz => first | assumption | omega))
  | ((with_reducible refine' A_tlen ?H ?hz (fun _ => ?_)); (case H => assumption); (case hz => first | assumption | omega))
  | ((with_reducible refine' A_hget ?H ?h0 ?h1 ?hz (fun _ _ => ?_) ?hs); (case H => assumption); (case h0 => first | assumption | omega); (case h1 => first | assumption | omega); (case hz => first | assumption | omega); (case hs => (intro _; with_unfolding_all rfl)))
  | ((with_reducible refine' A_sget ?H ?h0 ?h1 ?hz (fun _ _ => ?_) ?hs); (case H => assumption); (case h0 => first | assumption | omega); (case h1 => first | assumption | omega); (case hz => first | assumption | omega); (case hs => (intro _; with_unfolding_all rfl)))
  | ((with_reducible refine' A_hset ?H ?h0 ?h1 ?hz ?hc (fun _ _ _ => ?_)); (case H => assumption); (case hc => assumption); (case h0 => first | assumption | omega); (case h1 => first | assumption | omega); (case hz => first | assumption | omega))
  | ((with_reducible refine' A_sset ?H ?h0 ?h1 ?hz ?hc (fun _ _ _ => ?_)); (case H => assumption); (case hc => assumption); (case h0 => first | assumption | omega); (case h1 => first | assumption | omega); (case hz => first | assumption | omega))
  | ((with_reducible refine' A_happ ?H ?hz ?hc (fun _ _ _ => ?_)); (case H => assumption); (case hc => assumption); (case hz => first | assumption | omega))
  | ((with_reducible refine' A_sapp ?H ?hz ?hc (fun _ _ _ => ?_)); (case H => assumption); (case hc => assumption); (case hz => first | assumption | omega))
  | ((with_reducible refine' A_tapp ?H ?hz (fun _ _ _ => ?_)); (case H => assumption); (case hz => first | assumption | omega)))
section
open PySem PySem.W PySem.Calls PyProof.Rows PyProof.V PySem.Spec
namespace Mine
theorem fillK_meth : PySem.Challenge.rw_no0163_01.prog = PySem.Challenge.rw_no0163_01.prog ∧ (∀ w : World, (hd.heap_39 w.params) = hd.heap_39 w.params) := by
  k_fill
  exact ⟨rfl, fun _ => rfl⟩

noncomputable abbrev look (σ : Sig) (c : Cc) : Cc := if c.1 = 0 then at' σ.heap c.2 else if c.1 = 1 then at' σ.stack c.2 else c
theorem look_0 {σ : Sig} {c : Cc} (h : c.1 = 0) : look σ c = at' σ.heap c.2 := if_pos h
theorem look_1 {σ : Sig} {c : Cc} (h : c.1 = 1) : look σ c = at' σ.stack c.2 := by
  show (if _ then _ else _) = _
  rw [if_neg (by omega), if_pos h]
theorem look_x {σ : Sig} {c : Cc} (h : c.1 ≠ 0) (h' : c.1 ≠ 1) : look σ c = c := by
  show (if _ then _ else _) = _
  rw [if_neg h, if_neg h']
noncomputable def OkC (σ : Sig) (c : Cc) : Prop := (c.1 = 0 → 0 ≤ c.2 ∧ c.2 < σ.heap.length) ∧ (c.1 = 1 → 0 ≤ c.2 ∧ c.2 < σ.stack.length)
structure Sz (σ : Sig) : Prop where
  h : σ.heap.length < 100000
  s : σ.stack.length < 100000
  t : σ.trail.length < 100000

theorem mark_spec {w : World} {l : Led} {a : Adr} {σ : Sig} (H : AR l a σ) (Z : Sz σ) : Spec w 265 1 [.ref a.ax] l (fun r l' => l' = l ∧ ∃ t, r = .int σ.trail.length t) := by
  refine enter (by k_is) (by k_is) [(Str.ofString "self", .ref a.ax)] (by rfl) (locs rfl) ?_ rfl rfl rfl (by decide)
  intro A env g L he C
  subst he
  obtain ⟨z1, z2, z3⟩ := Z
  repeat' (first | walk_at "m" | walk_at "a")
  exact ⟨rfl, _, rfl⟩

theorem unb_spec {w : World} {l : Led} {a : Adr} {σ : Sig} {v : Value} {c : Cc} (H : AR l a σ) (Z : Sz σ) (hc : Cel l v c) (ok : OkC σ c) :
    Spec w 237 1 [.ref a.ax, v] l (fun r l' => l' = l ∧ r = .bool (decide ((c.1 = 0 ∨ c.1 = 1) ∧ look σ c = c))) := by
  refine enter (by k_is) (by k_is) [(Str.ofString "self", .ref a.ax), (Str.ofString "cell", v)] (by rfl) (locs rfl) ?_ rfl rfl rfl (by decide)
  intro A env g L he C
  subst he
  obtain ⟨z1, z2, z3⟩ := Z
  obtain ⟨o1, o2⟩ := ok
  repeat' (first | walk_at "m" | walk_at "a")
  all_goals (refine ⟨rfl, congrArg Value.bool ?_⟩)
  all_goals simp [look, *]

noncomputable abbrev bindS (σ : Sig) (c c' : Cc) : Sig :=
  if c.1 = 0 then { σ with heap := σ.heap.set c.2.toNat c', trail := if c.2 < σ.hb then σ.trail ++ [c.2] else σ.trail }
  else { σ with stack := σ.stack.set c.2.toNat c', trail := if c.2 < σ.bb then σ.trail ++ [-1 - c.2] else σ.trail }

theorem bind_spec {w : World} {l : Led} {a : Adr} {σ : Sig} {v v' : Value} {c c' : Cc} (H : AR l a σ) (Z : Sz σ) (hc : Cel l v c) (hc' : Cel l v' c') (ok : OkC σ c) (ht : c.1 = 0 ∨ c.1 = 1) :
    Spec w 244 1 [.ref a.ax, v, v'] l (fun r l' => r = .none ∧ AR l' a (bindS σ c c') ∧ Sub a.D l l') := by
  refine enter (by k_is) (by k_is) [(Str.ofString "self", .ref a.ax), (Str.ofString "cell", v), (Str.ofString "value", v')] (by rfl) (locs rfl) ?_ rfl rfl rfl (by decide)
  intro A env g L he C
  subst he
  obtain ⟨z1, z2, z3⟩ := Z
  obtain ⟨o1, o2⟩ := ok
  repeat' (first | walk_at "m" | walk_at "a")
  all_goals (dsimp only at *)
  all_goals (refine ⟨rfl, ?_, by first | assumption | exact Sub.trans (by assumption) (by assumption)⟩)
  all_goals (simp only [bindS, *, if_true, if_false])

noncomputable abbrev bindP (σ : Sig) (c c' : Cc) : Sig :=
  if c = c' then σ else if c.1 = c'.1 then (if c.2 < c'.2 then bindS σ c' c else bindS σ c c') else if c.1 = 1 then bindS σ c c' else bindS σ c' c
theorem pair_spec {w : World} {l : Led} {a : Adr} {σ : Sig} {v v' : Value} {c c' : Cc} (H : AR l a σ) (Z : Sz σ) (hc : Cel l v c) (hc' : Cel l v' c') (ok : OkC σ c) (ok' : OkC σ c') (ht : c.1 = 0 ∨ c.1 = 1) (ht' : c'.1 = 0 ∨ c'.1 = 1) :
    Spec w 251 2 [.ref a.ax, v, v'] l (fun r l' => r = .none ∧ AR l' a (bindP σ c c') ∧ Sub a.D l l') := by
  refine enter (by k_is) (by k_is) [(Str.ofString "self", .ref a.ax), (Str.ofString "c1", v), (Str.ofString "c2", v')] (by rfl) (locs rfl) ?_ rfl rfl rfl (by decide)
  intro A env g L he C
  subst he
  have b1 := bind_spec (w := w) H Z hc hc' ok ht
  have b2 := bind_spec (w := w) H Z hc' hc ok' ht'
  repeat' (first | walk_at "m" | walk_at "a" | ((with_reducible refine T_spec C b1 ?_); rintro _ _ ⟨rfl, _, _⟩) | ((with_reducible refine T_spec C b2 ?_); rintro _ _ ⟨rfl, _, _⟩))
  all_goals (first | (refine ⟨rfl, ?_, Sub.refl⟩) | (refine ⟨rfl, ?_, by assumption⟩))
  all_goals (simp only [bindP]; (repeat (first | rw [if_pos (by assumption)] | rw [if_neg (by assumption)])); assumption)

theorem push_spec {w : World} {l : Led} {a : Adr} {σ : Sig} {v : Value} {c : Cc} (H : AR l a σ) (Z : Sz σ) (hc : Cel l v c) :
    Spec w 202 1 [.ref a.ax, v] l (fun r l' => (∃ t, r = .int σ.heap.length t) ∧ AR l' a { σ with heap := σ.heap ++ [c] } ∧ Sub a.D l l') := by
  refine enter (by k_is) (by k_is) [(Str.ofString "self", .ref a.ax), (Str.ofString "cell", v)] (by rfl) (locs rfl) ?_ rfl rfl rfl (by decide)
  intro A env g L he C
  subst he
  obtain ⟨z1, z2, z3⟩ := Z
  repeat' (first | walk_at "m" | walk_at "a")
  all_goals (first | (exfalso; omega) | skip)
  exact ⟨⟨_, rfl⟩, by assumption, by assumption⟩

theorem newvar_spec {w : World} {l : Led} {a : Adr} {σ : Sig} (H : AR l a σ) (Z : Sz σ) :
    Spec w 209 2 [.ref a.ax] l (fun r l' => Cel l' r (0, σ.heap.length) ∧ AR l' a { σ with heap := σ.heap ++ [(0, (σ.heap.length : Int))] } ∧ Sub a.D l l') := by
  refine enter (by k_is) (by k_is) [(Str.ofString "self", .ref a.ax)] (by rfl) (locs rfl) ?_ rfl rfl rfl (by decide)
  intro A env g L he C
  subst he
  have Z0 := Z
  obtain ⟨z1, z2, z3⟩ := Z
  repeat' (first | walk_at "m" | walk_at "a")
  refine C_new ?_
  rintro v l' hc s ⟨b, rfl, nw⟩
  have H' := H.sub0 s
  have p1 := push_spec (w := w) H' Z0 hc
  repeat' (first | walk_at "m" | walk_at "a" | ((with_reducible refine T_spec C p1 ?_); rintro _ _ ⟨⟨_, rfl⟩, _, _⟩))
  rename_i l2 t2 h2 s2
  exact ⟨hc.sub s2, h2, (s.mono (by simp)).trans s2⟩

-- deref
noncomputable def derefN (σ : Sig) : Nat → Cc → Cc
  | 0, c => c
  | n + 1, c => if look σ c = c then c else derefN σ n (look σ c)
noncomputable def rk (σ : Sig) (c : Cc) : Nat := if c.1 = 0 then c.2.toNat + 1 else if c.1 = 1 then σ.heap.length + c.2.toNat + 1 else 0
noncomputable def dr (σ : Sig) (c : Cc) : Cc := derefN σ (rk σ c) c
/-- the cells of G are in place and their ways go down -/
noncomputable def Down (σ : Sig) (G : Cc → Prop) : Prop := ∀ c, G c → OkC σ c ∧ (look σ c ≠ c → G (look σ c) ∧ rk σ (look σ c) < rk σ c)
theorem derefN_eq {σ : Sig} {G : Cc → Prop} (hG : Down σ G) : ∀ n c, G c → rk σ c ≤ n → derefN σ n c = dr σ c := by
  intro n
  induction n using Nat.strongRecOn with
  | _ n ih =>
    intro c hc hn
    by_cases hl : look σ c = c
    · cases n with
      | zero => rw [dr, Nat.le_zero.mp hn]
      | succ n =>
        show (if look σ c = c then c else _) = _
        rw [if_pos hl, dr]
        cases h : rk σ c with
        | zero => rfl
        | succ k => show c = (if look σ c = c then c else _); rw [if_pos hl]
    · obtain ⟨g1, g2⟩ := (hG c hc).2 hl
      cases n with
      | zero => omega
      | succ n =>
        show (if look σ c = c then c else _) = _
        rw [if_neg hl, dr]
        cases h : rk σ c with
        | zero => omega
        | succ k =>
          show _ = (if look σ c = c then c else _)
          rw [if_neg hl, ih n (by omega) _ g1 (by omega)]
          by_cases hk : k = n + 1
          · omega
          · exact (ih k (by omega) _ g1 (by omega)).symm
theorem dr_step {σ : Sig} {G : Cc → Prop} (hG : Down σ G) {c : Cc} (hc : G c) (hl : look σ c ≠ c) : dr σ c = dr σ (look σ c) := by
  obtain ⟨g1, g2⟩ := (hG c hc).2 hl
  rw [dr]
  cases h : rk σ c with
  | zero => omega
  | succ k =>
    show (if look σ c = c then c else _) = _
    rw [if_neg hl]
    exact derefN_eq hG k _ g1 (by omega)
theorem dr_end {σ : Sig} {c : Cc} (hl : look σ c = c) : dr σ c = c := by
  rw [dr]
  cases h : rk σ c with
  | zero => rfl
  | succ k => show (if look σ c = c then c else _) = c; rw [if_pos hl]

theorem deref_spec {w : World} {l : Led} {a : Adr} {σ : Sig} {G : Cc → Prop} {v : Value} {c : Cc} (H : AR l a σ) (Z : Sz σ) (hG : Down σ G) (hc : Cel l v c) (hg : G c) :
    Spec w 230 1 [.ref a.ax, v] l (fun r l' => l' = l ∧ Cel l r (dr σ c)) := by
  refine enter (by k_is) (by k_is) [(Str.ofString "self", .ref a.ax), (Str.ofString "cell", v)] (by rfl) (locs rfl) ?_ rfl rfl rfl (by decide)
  intro A env g L he C
  subst he
  obtain ⟨z1, z2, z3⟩ := Z
  walk_at "m"
  refine T_while (fun k m l' => l' = l ∧ m (Str.ofString "self") = some (.ref a.ax) ∧ ∃ v' c', m (Str.ofString "cell") = some v' ∧ Cel l v' c' ∧ G c' ∧ dr σ c' = dr σ c ∧ rk σ c' = k) ⟨rfl, rfl, v, c, rfl, hc, hg, rfl, rfl⟩ ?_
  rintro k m l' ⟨rfl, hs, v', c', hv, hc', hg', hd', hk⟩
  obtain ⟨⟨o1, o2⟩, o3⟩ := hG c' hg'
  repeat' (first | walk_at "m" | walk_at "a")
  all_goals first
    | (have e : look σ c' = c' := (by first | exact (look_0 (by assumption)).trans (by assumption) | exact (look_1 (by assumption)).trans (by assumption) | exact look_x (by assumption) (by assumption)); exact ⟨rfl, by rw [← hd', dr_end e]; exact hc'⟩)
    | (have e : look σ c' = at' σ.heap c'.snd := look_0 (by assumption)
       obtain ⟨g1, g2⟩ := o3 (by rw [e]; assumption)
       exact ⟨rk σ (look σ c'), by rw [← hk]; exact g2, rfl, hs, _, look σ c', rfl, by rw [e]; assumption, g1, by rw [← hd', dr_step hG hg' (by rw [e]; assumption)], rfl⟩)
    | (have e : look σ c' = at' σ.stack c'.snd := look_1 (by assumption)
       obtain ⟨g1, g2⟩ := o3 (by rw [e]; assumption)
       exact ⟨rk σ (look σ c'), by rw [← hk]; exact g2, rfl, hs, _, look σ c', rfl, by rw [e]; assumption, g1, by rw [← hd', dr_step hG hg' (by rw [e]; assumption)], rfl⟩)
end Mine
end
section
open PySem PySem.W PySem.Calls PyProof.Rows PyProof.V PySem.Spec
namespace Mine
theorem fillK_meth2 : PySem.Challenge.rw_no0163_01.prog = PySem.Challenge.rw_no0163_01.prog ∧ (∀ w : World, (hd.heap_39 w.params) = hd.heap_39 w.params) := by
  k_fill
  exact ⟨rfl, fun _ => rfl⟩

theorem glob_spec {w : World} {l : Led} {a : Adr} {σ : Sig} {G : Cc → Prop} {v : Value} {c : Cc} (H : AR l a σ) (Z : Sz σ) (hz : σ.heap.length + 1 < 100000) (hG : Down σ G) (hc : Cel l v c) (hg : G c) (hd : OkC σ (dr σ c)) :
    Spec w 258 3 [.ref a.ax, v] l (fun r l' => if (dr σ c).1 = 1
      then Cel l' r (0, σ.heap.length) ∧ AR l' a (bindS { σ with heap := σ.heap ++ [(0, (σ.heap.length : Int))] } (dr σ c) (0, σ.heap.length)) ∧ Sub a.D l l'
      else l' = l ∧ Cel l r (dr σ c)) := by
  refine enter (by k_is) (by k_is) [(Str.ofString "self", .ref a.ax), (Str.ofString "cell", v)] (by rfl) (locs rfl) ?_ rfl rfl rfl (by decide)
  intro A env g L he C
  subst he
  have s1 := deref_spec (w := w) H Z hG hc hg
  have C1 : Ctx w 1 A _ g L := C.down (by omega)
  repeat' (first | walk_at "m" | walk_at "a" | ((with_reducible refine T_spec C1 s1 ?_); rintro r l2 ⟨e2, hr⟩; subst e2))
  · rename_i t1 t2 h1
    refine T_spec C (newvar_spec H Z) ?_
    rintro v3 l3 ⟨h3, h4, h5⟩
    have Z3 : Sz { σ with heap := σ.heap ++ [(0, (σ.heap.length : Int))] } := ⟨by simpa using hz, Z.s, Z.t⟩
    have s2 := bind_spec (w := w) h4 Z3 (hr.sub h5) h3 ⟨fun z => absurd (h1.symm.trans z) (by decide), hd.2⟩ (.inr h1)
    repeat' (first | walk_at "m" | walk_at "a" | ((with_reducible refine T_spec C1 s2 ?_); rintro _ _ ⟨rfl, _, _⟩))
    rename_i l4 h6 h7
    rw [if_pos h1]
    exact ⟨h3.sub h7, h6, h5.trans h7⟩
  · rename_i h1
    rw [if_neg h1]
    exact ⟨rfl, by assumption⟩

/-- an entry of the trail taken back -/
noncomputable abbrev undo1 (σ : Sig) (e : Int) : Sig :=
  if 0 ≤ e then { σ with heap := σ.heap.set e.toNat (0, e) } else { σ with stack := σ.stack.set (-1 - e).toNat (1, -1 - e) }
/-- the entries of td taken back, the last first -/
noncomputable def undoL (σ : Sig) (td : List Int) : Sig := td.foldr (fun e σ => undo1 σ e) σ
noncomputable def OkE (σ : Sig) (e : Int) : Prop := (0 ≤ e → e < σ.heap.length) ∧ (e < 0 → -1 - e < σ.stack.length)
theorem undo1_len {σ : Sig} {e : Int} : (undo1 σ e).heap.length = σ.heap.length ∧ (undo1 σ e).stack.length = σ.stack.length ∧ (undo1 σ e).trail = σ.trail ∧ (undo1 σ e).hb = σ.hb ∧ (undo1 σ e).bb = σ.bb := by
  simp only [undo1]
  split <;> simp

theorem undo_spec {w : World} {l : Led} {a : Adr} {σ : Sig} {t0 td : List Int} {t : Tok} (H : AR l a σ) (Z : Sz σ) (ht : σ.trail = t0 ++ td) (ok : ∀ e ∈ td, OkE σ e) :
    Spec w 272 2 [.ref a.ax, .int t0.length t] l (fun r l' => r = .none ∧ AR l' a { undoL σ td with trail := t0 } ∧ Sub a.D l l') := by
  refine enter (by k_is) (by k_is) [(Str.ofString "self", .ref a.ax), (Str.ofString "mark", .int t0.length t)] (by rfl) (locs rfl) ?_ rfl rfl rfl (by decide)
  intro A env g L he C
  subst he
  walk_at "m"
  refine T_while (fun k m l' => m (Str.ofString "self") = some (.ref a.ax) ∧ m (Str.ofString "mark") = some (.int t0.length t) ∧ ∃ tr te σ', td = tr ++ te ∧ tr.length = k ∧ σ' = { undoL σ te with trail := t0 ++ tr } ∧ Sub a.D l l' ∧ AR l' a σ' ∧
      σ'.heap.length = σ.heap.length ∧ σ'.stack.length = σ.stack.length ∧ σ'.hb = σ.hb ∧ σ'.bb = σ.bb) (k₀ := td.length)
    ⟨rfl, rfl, td, [], σ, by simp, rfl, by rw [← ht]; rfl, Sub.refl, H, rfl, rfl, rfl, rfl⟩ ?_
  rintro k m l' ⟨hs, hm, tr, te, σ', etd, hk, hσ, hS, H', g1, g2, g3, g4⟩
  obtain ⟨z1, z2, z3⟩ := Z
  have ztr : σ'.trail = t0 ++ tr := by rw [hσ]
  have z4 : σ'.trail.length < 100000 := by rw [ztr]; rw [ht, etd] at z3; simp at z3 ⊢; omega
  rw [← g1] at z1
  rw [← g2] at z2
  repeat' (first | walk_at "m" | walk_at "a")
  · rename_i _ hlt
    rcases List.eq_nil_or_concat tr with e0 | ⟨tr', e, e0⟩
    · rw [ztr, e0] at hlt
      simp at hlt
    rw [List.concat_eq_append] at e0
    obtain ⟨oe1, oe2⟩ := ok e (by rw [etd, e0]; simp)
    rw [← g1] at oe1
    rw [← g2] at oe2
    refine A_tpop H' (tr := t0 ++ tr') (by rw [ztr, e0, List.append_assoc]) z4 fun l2 t2 H2 S2 => ?_
    have y1 : ({ σ' with trail := t0 ++ tr' } : Sig).heap.length < 100000 := z1
    have y2 : ({ σ' with trail := t0 ++ tr' } : Sig).stack.length < 100000 := z2
    have ek : tr'.length < k := by rw [← hk, e0]; simp
    have et : td = tr' ++ e :: te := by rw [etd, e0]; simp
    repeat' (first | walk_at "m" | walk_at "a")
    · have h0 : 0 ≤ e := by assumption
      have oe3 := oe1 h0
      refine C_new ?_
      rintro v l3 hc s3 _
      have H3 := H2.sub0 s3
      repeat' (first | walk_at "m" | walk_at "a")
      rename_i l4 H4 S4
      refine ⟨_, ek, hs, hm, tr', e :: te, _, et, rfl, ?_, hS.trans (S2.trans ((s3.mono (by simp)).trans S4)), H4, by simpa using g1, g2, g3, g4⟩
      rw [hσ]
      show _ = ({ undo1 (undoL σ te) e with trail := t0 ++ tr' } : Sig)
      simp only [undo1, h0, if_true]
    · have h0 : ¬ 0 ≤ e := by assumption
      have oe3 := oe2 (by omega)
      refine C_new ?_
      rintro v l3 hc s3 _
      have H3 := H2.sub0 s3
      repeat' (first | walk_at "m" | walk_at "a")
      rename_i l4 H4 S4
      refine ⟨_, ek, hs, hm, tr', e :: te, _, et, rfl, ?_, hS.trans (S2.trans ((s3.mono (by simp)).trans S4)), H4, g1, by simpa using g2, g3, g4⟩
      rw [hσ]
      show _ = ({ undo1 (undoL σ te) e with trail := t0 ++ tr' } : Sig)
      simp only [undo1, h0, if_false]
  · rename_i _ hlt
    have e0 : tr = [] := by
      rw [ztr] at hlt
      simp at hlt
      exact List.eq_nil_of_length_eq_zero (by omega)
    subst e0
    refine ⟨rfl, ?_, hS⟩
    rw [hσ] at H'
    simp only [List.append_nil, List.nil_append] at H' etd
    rw [etd]
    exact H'
end Mine
end
section
open PySem PySem.W PySem.Calls PyProof.Rows PyProof.V PySem.Spec
namespace Mine

theorem del_pick {sel : Nat → Bool} {x : Nat} (h : ∀ k, sel k = decide (x ≤ k)) (vs : List Value) (f : Value × Nat → Option Value) (hf : ∀ p, p.2 < vs.length → f p = if sel p.2 = true then none else some p.1) :
    vs.zipIdx.filterMap f = vs.take x := by
  have key : ∀ (us : List Value) (j : Nat), (∀ p : Value × Nat, p.2 < j + us.length → f p = if sel p.2 = true then none else some p.1) → (us.zipIdx j).filterMap f = us.take (x - j) := by
    intro us
    induction us with
    | nil => intro j _; simp
    | cons u r ih =>
      intro j hj
      rw [List.zipIdx_cons, List.filterMap_cons, hj (u, j) (by simp)]
      rw [h]
      rw [ih (j + 1) fun p hp => hj p (by simp; omega)]
      by_cases hx : x ≤ j
      · have e1 : x - j = 0 := by omega
        have e2 : x - (j + 1) = 0 := by omega
        simp [hx, e1, e2]
      · have e1 : x - j = (x - (j + 1)) + 1 := by omega
        simp only [hx, decide_false, Bool.false_eq_true, if_false]
        rw [e1, List.take_succ_cons]
  have := key vs 0 (by simpa using hf)
  simpa using this

theorem del_pick2 {sel : Int → Int → Int → Nat → Bool} {x : Nat} {vs : List Value} (h : ∀ k : Nat, k < vs.length → sel x vs.length 1 k = decide (x ≤ k)) :
    (List.filterMap (fun p : Value × Nat => if sel x vs.length 1 p.2 = true then none else some p.1) vs.zipIdx) = vs.take x := by
  refine del_pick (sel := fun k => decide (x ≤ k)) (fun _ => rfl) vs _ fun p hp => ?_
  rw [h _ hp]
theorem sel_one {x n : Nat} {k : Nat} (hk : k < n) : (decide ((x : Int) ≤ k) && decide ((k : Int) < n) && ((k - (x : Int)) % 1 == 0)) = decide (x ≤ k) := by
  have e : ((k : Int) - (x : Int)) % 1 = 0 := Int.emod_one _
  rw [e]
  by_cases h : x ≤ k
  · simp [h, hk]
  · simp [h]
theorem lst_upd {h : Heap} {l : Addr} {vs us : List Value} {n : Nat} (hl : h.get? l = some (lstO vs n)) (f : List Value → List Value) (e : f vs = us) :
    ∃ n', (h.update l (Obj.mapSeq fun xs => (f xs.toList).toArray)).get? l = some (lstO us n') := by
  subst e
  exact ⟨_, PySem.IsL.update (n := n) hl _⟩
theorem lst_cut {sel : Int → Int → Int → Nat → Bool} {h : Heap} {l : Addr} {vs : List Value} {n x : Nat} (hl : h.get? l = some (lstO vs n)) (hs : ∀ k : Nat, k < vs.length → sel x vs.length 1 k = decide (x ≤ k)) :
    ∃ n', (h.update l (Obj.mapSeq fun xs => (List.filterMap (fun p : Value × Nat => if sel x vs.length 1 p.2 = true then none else some p.1) xs.toList.zipIdx).toArray)).get? l = some (lstO (vs.take x) n') :=
  lst_upd hl (fun us => List.filterMap (fun p : Value × Nat => if sel x vs.length 1 p.2 = true then none else some p.1) us.zipIdx) (del_pick2 hs)
section
variable {w : World} {A : Around} {E : Value → Shared → Prop} {s : Shared}
theorem delItem_from {l sl : Addr} {vs : List Value} {n : Nat} {x : Nat} {t : Tok} {Q : Unit → Shared → Prop} (hl : s.heap.get? l = some (lstO vs n))
    (hs : s.heap.IsSliceOf sl (.int x t) .none .none) (hx : x ≤ vs.length) (hz : vs.length ≤ sizeLine)
    (h : ∀ h', Heap.SameBut l s.heap h' → (∃ n', h'.get? l = some (lstO (vs.take x) n')) → Q () { s with heap := h' }) : wpAny (model P0 w) A (delItem (.ref l) (.ref sl)) Q E s := by
  have hl' : s.heap.IsList l vs.toArray := ⟨_, hl, rfl, n, rfl⟩
  obtain ⟨os, hos, hcs, hds⟩ := id hs
  have hTs : s.TypeIs (.ref sl) "slice" := ⟨os, hos, hcs⟩
  unfold delItem
  refine wpAny_holding ?_
  refine wpAny_bind (wpAny_sequenceKey hl'.typeIs (by decide) ?_)
  refine wpAny_bind (wpAny_callSpecial?_slot (name := Str.ofString "__delitem__") hl'.typeIs PySem.F.slot_list_delitem
    (wpAny_call_entry PySem.F.slot_list_delitem hl'.typeIs PySem.F.entry_list_delitem ?_ (PySem.F.args_list_delitem_2 _ _)))
  show wpAny _ _ (Builtin.List.listSubscript? (.ref sl) >>= _) _ _ s
  refine wpAny_bind ?_
  unfold Builtin.List.listSubscript?
  refine wpAny_bind (wpAny_specialOf hTs slice_no_index ?_)
  simp only [Option.isNone_none, if_true]
  refine wpAny_pure ?_
  show wpAny _ _ (typeOf (.ref sl) >>= _) _ _ s
  refine wpAny_bind (wpAny_typeOf hTs ?_)
  rw [if_neg (by decide)]
  rw [listSliceParts_eq]
  refine wpAny_bind (wpAny_bind (wpAny_field hos hds (x := .none) rfl (wpAny_bind (wpAny_listPart .none ?_))))
  rw [if_neg (by decide)]
  refine wpAny_bind (wpAny_field hos hds (x := .int x t) rfl (wpAny_bind (wpAny_listPart (.int _ _) ?_)))
  refine wpAny_bind (wpAny_field hos hds (x := .none) rfl (wpAny_bind (wpAny_listPart .none (wpAny_pure ?_))))
  refine wpAny_bind (m := Builtin.List.listItems (.ref l)) ?_
  unfold Builtin.List.listItems
  refine wpAny_bind (wpAny_seqItems hl rfl (wpAny_pure ?_))
  refine wpAny_bind (wpAny_of_eq (sliceIndices_raw (some (x : Int)) none none vs.toArray.size (by simp)) ?_)
  have eb : sliceBounds (some (x : Int)) none none vs.toArray.size = ((x : Int), (vs.length : Int), 1) := by
    simp only [sliceBounds, List.size_toArray, Option.getD_none]
    have h1 : ¬ ((x : Int) < 0) := by omega
    simp only [h1, if_false, show (1 : Int) > 0 from by decide, if_true]
    congr 1
    omega
  rw [eb]
  refine wpAny_bind (wpAny_rule ?_)
  refine wpAny_bind ?_
  unfold Builtin.List.listUpdate
  dsimp only
  refine wpAny_updateSeq hl rfl ?_ (by rw [List.size_toArray]; exact hz) ?_
  · refine wpAny_bind (wpAny_letGo (wpAny_pure ⟨.none, rfl, wpAny_pure (h _ (Heap.SameBut.update ..) (lst_cut hl fun k hk => sel_one hk))⟩))
  · show (List.filterMap _ _).toArray.size ≤ _
    rw [List.size_toArray]
    refine Nat.le_trans (List.length_filterMap_le ..) ?_
    rw [List.length_zipIdx, List.toList_toArray]
    omega
end
section
variable {w : World} {A : Around} {g : Heap} {L : Addr} {m : Map} {l : Led} {n : Nat} {env : Env}
theorem T_delFrom {a b : Addr} {vs : List Value} {x : Nat} {t : Tok} {Φ : Unit → Map → Led → Prop} (hl : LL l a vs) (hb : SL l b (.int x t) .none) (hx : x ≤ vs.length) (hz : vs.length ≤ sizeLine)
    (h : ∀ l', LL l' a (vs.take x) → Sub [a] l l' → Φ () m l') : Tri w A g L (delItem (.ref a) (.ref b)) m l Φ := by
  obtain ⟨c, hm⟩ := hl
  intro s F N
  refine delItem_from (N _ hm).1 ⟨_, (N _ hb).1, rfl, rfl⟩ hx hz fun h' hs ⟨c', ho⟩ => ?_
  obtain ⟨F', l', N', m1, m2⟩ := change F N hm hs ho
  exact ⟨_, _, m, l', rfl, F', N', h l' ⟨_, m1⟩ (sub_of_change N hm m2)⟩
theorem T_delete {o i : Expr} {pos pos' : Pos} {Φ : Flow → Map → Led → Prop}
    (h : Tri w A g L (eval o env) m l (fun ov m l => Tri w A g L (eval i env) m l (fun iv m l => Tri w A g L (delItem ov iv) m l (fun _ m l => Φ .next m l)))) : Tri w A g L (exec (.Delete [.Subscript o i pos'] pos) env) m l Φ :=
  fun s F N => wpAny_Delete (wpAny_deleteEach_cons (wpAny_delete_Subscript (h.go F N fun v h' tk' m' l' F' N' p => wpAny_mono (p.at F' N') (fun ov s₂ ⟨h₂, tk₂, m₂, l₂, e₂, F₂, N₂, p₂⟩ => by
    subst e₂; exact wpAny_mono (p₂.at F₂ N₂) (fun _ _ z => wpAny_deleteEach_nil z) fun _ _ x => x) fun _ _ x => x)))
end
end Mine
end
section
open PySem PySem.W PySem.Calls PyProof.Rows PyProof.V PySem.Spec
namespace Mine
theorem fillK_meth3 : PySem.Challenge.rw_no0163_01.prog = PySem.Challenge.rw_no0163_01.prog ∧ (∀ w : World, (hd.heap_39 w.params) = hd.heap_39 w.params) := by
  k_fill
  exact ⟨rfl, fun _ => rfl⟩

theorem put_spec {w : World} {l : Led} {a : Adr} {σ : Sig} {v : Value} {c : Cc} {i : Nat} {t : Tok} (H : AR l a σ) (Z : Sz σ) (hc : Cel l v c) (hi : i ≤ σ.stack.length) :
    Spec w 279 1 [.ref a.ax, .int i t, v] l (fun r l' => r = .none ∧ AR l' a { σ with stack := if i < σ.stack.length then σ.stack.set i c else σ.stack ++ [c] } ∧ Sub a.D l l') := by
  refine enter (by k_is) (by k_is) [(Str.ofString "self", .ref a.ax), (Str.ofString "i", .int i t), (Str.ofString "value", v)] (by rfl) (locs rfl) ?_ rfl rfl rfl (by decide)
  intro A env g L he C
  subst he
  obtain ⟨z1, z2, z3⟩ := Z
  repeat' (first | walk_at "m" | walk_at "a")
  · have h0 : (i : Int) < σ.stack.length := by assumption
    have h1 : i < σ.stack.length := by omega
    refine ⟨rfl, ?_, by assumption⟩
    rw [if_pos h1]
    assumption
  · have h0 : ¬ (i : Int) < σ.stack.length := by assumption
    have h1 : ¬ i < σ.stack.length := by omega
    have e1 : i = σ.stack.length := by omega
    refine T_while (fun k m' l' => k = 0 ∧ l' = l ∧ m' (Str.ofString "stack") = some (.ref a.sA) ∧ m' (Str.ofString "i") = some (.int i t) ∧ m' (Str.ofString "value") = some v) ⟨rfl, rfl, rfl, rfl, rfl⟩ ?_
    rintro k m' l' ⟨rfl, rfl, g1, g2, g3⟩
    repeat' (first | walk_at "m" | walk_at "a")
    all_goals (first | (exfalso; omega) | skip)
    refine ⟨rfl, ?_, by assumption⟩
    rw [if_neg h1]
    assumption

theorem trim_spec {w : World} {l : Led} {a : Adr} {σ : Sig} {i : Nat} {t : Tok} (H : AR l a σ) (Z : Sz σ) (hi : i ≤ σ.heap.length) :
    Spec w 223 1 [.ref a.ax, .int i t] l (fun r l' => r = .none ∧ AR l' a { σ with heap := σ.heap.take i } ∧ Sub a.D l l') := by
  refine enter (by k_is) (by k_is) [(Str.ofString "self", .ref a.ax), (Str.ofString "h", .int i t)] (by rfl) (locs rfl) ?_ rfl rfl rfl (by decide)
  intro A env g L he C
  subst he
  obtain ⟨z1, z2, z3⟩ := Z
  walk_at "m"
  refine T_delete ?_
  repeat' (first | walk_at "m" | walk_at "a")
  refine T_slice ?_
  refine T_part ?_
  repeat' (first | walk_at "m" | walk_at "a")
  refine T_part0 ?_
  intro b l2 hb s2 hn
  have H2 := H.sub0 s2
  obtain ⟨ob, ⟨es, e1, di, ad⟩, ⟨hv, p1, p2⟩, ⟨sv, s1, s3⟩, ⟨tv, t1, t2⟩, n1, n2, n3, n4⟩ := H2
  refine T_delFrom p1 hb (by rw [p2.len]; exact hi) (by rw [p2.len, sizeLine_eq]; omega) fun l3 q s4 => ?_
  repeat' (first | walk_at "m" | walk_at "a")
  exact ⟨rfl, ⟨s4.fix ob, ⟨es, e1, s4 _ di (.inr fun z => n4 (by simp at z; simp [z])), ad⟩, ⟨_, q, (p2.take i).sub s4⟩, ⟨sv, s1.sub s4 (by simpa using Ne.symm n1), s3.sub s4⟩, ⟨tv, t1.sub s4 (by simpa using Ne.symm n2), t2⟩, n1, n2, n3, n4⟩,
    (s2.mono (by simp)).trans (s4.mono (by simp))⟩
end Mine
end
section
open PySem PySem.W PySem.Calls PyProof.Rows PyProof.V PySem.Spec
namespace Mine
theorem fillK_sound : PySem.Challenge.rw_no0163_01.prog = PySem.Challenge.rw_no0163_01.prog ∧ (∀ w : World, (hd.heap_39 w.params) = hd.heap_39 w.params) := by
  k_fill
  exact ⟨rfl, fun _ => rfl⟩

/-- the law's first ask -/
structure SoundS (σ : Sig) (above : Nat) : Prop where
  h : ∀ i : Nat, i < σ.heap.length → (at' σ.heap i).1 ≠ 1 ∧ ((at' σ.heap i).1 = 0 → (at' σ.heap i).2 ≤ i)
  s : ∀ i : Nat, i < above → ((at' σ.stack i).1 = 1 → (at' σ.stack i).2 ≤ i) ∧ ((at' σ.stack i).1 = 0 → (at' σ.stack i).2 < σ.heap.length)
  a : above ≤ σ.stack.length

theorem sound_spec {w : World} {l : Led} {a : Adr} {σ : Sig} {above : Nat} {t : Tok} (H : AR l a σ) (Z : Sz σ) (S : SoundS σ above) :
    Spec w 342 1 [.ref a.ax, .int above t] l (fun r l' => r = .bool true ∧ AR l' a σ ∧ Sub [] l l') := by
  refine enter (by k_is) (by k_is) [(Str.ofString "areas", .ref a.ax), (Str.ofString "above", .int above t)] (by rfl) (locs rfl) ?_ rfl rfl rfl (by decide)
  intro A env g L he C
  subst he
  have Z0 := Z
  obtain ⟨z1, z2, z3⟩ := Z
  obtain ⟨q1, q2, q3⟩ := S
  walk_at "m"
  refine T_for C ?_
  repeat' (first | walk_at "m" | walk_at "a")
  refine T_range fun r l2 t1 t2 t3 hr s2 n2 => ?_
  intro s F N
  refine iter_range C hr (by omega) (fun _ m l' => m (Str.ofString "areas") = some (.ref a.ax) ∧ m (Str.ofString "above") = some (.int above t) ∧ Sub [] l2 l') (fun i m l₁ l' h1 h2 => ⟨h2.1, h2.2.1, fun p hp _ => h1 p (h2.2.2 p hp (.inr (by simp))) (.inr hp)⟩) ⟨rfl, rfl, Sub.refl⟩ ?_ ?_ s F N
  · rintro i m l3 hi ⟨g1, g2, g3⟩ t4
    have H3 := (H.sub0 s2).sub0 g3
    obtain ⟨c1, c2⟩ := q1 i hi
    repeat' (first | walk_at "m" | walk_at "a")
    all_goals first
      | (exfalso; omega)
      | exact ⟨⟨g1, g2, g3⟩, fun _ h _ => h⟩
  · rintro m l3 ⟨g1, g2, g3⟩
    walk_at "m"
    walk_at "m"
    refine T_for C ?_
    repeat' (first | walk_at "m" | walk_at "a")
    refine T_range fun r' l4 t4 t5 t6 hr' s4 n4 => ?_
    intro s' F' N'
    refine iter_range C hr' (by omega) (fun _ m l' => m (Str.ofString "areas") = some (.ref a.ax) ∧ Sub [] l4 l') (fun i m l₁ l' h1 h2 => ⟨h2.1, fun p hp _ => h1 p (h2.2 p hp (.inr (by simp))) (.inr hp)⟩) ⟨g1, Sub.refl⟩ ?_ ?_ s' F' N'
    · rintro i m l5 hi ⟨f1, f3⟩ t4
      have H3 := (((H.sub0 s2).sub0 g3).sub0 s4).sub0 f3
      obtain ⟨c1, c2⟩ := q2 i hi
      repeat' (first | walk_at "m" | walk_at "a")
      all_goals first
        | (exfalso; omega)
        | exact ⟨⟨f1, f3⟩, fun _ h _ => h⟩
    · rintro m l5 ⟨f1, f3⟩
      have H3 := (((H.sub0 s2).sub0 g3).sub0 s4).sub0 f3
      repeat' (first | walk_at "m" | walk_at "a")
      exact ⟨rfl, H3, s2.trans (g3.trans (s4.trans f3))⟩
end Mine
end
section
open PySem PySem.W PySem.Calls PyProof.Rows PyProof.V PySem.Spec
namespace Mine

theorem isStr_other {x y : Str} {t : Tok} (h : x ≠ y) : (Value.str x t).isStr y = false := by
  show (x == y) = false
  simpa using h
theorem isStr_two {v : Value} {x y : Str} (h : v.isStr x = true) (hn : x ≠ y) : v.isStr y = false := by
  cases v <;> first | (cases h; done) | skip
  have : (_ == x) = true := h
  have e := eq_of_beq this
  subst e
  exact isStr_other hn
theorem put_find_same {name : Str} {hs : Int} {t : Tok} {v : Value} : ∀ es : List DictEntry, ∃ e, (putL name hs (.str name t) v es).find? (·.key.isStr name) = some e ∧ e.val = v
  | [] => ⟨⟨hs, .str name t, v⟩, by simp [putL, Value.isStr], rfl⟩
  | e :: r => by
    unfold putL
    by_cases h : e.key.isStr name = true
    · rw [if_pos h]; exact ⟨⟨e.hash, e.key, v⟩, by rw [List.find?_cons]; simp only [h], rfl⟩
    · rw [if_neg h]
      obtain ⟨e', h1, h2⟩ := put_find_same (name := name) (hs := hs) (t := t) (v := v) r
      exact ⟨e', by rw [List.find?_cons]; simp only [h]; exact h1, h2⟩
theorem put_find_other {name nm : Str} {hs : Int} {t : Tok} {v : Value} (hn : name ≠ nm) : ∀ es : List DictEntry,
    ((putL name hs (.str name t) v es).find? (·.key.isStr nm)) = es.find? (·.key.isStr nm) ∧ (putL name hs (.str name t) v es).any (·.refKey) = es.any (·.refKey)
  | [] => ⟨by simp [putL, List.find?_cons, isStr_other hn], by simp [putL, DictEntry.refKey]⟩
  | e :: r => by
    unfold putL
    by_cases h : e.key.isStr name = true
    · rw [if_pos h]
      have := isStr_two h hn
      refine ⟨by rw [List.find?_cons, List.find?_cons]; simp only [this], by simp [DictEntry.refKey]⟩
    · rw [if_neg h]
      obtain ⟨h1, h2⟩ := put_find_other (nm := nm) (hs := hs) (t := t) (v := v) hn r
      refine ⟨by rw [List.find?_cons, List.find?_cons, h1], by simp [h2]⟩
theorem put_len {name : Str} {hs : Int} {t : Tok} {v : Value} : ∀ es : List DictEntry, (putL name hs (.str name t) v es).length ≤ es.length + 1
  | [] => by simp [putL]
  | e :: r => by
    unfold putL
    split
    · simp
    · have := put_len (name := name) (hs := hs) (t := t) (v := v) r
      simp; omega
theorem get_put_same {name : Str} {hs : Int} {t : Tok} {v : Value} {es : List DictEntry} : getL name (putL name hs (.str name t) v es) = some (some v) := by
  obtain ⟨e, h1, h2⟩ := put_find_same (name := name) (hs := hs) (t := t) (v := v) es
  simp only [getL, h1, h2]
theorem get_put_other {name nm : Str} {hs : Int} {t : Tok} {v : Value} {es : List DictEntry} (hn : name ≠ nm) : getL nm (putL name hs (.str name t) v es) = getL nm es := by
  obtain ⟨h1, h2⟩ := put_find_other (hs := hs) (t := t) (v := v) hn es
  simp only [getL, h1, h2]

theorem put_len_any {name : Str} {hs : Int} {t : Tok} {v : Value} : ∀ es : List DictEntry, es.any (·.key.isStr name) = true → (putL name hs (.str name t) v es).length = es.length
  | [], h => by simp at h
  | e :: r, h => by
    unfold putL
    split
    · simp
    · rename_i hn
      have := put_len_any (name := name) (hs := hs) (t := t) (v := v) r (by simpa [hn] using h)
      simp [this]
theorem put_len_same {name : Str} {hs : Int} {t : Tok} {v v' : Value} (es : List DictEntry) (h : getL name es = some (some v')) : (putL name hs (.str name t) v es).length = es.length := by
  refine put_len_any es ?_
  unfold getL at h
  split at h
  · rename_i e he
    exact List.any_eq_true.mpr ⟨e, List.mem_of_find?_eq_some he, by simpa using List.find?_some he⟩
  · split at h <;> cases h
section
variable {w : World} {A : Around} {g : Heap} {L : Addr} {m : Map} {l : Led} {n : Nat} {env : Env}

theorem T_setOwn2 {x dx Cc : Addr} {es : List DictEntry} {k : Nat} {name : Str} {v : Value} {Φ : Unit → Map → Led → Prop} (C : Ctx w n A env g L)
    (h1 : (x, instObj Cc dx) ∈ l) (h2 : (dx, dictOf es k) ∈ l) (hs : findIn (hd.heap_39 w.params) (.ref Cc) "__setattr__" = some (some (.builtin "object.__setattr__"))) (hp : plainOver (hd.heap_39 w.params) Cc = true)
    (ht : takerIn (hd.heap_39 w.params) Cc name = some none) (hh : hasDictIn (hd.heap_39 w.params) Cc = true) (hl : (getL name es).isSome = true) (hz : es.length < 900)
    (h : ∀ l' es' k', (dx, dictOf es' k') ∈ l' → getL name es' = some (some v) → (∀ nm, name ≠ nm → getL nm es' = getL nm es) → es'.length ≤ es.length + 1 → ((∃ v, getL name es = some (some v)) → es'.length = es.length) → Sub [dx] l l' → Φ () m l') : Tri w A g L (setAttr (.ref x) name v) m l Φ := by
  intro s F N
  have hne : x ≠ dx := by
    rintro rfl
    have := (N _ h1).1
    rw [(N _ h2).1] at this
    cases this
  let l₂ : Led := (dx, dictOf es k) :: l.filter (fun p => p.1 ≠ dx)
  have N₂ : News g L s.heap l₂ := by
    intro p hp
    rcases List.mem_cons.mp hp with rfl | hp
    · exact N _ h2
    · exact N _ (List.mem_filter.mp hp).1
  have m1 : (x, instObj Cc dx) ∈ l₂ := .tail _ (List.mem_filter.mpr ⟨h1, by simpa using hne⟩)
  refine set_dict (es := es) (n := k) F C.X N₂ (InstAt.of_news N₂ m1 (.head _)) rfl hs hp ht hh hl rfl (.head fun p hp => by simpa using (List.mem_filter.mp hp).2) ?_ ?_
  · have := put_len (name := name) (hs := PyData.keyHash w.params name) (t := s.toks + 1) (v := v) es
    omega
  · intro h' F' N'
    refine ⟨h', _, m, _, rfl, F', N', h _ _ _ (.head _) get_put_same (fun nm hn => get_put_other hn) (put_len _) (fun ⟨_, q⟩ => put_len_same _ q) ?_⟩
    intro p hp c
    by_cases hpd : p.1 = dx
    · rcases c with c | c
      · have := (N _ hp).1
        rw [hpd, (N _ h2).1] at this
        cases p with | mk a o => cases this; exact absurd (show fixV (.type "dict") = true from fixC_cls c) (by decide)
      · exact absurd (by simp [hpd]) c
    · exact .tail _ (List.mem_filter.mpr ⟨hp, by simpa using hpd⟩)

theorem T_setOwn {x dx Cc : Addr} {es : List DictEntry} {k : Nat} {name : Str} {v : Value} {Φ : Unit → Map → Led → Prop} (C : Ctx w n A env g L)
    (h1 : (x, instObj Cc dx) ∈ l) (h2 : (dx, dictOf es k) ∈ l) (hs : findIn (hd.heap_39 w.params) (.ref Cc) "__setattr__" = some (some (.builtin "object.__setattr__"))) (hp : plainOver (hd.heap_39 w.params) Cc = true)
    (ht : takerIn (hd.heap_39 w.params) Cc name = some none) (hh : hasDictIn (hd.heap_39 w.params) Cc = true) (hl : (getL name es).isSome = true) (hz : es.length < 900)
    (h : ∀ l' es' k', (dx, dictOf es' k') ∈ l' → getL name es' = some (some v) → (∀ nm, name ≠ nm → getL nm es' = getL nm es) → es'.length ≤ es.length + 1 → Sub [dx] l l' → Φ () m l') : Tri w A g L (setAttr (.ref x) name v) m l Φ :=
  T_setOwn2 C h1 h2 hs hp ht hh hl hz fun l' es' k' a b c d _ e => h l' es' k' a b c d e

theorem T_make {Cc fI : Addr} {pos : List Value} {Φ : Value → Map → Led → Prop} (C : Ctx w (n + 1) A env g L) (hm : makesIn (hd.heap_39 w.params) Cc = true)
    (hi : findIn (hd.heap_39 w.params) (.ref Cc) "__init__" = some (some (.ref fI))) (hf : isFn (hd.heap_39 w.params) (.ref fI) = true)
    (h : ∀ x dx l', (x, instObj Cc dx) ∈ l' → (dx, dictOf [] 0) ∈ l' → Sub [] l l' → New l x → New l dx → x ≠ dx → ∃ Post, Spec w fI n (.ref x :: pos) l' Post ∧ ∀ r l'', Post r l'' → r = .none ∧ Φ (.ref x) m l'') :
    Tri w A g L (call (.ref Cc) pos) m l Φ := by
  intro s F N
  refine call_cls F C.X N hm hi hf fun x dx h' F' N' l1 l2 => ?_
  have nl : ∀ {a : Addr}, dx ≤ a → New l a := fun {a} ha p hp => by
    have h1 : @LT.lt Nat _ p.1 dx := l1 p hp
    have h2 : @LE.le Nat _ dx a := ha
    intro e
    rw [e] at h1
    omega
  have hne : x ≠ dx := fun e => absurd (e ▸ l2 : @LT.lt Nat _ dx dx) (Nat.lt_irrefl _)
  obtain ⟨Post, S, hq⟩ := h x dx _ (.head _) (.tail _ (.head _)) (fun p hp _ => .tail _ (.tail _ hp)) (nl (Nat.le_of_lt l2)) (nl (Nat.le_refl _)) hne
  have C' : Ctx w n (A.under (.builtin "type.__call__" ⟨.ref Cc :: pos, []⟩)) env g L := C.units1 (Nat.le_refl _) (by have := units_under_make A Cc pos; omega) rfl rfl
  refine codeAny_mono (S _ env g L m _ C' F' N') fun r s' p => ?_
  match r, p with
  | .ok (.ret v), ⟨h'', tk', l', e, F'', N'', q⟩ =>
    obtain ⟨rfl, z⟩ := hq _ _ q
    exact ⟨rfl, ⟨h'', tk', m, l', e, F'', N'', z⟩⟩
end
end Mine
end
section
open PySem PySem.W PySem.Calls PyProof.Rows PyProof.V PySem.Spec
namespace Mine

/-- what a turn must leave: iterators, and the object at ax -/
noncomputable def KeepS (ax : Addr) (l l' : Led) : Prop := ∀ p ∈ l, (isIt p.2 = true ∨ p.1 = ax) → p ∈ l'
theorem isItV_fix {v : Value} (h : isItV v = true) : fixV v = true := by
  simp only [isItV, Bool.or_eq_true, beq_iff_eq] at h
  rcases h with (rfl | rfl) | rfl <;> rfl
theorem isIt_fix {o : Obj} (h : isIt o = true) : fixC o = true := by
  obtain ⟨a, b⟩ := Bool.and_eq_true_iff.mp h
  exact Bool.and_eq_true_iff.mpr ⟨isItV_fix a, b⟩
theorem isIt_mk {o : Obj} {v : Value} {a : Array Value} (h1 : o.cls = v) (h2 : isItV v = true) (h3 : o.data = .fields a) : isIt o = true := by
  unfold isIt
  rw [h1, h2, h3]; rfl
theorem fix_mk {o : Obj} {v : Value} {a : Array Value} {n : Nat} (h1 : o.cls = v) (h2 : fixV v = true) (h3 : o.data = .seq a n) : fixC o = true := by
  unfold fixC
  rw [h1, h2, h3]; rfl
theorem KeepS.of {D : List Addr} {ax : Addr} {l l' : Led} (s : Sub D l l') (h : ax ∉ D) : KeepS ax l l' := fun p hp c => s p hp (c.imp isIt_fix fun e => by rw [e]; exact h)
theorem KeepI.of {D : List Addr} {l l' : Led} (s : Sub D l l') : ∀ p ∈ l, isIt p.2 = true → p ∈ l' := fun p hp c => s p hp (.inl (isIt_fix c))
theorem Sub.new {D D' : List Addr} {l l1 l2 : Led} (a : Sub D l l1) (b : Sub D' l1 l2) (h : ∀ x ∈ D', New l x ∨ x ∈ D) : Sub D l l2 := fun p hp c => b p (a p hp c) (by
  rcases c with c | c
  · exact .inl c
  · refine .inr fun hx => ?_
    rcases h _ hx with q | q
    · exact q p hp rfl
    · exact c q)
theorem New.sub {l l1 : Led} {a : Addr} (h : New l1 a) (s : Sub [] l l1) : New l a := fun p hp => h p (s p hp (.inr (by simp)))

section
variable {w : World} {A : Around} {g : Heap} {L : Addr} {α β : Type} {m : Map} {l : Led} {n : Nat} {env : Env}

theorem iter_tup {ax : Addr} {vs : List Value} {x : Str} {body : List Stmt} {Φ : Flow → Map → Led → Prop} (C : Ctx w n A env g L) (hr : TT l ax vs)
    (J : Nat → Map → Led → Prop) (hJ : ∀ i m l₁ l', Stay l l₁ l' → J i m l₁ → J i m l') (h0 : J 0 m l)
    (turn : ∀ i v m l, vs[i]? = some v → J i m l → Tri w A g L (execs body env) (fun y => if y = x then some v else m y) l (TurnEnd Φ (J (i + 1)) (KeepS ax l)))
    (done : ∀ m l, J vs.length m l → Φ .next m l) (s : Shared) (F : Fr g L s.heap m) (N : News g L s.heap l) :
    wpAny (model P0 w) A (pyIter (.ref ax)) (fun it s₂ => LoopAtV P0 w A g env x body (fun f s' => ∃ h' tk' m' l', s' = { s with heap := h', toks := tk' } ∧ Fr g L h' m' ∧ News g L h' l' ∧ Φ f m' l') (fun _ _ => False) it s₂) (fun _ _ => False) s := by
  have hax := N _ hr
  have hls : s.heap.IsTuple ax vs.toArray := ⟨_, hax.1, rfl, _, rfl⟩
  have hne : ax ≠ s.heap.objs.size := Nat.ne_of_lt (Heap.lt_size hax.1)
  have hlen : vs.toArray.size = vs.length := by simp
  refine wpAny_pyIter_tuple hls ?_
  have W := Walks.tuple (prog := P0) (w := w) C.han s.heap.objs.size ax hne vs.toArray
  rw [hlen] at W
  refine loopAt C J (fun l l' => KeepS ax l l') W ?_ ?_ ⟨⟨_, Heap.get?_push_size _ rfl, rfl, rfl⟩, hls.at fun o e => Heap.get?_push_of_some _ e⟩ (F.push _) (fun p hp => ⟨Heap.get?_push_of_some _ (N p hp).1, (N p hp).2⟩) ?_ ⟨_, _, rfl⟩ hJ h0 ?_ ?_ ?_ done
  · intro hm
    rcases List.mem_cons.mp hm with e | hm
    · exact absurd F.ns.lt (e ▸ Nat.lt_irrefl _)
    · exact hax.2.1 ((List.mem_singleton.mp hm).symm)
  · intro b hb
    rw [List.mem_singleton.mp hb]
    exact next_is_new F
  · intro p hp hI
    exact absurd (Heap.lt_size (N p hp).1) ((List.mem_singleton.mp hI) ▸ Nat.lt_irrefl _)
  · intro i h b hst hb
    rw [List.mem_singleton.mp hb]
    obtain ⟨it, hit, hic, hdt⟩ := hst.1
    exact ⟨_, hit, isIt_mk hic rfl hdt⟩
  · intro i h own l₁ l' hst ho hat hK p hp
    refine hK p (List.mem_append_left _ hp) ?_
    have e1 := hat p hp
    rcases List.mem_cons.mp (ho p hp) with e | e
    · obtain ⟨it, hit, hic, hdt⟩ := hst.1
      rw [e, hit] at e1
      rw [← Option.some.inj e1]
      exact .inl (isIt_mk hic rfl hdt)
    · exact .inr (List.mem_singleton.mp e)
  · rintro i v m₁ l₁ hi hP hj
    exact turn i v m₁ l₁ (by simpa using hP) hj
theorem iter_lst {ax : Addr} {vs : List Value} {x : Str} {body : List Stmt} {Φ : Flow → Map → Led → Prop} (C : Ctx w n A env g L) (hr : LL l ax vs)
    (J : Nat → Map → Led → Prop) (hJ : ∀ i m l₁ l', Stay l l₁ l' → J i m l₁ → J i m l') (h0 : J 0 m l)
    (turn : ∀ i v m l, vs[i]? = some v → J i m l → Tri w A g L (execs body env) (fun y => if y = x then some v else m y) l (TurnEnd Φ (J (i + 1)) (KeepS ax l)))
    (done : ∀ m l, J vs.length m l → Φ .next m l) (s : Shared) (F : Fr g L s.heap m) (N : News g L s.heap l) :
    wpAny (model P0 w) A (pyIter (.ref ax)) (fun it s₂ => LoopAtV P0 w A g env x body (fun f s' => ∃ h' tk' m' l', s' = { s with heap := h', toks := tk' } ∧ Fr g L h' m' ∧ News g L h' l' ∧ Φ f m' l') (fun _ _ => False) it s₂) (fun _ _ => False) s := by
  obtain ⟨c, hr⟩ := hr
  have hax := N _ hr
  have hls : s.heap.IsList ax vs.toArray := ⟨_, hax.1, rfl, _, rfl⟩
  have hne : ax ≠ s.heap.objs.size := Nat.ne_of_lt (Heap.lt_size hax.1)
  have hlen : vs.toArray.size = vs.length := by simp
  refine wpAny_pyIter_list hls ?_
  have W := Walks.list (prog := P0) (w := w) C.han s.heap.objs.size ax hne vs.toArray
  rw [hlen] at W
  refine loopAt C J (fun l l' => KeepS ax l l') W ?_ ?_ ⟨⟨_, Heap.get?_push_size _ rfl, rfl, rfl⟩, hls.at fun o e => Heap.get?_push_of_some _ e⟩ (F.push _) (fun p hp => ⟨Heap.get?_push_of_some _ (N p hp).1, (N p hp).2⟩) ?_ ⟨_, _, rfl⟩ hJ h0 ?_ ?_ ?_ done
  · intro hm
    rcases List.mem_cons.mp hm with e | hm
    · exact absurd F.ns.lt (e ▸ Nat.lt_irrefl _)
    · exact hax.2.1 ((List.mem_singleton.mp hm).symm)
  · intro b hb
    rw [List.mem_singleton.mp hb]
    exact next_is_new F
  · intro p hp hI
    exact absurd (Heap.lt_size (N p hp).1) ((List.mem_singleton.mp hI) ▸ Nat.lt_irrefl _)
  · intro i h b hst hb
    rw [List.mem_singleton.mp hb]
    obtain ⟨it, hit, hic, hdt⟩ := hst.1
    exact ⟨_, hit, isIt_mk hic rfl hdt⟩
  · intro i h own l₁ l' hst ho hat hK p hp
    refine hK p (List.mem_append_left _ hp) ?_
    have e1 := hat p hp
    rcases List.mem_cons.mp (ho p hp) with e | e
    · obtain ⟨it, hit, hic, hdt⟩ := hst.1
      rw [e, hit] at e1
      rw [← Option.some.inj e1]
      exact .inl (isIt_mk hic rfl hdt)
    · exact .inr (List.mem_singleton.mp e)
  · rintro i v m₁ l₁ hi hP hj
    exact turn i v m₁ l₁ (by simpa using hP) hj

-- dicts of ints under texts, under pairs of ints
noncomputable def DS (w : World) (l : Led) (d : Addr) (k : Nat) : Prop :=
  (d == sysModules) = false ∧ ∃ o kvs D, (d, o) ∈ l ∧ o.IsDictOf (PySem.strKind P0 w) kvs ∧ FlatPairs PyData.str kvs D ∧ (∀ x y, lookup (.str x) D = some y → ∃ i, y = .int i) ∧ D.length ≤ k
theorem DS.sub {D : List Addr} {w : World} {l l' : Led} {d : Addr} {k : Nat} (h : DS w l d k) (s : Sub D l l') (hn : d ∉ D) : DS w l' d k :=
  ⟨h.1, let ⟨o, kvs, E, a, r⟩ := h.2; ⟨o, kvs, E, s _ a (.inr hn), r⟩⟩
theorem DS.more {w : World} {l : Led} {d : Addr} {k k' : Nat} (h : DS w l d k) (hk : k ≤ k') : DS w l d k' :=
  ⟨h.1, let ⟨o, kvs, E, a, b, c, e, f⟩ := h.2; ⟨o, kvs, E, a, b, c, e, by omega⟩⟩
theorem stabs_of {s : Shared} {d : Addr} {k : Nat} (N : News g L s.heap l) (h : DS w l d k) : ∃ D, TabAt (PySem.strKind P0 w) PyData.str s.heap d D ∧ (∀ x y, lookup (.str x) D = some y → ∃ i, y = .int i) ∧ D.length ≤ k := by
  obtain ⟨lo, o, kvs, D, q, hd, hf, hv, hk⟩ := h
  exact ⟨D, TabAt.ofNews N q lo hd hf, hv, hk⟩
theorem S_getM {d : Addr} {k : Nat} {pl : Sem Bool} {Φ : Value × List Value → Map → Led → Prop} (h : DS w l d k) (q : Φ (.builtin "dict.get", [.ref d]) m l) : Tri w A g L (getMethod (.ref d) (Str.ofString "get") pl) m l Φ := fun s F N => by
  obtain ⟨D, T, hv, _⟩ := stabs_of N h
  exact getMethod_strTab_get T ⟨s.heap, _, m, l, rfl, F, N, q⟩
theorem S_get {d : Addr} {k : Nat} {x : Str} {t u : Tok} {i : Int} {Φ : Value → Map → Led → Prop} (h : DS w l d k) (q : ∀ i t, Φ (.int i t) m l) : Tri w A g L (call (.builtin "dict.get") [.ref d, .str x t, .int i u]) m l Φ := fun s F N => by
  obtain ⟨D, T, hv, _⟩ := stabs_of N h
  refine call_get2_strTab T (.int i u) fun v hF => ?_
  have : ∃ j, (lookup (.str x) D).getD (.int i) = .int j := by
    cases e : lookup (.str x) D with
    | none => exact ⟨i, rfl⟩
    | some y => exact hv _ _ e
  obtain ⟨j, e⟩ := this
  rw [e] at hF
  have hR := hF s.heap
  cases hR with
  | int _ t => exact ⟨s.heap, _, m, l, rfl, F, N, q _ _⟩
theorem S_set {d : Addr} {k : Nat} {x : Str} {t u : Tok} {i : Int} {Φ : Unit → Map → Led → Prop} (h : DS w l d k) (hk : k < 100000) (q : ∀ l', DS w l' d (k + 1) → Sub [d] l l' → Φ () m l') : Tri w A g L (setItem (.ref d) (.str x t) (.int i u)) m l Φ := fun s F N => by
  obtain ⟨lo, o, kvs, D, hm, hd, hf, hv, hl⟩ := h
  refine wpAny_setItem_pairs (hsz := by rw [← hf.length, sizeLine_eq]; omega) (strKind_is P0 w x t) (Heap.dictOf_iff.mpr ⟨o, (N _ hm).1, hd⟩) fun h' hmm hs => ?_
  obtain ⟨o', ho', hd'⟩ := Heap.dictOf_iff.mp hmm
  obtain ⟨F', l', N', m1, m2⟩ := change F N hm hs ho'
  refine ⟨_, _, m, l', rfl, F', N', q l' ⟨lo, o', _, putD (.str x) (.int i) D, m1, hd', hf.stored same_str x (.int _ _), fun y v hy => ?_, ?_⟩ (fun p hp c => m2 p hp fun e => ?_)⟩
  · by_cases hj : y = x
    · subst hj; rw [lookup_putK_same keyEnc_str] at hy; exact ⟨i, (Option.some.inj hy).symm⟩
    · rw [lookup_putK_other keyEnc_str hj] at hy; exact hv _ _ hy
  · unfold putD
    split <;> simp <;> omega
  · rcases c with c | c
    · have := (N p hp).1
      rw [e, (N _ hm).1] at this
      obtain ⟨es, ep, he, _⟩ := hd
      rw [← Option.some.inj this] at c
      have c := fixC_cls c
      rw [he.1] at c
      exact absurd (show fixV (.type "dict") = true from c) (by decide)
    · exact c (by simp [e])
theorem S_new {pos : Pos} {Φ : Value → Map → Led → Prop} (C : Ctx w n A env g L) (q : ∀ b l', DS w l' b 0 → Sub [] l l' → New l b → Φ (.ref b) m l') : Tri w A g L (eval (.Dict [] [] pos) env) m l Φ := fun s F N => by
  obtain ⟨mean, mg, mb, T⟩ := C.top
  refine newDict_K F N T.nolimit fun b h' o F' N' l1 lo hi fi _ _ => ⟨h', _, m, _, rfl, F', N', q b _ ⟨lo, o, [], [], .head _, hi, fi, fun _ _ e => (by cases e), Nat.le_refl _⟩ (fun p hp _ => .tail _ hp) fun p hp => Nat.ne_of_lt (l1 p hp)⟩

noncomputable def DT (w : World) (l : Led) (d : Addr) (k : Nat) : Prop :=
  ∃ D, TupTab (PySem.intKind P0 w) PyData.int l d D ∧ (∀ x y, PySem.Spec.lookup (encTuple PyData.int x) D = some y → ∃ i, y = .int i) ∧ D.length ≤ k
theorem DT.sub {D : List Addr} {w : World} {l l' : Led} {d : Addr} {k : Nat} (h : DT w l d k) (s : Sub D l l') (hn : d ∉ D) : DT w l' d k := by
  obtain ⟨E, ⟨lo, o, es, ep, xs, hm, hc, hd, he, hnd, hk, hf⟩, hv, hl⟩ := h
  exact ⟨E, ⟨lo, o, es, ep, xs, s _ hm (.inr hn), hc, hd, he, hnd, fun x hx => let ⟨ok, h1, h2⟩ := hk x hx; ⟨ok, s _ h1 (.inl (let ⟨z1, _, _, z2, _⟩ := h2; fix_mk z1 rfl z2)), h2⟩, hf⟩, hv, hl⟩
theorem pair_items {a b : Int} {t u : Tok} : ItemsAre (PySem.intKind P0 w) [a, b] [.int a t, .int b u] := .cons (intKind_is P0 w a t) (.cons (intKind_is P0 w b u) .nil)
theorem U_getM {d : Addr} {k : Nat} {pl : Sem Bool} {Φ : Value × List Value → Map → Led → Prop} (h : DT w l d k) (q : Φ (.builtin "dict.get", [.ref d]) m l) : Tri w A g L (getMethod (.ref d) (Str.ofString "get") pl) m l Φ := fun s F N => by
  obtain ⟨D, T, hv, _⟩ := h
  exact getMethod_tupTab_get N T ⟨s.heap, _, m, l, rfl, F, N, q⟩
theorem U_get {d ka : Addr} {k : Nat} {a b i : Int} {t u v : Tok} {Φ : Value → Map → Led → Prop} (C : Ctx w n A env g L) (h : DT w l d k) (hk : TT l ka [.int a t, .int b u]) (q : ∀ i t, Φ (.int i t) m l) : Tri w A g L (call (.builtin "dict.get") [.ref d, .ref ka, .int i v]) m l Φ := fun s F N => by
  obtain ⟨D, T, hv, _⟩ := h
  refine call_get2_tupTab (ks := [a, b]) same_int (by have := C.uni; omega) N T hk (TupKeyObj.made pair_items) (.int i v) fun v hF => ?_
  have : ∃ j, (PySem.Spec.lookup (encTuple PyData.int [a, b]) D).getD (.int i) = .int j := by
    cases e : PySem.Spec.lookup (encTuple PyData.int [a, b]) D with
    | none => exact ⟨i, rfl⟩
    | some y => exact hv _ _ e
  obtain ⟨j, e⟩ := this
  rw [e] at hF
  have hR := hF s.heap
  cases hR with
  | int _ t => exact ⟨s.heap, _, m, l, rfl, F, N, q _ _⟩
theorem U_set {d ka : Addr} {k : Nat} {a b i : Int} {t u v : Tok} {Φ : Unit → Map → Led → Prop} (C : Ctx w n A env g L) (h : DT w l d k) (hk : TT l ka [.int a t, .int b u]) (hz : k < 100000) (q : ∀ l', DT w l' d (k + 1) → Sub [d] l l' → Φ () m l') : Tri w A g L (setItem (.ref d) (.ref ka) (.int i v)) m l Φ := fun s F N => by
  obtain ⟨D, T, hv, hl⟩ := h
  obtain ⟨o, hmo, hcls⟩ : ∃ o, (d, o) ∈ l ∧ o.cls = .type "dict" := let ⟨_, o, _, _, _, h1, h2, _⟩ := T; ⟨o, h1, h2.1⟩
  refine setItem_tupTab (hsz := by rw [sizeLine_eq]; omega) (ks := [a, b]) same_int (by have := C.uni; omega) (.int i v) F N T hk (TupKeyObj.made pair_items) fun h' news' F' N' T' _ hs => ⟨h', _, m, news', rfl, F', N', q _ ⟨_, T', fun x y hy => ?_, ?_⟩ fun p hp c => hs p hp fun e => ?_⟩
  · by_cases hj : x = [a, b]
    · subst hj; rw [lookup_putK_same (keyEnc_tuple keyEnc_int)] at hy; exact ⟨i, (Option.some.inj hy).symm⟩
    · rw [lookup_putK_other (keyEnc_tuple keyEnc_int) hj] at hy; exact hv _ _ hy
  · unfold putD
    split <;> simp <;> omega
  · rcases c with c | c
    · have := (N p hp).1
      rw [e, (N _ hmo).1] at this
      rw [← Option.some.inj this] at c
      have c := fixC_cls c
      rw [hcls] at c
      exact absurd (show fixV (.type "dict") = true from c) (by decide)
    · exact c (by simp [e])
theorem U_new {pos : Pos} {Φ : Value → Map → Led → Prop} (C : Ctx w n A env g L) (q : ∀ b l', DT w l' b 0 → Sub [] l l' → New l b → Φ (.ref b) m l') : Tri w A g L (eval (.Dict [] [] pos) env) m l Φ := fun s F N => by
  obtain ⟨mean, mg, mb, T⟩ := C.top
  refine newDict_K F N T.nolimit fun b h' o F' N' l1 lo hi fi _ _ => ⟨h', _, m, _, rfl, F', N', q b _ ⟨[], TupTab.ofEmpty (.head _) lo hi, fun _ _ e => (by cases e), Nat.le_refl _⟩ (fun p hp _ => .tail _ hp) fun p hp => Nat.ne_of_lt (l1 p hp)⟩
end
end Mine
end
section
open PySem PySem.W PySem.Calls PyProof.Rows PyProof.V PySem.Spec
namespace Mine
theorem fillK_sym : PySem.Challenge.rw_no0163_01.prog = PySem.Challenge.rw_no0163_01.prog ∧ (∀ w : World, (hd.heap_39 w.params) = hd.heap_39 w.params) := by
  k_fill
  exact ⟨rfl, fun _ => rfl⟩

structure SA where
  x : Addr
  dx : Addr
  tA : Addr
  dA : Addr
  fA : Addr
  gA : Addr
noncomputable abbrev SA.D (y : SA) : List Addr := [y.tA, y.dA, y.fA, y.gA]
structure SY (w : World) (l : Led) (y : SA) (k : Nat) : Prop where
  ob : (y.x, instObj 154 y.dx) ∈ l
  di : ∃ es c, (y.dx, dictOf es c) ∈ l ∧ getL (Str.ofString "texts") es = some (some (.ref y.tA)) ∧ getL (Str.ofString "atom_numbers") es = some (some (.ref y.dA)) ∧ getL (Str.ofString "functors") es = some (some (.ref y.fA)) ∧
    getL (Str.ofString "functor_numbers") es = some (some (.ref y.gA)) ∧ getL (Str.ofString "atom") es = some none ∧ getL (Str.ofString "functor") es = some none ∧ getL (Str.ofString "func") es = some none
  tx : ∃ vs, LL l y.tA vs ∧ vs.length ≤ k
  an : DS w l y.dA k
  fs : ∃ vs, LL l y.fA vs ∧ vs.length ≤ k
  fn : DT w l y.gA k
  nd : [y.dx, y.tA, y.dA, y.fA, y.gA].Nodup
theorem SY.sub {D : List Addr} {w : World} {l l' : Led} {y : SA} {k : Nat} (h : SY w l y k) (s : Sub D l l') (d0 : y.dx ∉ D) (d1 : y.tA ∉ D) (d2 : y.dA ∉ D) (d3 : y.fA ∉ D) (d4 : y.gA ∉ D) : SY w l' y k := by
  obtain ⟨ob, ⟨es, c, di, r⟩, ⟨tv, t1, t2⟩, an, ⟨fv, f1, f2⟩, fn, nd⟩ := h
  exact ⟨s.fix ob, ⟨es, c, s _ di (.inr d0), r⟩, ⟨tv, t1.sub s d1, t2⟩, an.sub s d2, ⟨fv, f1.sub s d3, f2⟩, fn.sub s d4, nd⟩
theorem SY.sub0 {w : World} {l l' : Led} {y : SA} {k : Nat} (h : SY w l y k) (s : Sub [] l l') : SY w l' y k := h.sub s (by simp) (by simp) (by simp) (by simp) (by simp)
theorem SY.more {w : World} {l : Led} {y : SA} {k k' : Nat} (h : SY w l y k) (hk : k ≤ k') : SY w l y k' := by
  obtain ⟨ob, di, ⟨tv, t1, t2⟩, an, ⟨fv, f1, f2⟩, fn, nd⟩ := h
  exact ⟨ob, di, ⟨tv, t1, by omega⟩, an.more hk, ⟨fv, f1, by omega⟩, (let ⟨D, a, b, c⟩ := fn; ⟨D, a, b, by omega⟩), nd⟩

theorem y_at (w : World) : hasDictIn (hd.heap_39 w.params) 154 = true := by k_is
theorem y_texts (w : World) : plainGet (hd.heap_39 w.params) 154 (Str.ofString "texts") = true ∧ findIn (hd.heap_39 w.params) (.ref 154) (Str.ofString "texts") = some none := ⟨by k_is, by k_is⟩
theorem y_an (w : World) : plainGet (hd.heap_39 w.params) 154 (Str.ofString "atom_numbers") = true ∧ findIn (hd.heap_39 w.params) (.ref 154) (Str.ofString "atom_numbers") = some none := ⟨by k_is, by k_is⟩
theorem y_fs (w : World) : plainGet (hd.heap_39 w.params) 154 (Str.ofString "functors") = true ∧ findIn (hd.heap_39 w.params) (.ref 154) (Str.ofString "functors") = some none := ⟨by k_is, by k_is⟩
theorem y_fn (w : World) : plainGet (hd.heap_39 w.params) 154 (Str.ofString "functor_numbers") = true ∧ findIn (hd.heap_39 w.params) (.ref 154) (Str.ofString "functor_numbers") = some none := ⟨by k_is, by k_is⟩

section
variable {w : World} {A : Around} {g : Heap} {L : Addr} {m : Map} {l : Led} {n : Nat} {env : Env} {y : SA} {k : Nat} {expr : Bool} {t u : Tok}
theorem Y_texts {Φ : Value → Map → Led → Prop} (C : Ctx w n A env g L) (H : SY w l y k) (h : Φ (.ref y.tA) m l) : Tri w A g L (getAttr (.ref y.x) (Str.ofString "texts") expr) m l Φ := by
  obtain ⟨es, c, di, a, _⟩ := H.di
  exact T_attrOwn C H.ob di (y_texts w).1 (y_at w) (y_texts w).2 rfl a rfl h
theorem Y_an {Φ : Value → Map → Led → Prop} (C : Ctx w n A env g L) (H : SY w l y k) (h : Φ (.ref y.dA) m l) : Tri w A g L (getAttr (.ref y.x) (Str.ofString "atom_numbers") expr) m l Φ := by
  obtain ⟨es, c, di, _, a, _⟩ := H.di
  exact T_attrOwn C H.ob di (y_an w).1 (y_at w) (y_an w).2 rfl a rfl h
theorem Y_fs {Φ : Value → Map → Led → Prop} (C : Ctx w n A env g L) (H : SY w l y k) (h : Φ (.ref y.fA) m l) : Tri w A g L (getAttr (.ref y.x) (Str.ofString "functors") expr) m l Φ := by
  obtain ⟨es, c, di, _, _, a, _⟩ := H.di
  exact T_attrOwn C H.ob di (y_fs w).1 (y_at w) (y_fs w).2 rfl a rfl h
theorem Y_fn {Φ : Value → Map → Led → Prop} (C : Ctx w n A env g L) (H : SY w l y k) (h : Φ (.ref y.gA) m l) : Tri w A g L (getAttr (.ref y.x) (Str.ofString "functor_numbers") expr) m l Φ := by
  obtain ⟨es, c, di, _, _, _, a, _⟩ := H.di
  exact T_attrOwn C H.ob di (y_fn w).1 (y_at w) (y_fn w).2 rfl a rfl h
theorem Y_atom {pl : Sem Bool} {Φ : Value × List Value → Map → Led → Prop} (C : Ctx w n A env g L) (H : SY w l y k) (h : Φ (.ref 88, [.ref y.x]) m l) : Tri w A g L (getMethod (.ref y.x) (Str.ofString "atom") pl) m l Φ := by
  obtain ⟨es, c, di, _, _, _, _, a, _, _⟩ := H.di
  exact T_methOwn C H.ob di (by k_is) (by k_is) (by k_is) a h
theorem Y_functor {pl : Sem Bool} {Φ : Value × List Value → Map → Led → Prop} (C : Ctx w n A env g L) (H : SY w l y k) (h : Φ (.ref 102, [.ref y.x]) m l) : Tri w A g L (getMethod (.ref y.x) (Str.ofString "functor") pl) m l Φ := by
  obtain ⟨es, c, di, _, _, _, _, _, a, _⟩ := H.di
  exact T_methOwn C H.ob di (by k_is) (by k_is) (by k_is) a h
theorem Y_func {pl : Sem Bool} {Φ : Value × List Value → Map → Led → Prop} (C : Ctx w n A env g L) (H : SY w l y k) (h : Φ (.ref 109, [.ref y.x]) m l) : Tri w A g L (getMethod (.ref y.x) (Str.ofString "func") pl) m l Φ := by
  obtain ⟨es, c, di, _, _, _, _, _, _, a⟩ := H.di
  exact T_methOwn C H.ob di (by k_is) (by k_is) (by k_is) a h
theorem Y_tlen {Φ : Value → Map → Led → Prop} (H : SY w l y k) (hz : k < 1000) (h : ∀ i t, Φ (.int i t) m l) : Tri w A g L (call (.builtin "len") [.ref y.tA]) m l Φ := by
  obtain ⟨vs, q, e⟩ := H.tx
  exact T_lenL q (by omega) fun t => h _ t
theorem Y_flen {Φ : Value → Map → Led → Prop} (H : SY w l y k) (hz : k < 1000) (h : ∀ i t, Φ (.int i t) m l) : Tri w A g L (call (.builtin "len") [.ref y.fA]) m l Φ := by
  obtain ⟨vs, q, e⟩ := H.fs
  exact T_lenL q (by omega) fun t => h _ t
theorem Y_tM {pl : Sem Bool} {Φ : Value × List Value → Map → Led → Prop} (H : SY w l y k) (h : Φ (.builtin "list.append", [.ref y.tA]) m l) : Tri w A g L (getMethod (.ref y.tA) (Str.ofString "append") pl) m l Φ := by
  obtain ⟨vs, q, e⟩ := H.tx
  exact T_methL q PySem.F.slot_list_append PySem.F.type_list_append h
theorem Y_fM {pl : Sem Bool} {Φ : Value × List Value → Map → Led → Prop} (H : SY w l y k) (h : Φ (.builtin "list.append", [.ref y.fA]) m l) : Tri w A g L (getMethod (.ref y.fA) (Str.ofString "append") pl) m l Φ := by
  obtain ⟨vs, q, e⟩ := H.fs
  exact T_methL q PySem.F.slot_list_append PySem.F.type_list_append h
theorem Y_tapp {v : Value} {Φ : Value → Map → Led → Prop} (H : SY w l y k) (hz : k < 1000) (h : ∀ l', SY w l' y (k + 1) → Sub y.D l l' → Φ .none m l') : Tri w A g L (call (.builtin "list.append") [.ref y.tA, v]) m l Φ := by
  obtain ⟨ob, ⟨es, c, di, r⟩, ⟨tv, t1, t2⟩, an, ⟨fv, f1, f2⟩, fn, nd⟩ := H
  refine T_append t1 (by rw [sizeLine_eq]; omega) fun l' q s => ?_
  have nd' := nd
  simp only [List.nodup_cons, List.mem_cons, not_or, List.not_mem_nil, not_false_eq_true, and_true, List.nodup_nil] at nd'
  obtain ⟨⟨a1, a2, a3, a4⟩, ⟨b1, b2, b3⟩, ⟨c1, c2⟩, d1⟩ := nd'
  refine h l' ⟨s.fix ob, ⟨es, c, s _ di (.inr (by simpa using a1)), r⟩, ⟨_, q, by simp; omega⟩, (an.sub s (by simpa using Ne.symm b1)).more (by omega), ⟨fv, f1.sub s (by simpa using Ne.symm b2), by omega⟩, ?_, nd⟩ (s.mono (by simp))
  obtain ⟨D, x1, x2, x3⟩ := fn.sub s (by simpa using Ne.symm b3)
  exact ⟨D, x1, x2, by omega⟩
theorem Y_fapp {v : Value} {Φ : Value → Map → Led → Prop} (H : SY w l y k) (hz : k < 1000) (h : ∀ l', SY w l' y (k + 1) → Sub y.D l l' → Φ .none m l') : Tri w A g L (call (.builtin "list.append") [.ref y.fA, v]) m l Φ := by
  obtain ⟨ob, ⟨es, c, di, r⟩, ⟨tv, t1, t2⟩, an, ⟨fv, f1, f2⟩, fn, nd⟩ := H
  refine T_append f1 (by rw [sizeLine_eq]; omega) fun l' q s => ?_
  have nd' := nd
  simp only [List.nodup_cons, List.mem_cons, not_or, List.not_mem_nil, not_false_eq_true, and_true, List.nodup_nil] at nd'
  obtain ⟨⟨a1, a2, a3, a4⟩, ⟨b1, b2, b3⟩, ⟨c1, c2⟩, d1⟩ := nd'
  refine h l' ⟨s.fix ob, ⟨es, c, s _ di (.inr (by simpa using a3)), r⟩, ⟨tv, t1.sub s (by simpa using b2), by omega⟩, (an.sub s (by simpa using c1)).more (by omega), ⟨_, q, by simp; omega⟩, ?_, nd⟩ (s.mono (by simp))
  obtain ⟨D, x1, x2, x3⟩ := fn.sub s (by simpa using Ne.symm d1)
  exact ⟨D, x1, x2, by omega⟩
theorem Y_aset {x : Str} {i : Int} {Φ : Unit → Map → Led → Prop} (H : SY w l y k) (hz : k < 1000) (h : ∀ l', SY w l' y (k + 1) → Sub y.D l l' → Φ () m l') : Tri w A g L (setItem (.ref y.dA) (.str x t) (.int i u)) m l Φ := by
  obtain ⟨ob, ⟨es, c, di, r⟩, ⟨tv, t1, t2⟩, an, ⟨fv, f1, f2⟩, fn, nd⟩ := H
  refine S_set an (by omega) fun l' q s => ?_
  have nd' := nd
  simp only [List.nodup_cons, List.mem_cons, not_or, List.not_mem_nil, not_false_eq_true, and_true, List.nodup_nil] at nd'
  obtain ⟨⟨a1, a2, a3, a4⟩, ⟨b1, b2, b3⟩, ⟨c1, c2⟩, d1⟩ := nd'
  refine h l' ⟨s.fix ob, ⟨es, c, s _ di (.inr (by simpa using a2)), r⟩, ⟨tv, t1.sub s (by simpa using b1), by omega⟩, q, ⟨fv, f1.sub s (by simpa using Ne.symm c1), by omega⟩, ?_, nd⟩ (s.mono (by simp))
  obtain ⟨D, x1, x2, x3⟩ := fn.sub s (by simpa using Ne.symm c2)
  exact ⟨D, x1, x2, by omega⟩
theorem Y_fset {ka : Addr} {a b i : Int} {v : Tok} {Φ : Unit → Map → Led → Prop} (C : Ctx w n A env g L) (H : SY w l y k) (hk : TT l ka [.int a t, .int b u]) (hz : k < 1000) (h : ∀ l', SY w l' y (k + 1) → Sub y.D l l' → Φ () m l') :
    Tri w A g L (setItem (.ref y.gA) (.ref ka) (.int i v)) m l Φ := by
  obtain ⟨ob, ⟨es, c, di, r⟩, ⟨tv, t1, t2⟩, an, ⟨fv, f1, f2⟩, fn, nd⟩ := H
  refine U_set C fn hk (by omega) fun l' q s => ?_
  have nd' := nd
  simp only [List.nodup_cons, List.mem_cons, not_or, List.not_mem_nil, not_false_eq_true, and_true, List.nodup_nil] at nd'
  obtain ⟨⟨a1, a2, a3, a4⟩, ⟨b1, b2, b3⟩, ⟨c1, c2⟩, d1⟩ := nd'
  exact h l' ⟨s.fix ob, ⟨es, c, s _ di (.inr (by simpa using a4)), r⟩, ⟨tv, t1.sub s (by simpa using b3), by omega⟩, (an.sub s (by simpa using c2)).more (by omega), ⟨fv, f1.sub s (by simpa using d1), by omega⟩, q, nd⟩ (s.mono (by simp))
end

local macro_rules | `(tactic| walk_at "y") => `(tactic| first
  | (with_reducible refine T_str (fun _ => ?_))
  | ((with_reducible refine' Y_texts ?C ?H ?_); (case C => assumption); (case H => assumption))
  | ((with_reducible refine' Y_an ?C ?H ?_); (case C => assumption); (case H => assumption))
  | ((with_reducible refine' Y_fs ?C ?H ?_); (case C => assumption); (case H => assumption))
  | ((with_reducible refine' Y_fn ?C ?H ?_); (case C => assumption); (case H => assumption))
  | ((with_reducible refine' Y_atom ?C ?H ?_); (case C => assumption); (case H => assumption))
  | ((with_reducible refine' Y_functor ?C ?H ?_); (case C => assumption); (case H => assumption))
  | ((with_reducible refine' Y_func ?C ?H ?_); (case C => assumption); (case H => assumption))
  | ((with_reducible refine' Y_tlen ?H ?hz (fun _ _ => ?_)); (case H => assumption); (case hz => omega))
  | ((with_reducible refine' Y_flen ?H ?hz (fun _ _ => ?_)); (case H => assumption); (case hz => omega))
  | ((with_reducible refine' Y_tM ?H ?_); (case H => assumption))
  | ((with_reducible refine' Y_fM ?H ?_); (case H => assumption))
  | ((with_reducible refine' Y_tapp ?H ?hz (fun _ _ _ => ?_)); (case H => assumption); (case hz => omega))
  | ((with_reducible refine' Y_fapp ?H ?hz (fun _ _ _ => ?_)); (case H => assumption); (case hz => omega))
  | ((with_reducible refine' Y_aset ?H ?hz (fun _ _ _ => ?_)); (case H => assumption); (case hz => omega))
  | ((with_reducible refine' S_getM ?H ?_); (case H => exact SY.an (by assumption)))
  | ((with_reducible refine' S_get ?H (fun _ _ => ?_)); (case H => exact SY.an (by assumption)))
  | ((with_reducible refine' U_getM ?H ?_); (case H => exact SY.fn (by assumption))))

theorem atom_spec {w : World} {l : Led} {y : SA} {k : Nat} {s : Str} {t : Tok} (H : SY w l y k) (hk : k < 900) :
    Spec w 88 1 [.ref y.x, .str s t] l (fun r l' => (∃ i t, r = .int i t) ∧ SY w l' y (k + 2) ∧ Sub y.D l l') := by
  refine enter (by k_is) (by k_is) [(Str.ofString "self", .ref y.x), (Str.ofString "text", .str s t)] (by rfl) (locs rfl) ?_ rfl rfl rfl (by decide)
  intro A env g L he C
  subst he
  repeat' (first | walk_at "m" | walk_at "y")
  · exact ⟨⟨_, _, rfl⟩, H.more (by omega), Sub.refl⟩
  · rename_i S2 H2 S1
    exact ⟨⟨_, _, rfl⟩, by assumption, Sub.trans (by assumption) (by assumption)⟩

theorem functor_spec {w : World} {l : Led} {y : SA} {k : Nat} {a b : Int} {t u : Tok} (H : SY w l y k) (hk : k < 900) :
    Spec w 102 1 [.ref y.x, .int a t, .int b u] l (fun r l' => (∃ i t, r = .int i t) ∧ SY w l' y (k + 2) ∧ Sub y.D l l') := by
  refine enter (by k_is) (by k_is) [(Str.ofString "self", .ref y.x), (Str.ofString "atom", .int a t), (Str.ofString "arity", .int b u)] (by rfl) (locs rfl) ?_ rfl rfl rfl (by decide)
  intro A env g L he C
  subst he
  repeat' (first | walk_at "m" | walk_at "y")
  refine T_newTuple (by rw [sizeLine_eq]; simp) fun ka l1 hk1 s1 n1 => ?_
  have H1 := H.sub0 s1
  repeat' (first | walk_at "m" | walk_at "y" | ((with_reducible refine' U_get C (SY.fn H1) hk1 (fun _ _ => ?_))))
  · exact ⟨⟨_, _, rfl⟩, H1.more (by omega), s1.mono (by simp)⟩
  · rename_i S2 H2 S1
    have hk2 := hk1.sub S1
    refine Y_fset C (by assumption) hk2 (by omega) fun l3 H3 S3 => ?_
    repeat' (first | walk_at "m" | walk_at "y")
    exact ⟨⟨_, _, rfl⟩, by assumption, (s1.mono (by simp)).trans (S1.trans S3)⟩

theorem func_spec {w : World} {l : Led} {y : SA} {k : Nat} {s : Str} {b : Int} {t u : Tok} (H : SY w l y k) (hk : k < 800) :
    Spec w 109 2 [.ref y.x, .str s t, .int b u] l (fun r l' => (∃ i t, r = .int i t) ∧ SY w l' y (k + 4) ∧ Sub y.D l l') := by
  refine enter (by k_is) (by k_is) [(Str.ofString "self", .ref y.x), (Str.ofString "text", .str s t), (Str.ofString "arity", .int b u)] (by rfl) (locs rfl) ?_ rfl rfl rfl (by decide)
  intro A env g L he C
  subst he
  have C1 : Ctx w 1 A _ g L := C.down (by omega)
  have s1 := atom_spec (s := s) (t := t) H (by omega)
  repeat' (first | walk_at "m" | walk_at "y" | ((with_reducible refine T_spec C1 s1 ?_); rintro _ l2 ⟨⟨_, _, rfl⟩, H2, S2⟩))
  refine T_spec C1 (functor_spec H2 (by omega)) ?_
  rintro _ l3 ⟨⟨_, _, rfl⟩, H3, S3⟩
  repeat' (first | walk_at "m" | walk_at "y")
  exact ⟨⟨_, _, rfl⟩, H3, S2.trans S3⟩

/-- a row: a text and an int -/
noncomputable def Row2 (l : Led) (v : Value) : Prop := ∃ b s t i u, v = .ref b ∧ TT l b [.str s t, .int i u]
theorem Row2.sub {D : List Addr} {l l' : Led} {v : Value} (h : Row2 l v) (s : Sub D l l') : Row2 l' v := let ⟨b, x, t, i, u, e, q⟩ := h; ⟨b, x, t, i, u, e, q.sub s⟩
noncomputable def isTxt : Expr → Bool
  | .Constant (.str _) _ _ => true
  | _ => false
noncomputable def isRow : Expr → Bool
  | .Tuple [.Constant (.str _) _ _, .Constant (.int _) _ _] _ _ => true
  | _ => false
section
variable {w : World} {A : Around} {g : Heap} {L : Addr} {m : Map} {l : Led} {n : Nat} {env : Env}
theorem T_row {s : Str} {i : Int} {k k1 k2 : Nat} {p p1 p2 : Pos} : Tri w A g L (eval (.Tuple [.Constant (.str s) k1 p1, .Constant (.int i) k2 p2] k p) env) m l (fun v m' l' => m' = m ∧ Row2 l' v ∧ Sub [] l l') := by
  refine T_tuple (T_items (T_str fun t => T_items (T_int fun u => T_items0 ?_)))
  exact T_newTuple (by rw [sizeLine_eq]; simp) fun a l1 h1 s1 n1 => ⟨rfl, ⟨a, s, t, i, u, rfl, h1⟩, s1⟩
theorem T_txts : ∀ (elts : List Expr) {l : Led}, elts.all isTxt = true → ∀ pos : Pos, Tri w A g L (spliced (backTo pos (starEach elts env))) m l (fun vs m' l' => m' = m ∧ l' = l ∧ (∀ v ∈ vs, ∃ s t, v = .str s t) ∧ vs.length = elts.length)
  | [], l, _, pos => T_items0 ⟨rfl, rfl, by simp, rfl⟩
  | e :: r, l, h, pos => by
    simp only [List.all_cons, Bool.and_eq_true] at h
    obtain ⟨h1, h2⟩ := h
    cases e <;> try (cases h1; done)
    rename_i c k p
    cases c <;> try (cases h1; done)
    rename_i x
    refine T_items (T_str fun t => (T_txts r h2 pos).mono ?_)
    rintro vs m' l' ⟨rfl, rfl, a, b⟩
    refine ⟨rfl, rfl, fun v hv => ?_, by simp [b]⟩
    rcases List.mem_cons.mp hv with rfl | hv
    · exact ⟨_, _, rfl⟩
    · exact a v hv
theorem row_of {e : Expr} (h : isRow e = true) : ∃ s i k k1 k2 p p1 p2, e = .Tuple [.Constant (.str s) k1 p1, .Constant (.int i) k2 p2] k p := by
  unfold isRow at h
  split at h
  · exact ⟨_, _, _, _, _, _, _, _, rfl⟩
  · cases h
theorem T_rows : ∀ (elts : List Expr) {l : Led}, elts.all isRow = true → ∀ pos : Pos, Tri w A g L (spliced (backTo pos (starEach elts env))) m l (fun vs m' l' => m' = m ∧ Sub [] l l' ∧ (∀ v ∈ vs, Row2 l' v) ∧ vs.length = elts.length)
  | [], l, _, pos => T_items0 ⟨rfl, Sub.refl, by simp, rfl⟩
  | e :: r, l, h, pos => by
    simp only [List.all_cons, Bool.and_eq_true] at h
    obtain ⟨h1, h2⟩ := h
    obtain ⟨s, i, k, k1, k2, p, p1, p2, rfl⟩ := row_of h1
    refine T_items (T_row.mono ?_)
    intro v m' l' z
    obtain ⟨e1, a, b⟩ := z
    have e2 := e1.symm
    subst e2
    refine (T_rows r h2 pos).mono ?_
    rintro vs m'' l'' ⟨rfl, s1, a1, b1⟩
    refine ⟨rfl, b.trans s1, fun v' hv => ?_, by simp [b1]⟩
    rcases List.mem_cons.mp hv with rfl | hv
    · exact a.sub s1
    · exact a1 _ hv
end
end Mine
end
section
open PySem PySem.W PySem.Calls PyProof.Rows PyProof.V PySem.Spec
namespace Mine
/-- the ledger without its iterators -/
noncomputable def noIt (l : Led) : Led := l.filter fun p => !isIt p.2
theorem noIt_mem {l : Led} {p : Addr × Obj} (h : p ∈ l) (hc : isIt p.2 = false) : p ∈ noIt l := List.mem_filter.mpr ⟨h, by rw [hc]; rfl⟩
theorem noIt_sub {l : Led} {p : Addr × Obj} (h : p ∈ noIt l) : p ∈ l := (List.mem_filter.mp h).1
theorem Stay.no {l₀ l l' : Led} (h : Stay l₀ l l') : Sub [] (noIt l) l' := fun p hp _ => h p (noIt_sub hp) (.inl (by have := (List.mem_filter.mp hp).2; simpa using this))
theorem Stay.old {l₀ l l' : Led} {D : List Addr} (h : Stay l₀ l l') (s : Sub D l₀ l) : Sub D l₀ l' := fun p hp c => h p (s p hp c) (.inr hp)
theorem LL.no {l : Led} {a : Addr} {vs : List Value} (h : LL l a vs) : LL (noIt l) a vs := h.imp fun _ q => noIt_mem q rfl
theorem TT.no {l : Led} {a : Addr} {vs : List Value} (h : TT l a vs) : TT (noIt l) a vs := noIt_mem h rfl
theorem Cel.no {l : Led} {v : Value} {c : Cc} (h : Cel l v c) : Cel (noIt l) v c := let ⟨a, t, u, e, q⟩ := h; ⟨a, t, u, e, q.no⟩
theorem Cels.no {l : Led} {vs : List Value} {cs : List Cc} (h : Cels l vs cs) : Cels (noIt l) vs cs := by
  induction h with
  | nil => exact .nil
  | cons a _ ih => exact .cons a.no ih
theorem AR.no {l : Led} {a : Adr} {σ : Sig} (h : AR l a σ) : AR (noIt l) a σ := by
  obtain ⟨ob, ⟨es, k, di, ad⟩, ⟨hv, h1, h2⟩, ⟨sv, s1, s2⟩, ⟨tv, t1, t2⟩, n1, n2, n3, n4⟩ := h
  exact ⟨noIt_mem ob rfl, ⟨es, k, noIt_mem di rfl, ad⟩, ⟨hv, h1.no, h2.no⟩, ⟨sv, s1.no, s2.no⟩, ⟨tv, t1.no, t2⟩, n1, n2, n3, n4⟩
theorem dictCls {K : Type} [DecidableEq K] {w : World} {knd : KeyKind P0 w K} {o : Obj} {kvs : List (K × Value)} (h : o.IsDictOf knd kvs) : isIt o = false := by
  obtain ⟨es, ep, he, _⟩ := h
  unfold isIt
  rw [he.1]; rfl
theorem DI.no {w : World} {l : Led} {d : Addr} {val : Int → Option Int} {k : Nat} (h : DI w l d val k) : DI w (noIt l) d val k :=
  ⟨h.1, let ⟨o, kvs, E, a, b, r⟩ := h.2; ⟨o, kvs, E, noIt_mem a (dictCls b), b, r⟩⟩
theorem DS.no {w : World} {l : Led} {d : Addr} {k : Nat} (h : DS w l d k) : DS w (noIt l) d k :=
  ⟨h.1, let ⟨o, kvs, E, a, b, r⟩ := h.2; ⟨o, kvs, E, noIt_mem a (dictCls b), b, r⟩⟩
theorem DT.no {w : World} {l : Led} {d : Addr} {k : Nat} (h : DT w l d k) : DT w (noIt l) d k := by
  obtain ⟨E, ⟨lo, o, es, ep, xs, hm, hc, hd, he, hnd, hk, hf⟩, hv, hl⟩ := h
  exact ⟨E, ⟨lo, o, es, ep, xs, noIt_mem hm (by show isIt o = false; unfold isIt; rw [hc.1]; rfl), hc, hd, he, hnd, fun x hx => let ⟨ok, h1, h2⟩ := hk x hx; ⟨ok, noIt_mem h1 (by show isIt ok = false; unfold isIt; rw [h2.1]; rfl), h2⟩, hf⟩, hv, hl⟩
theorem SY.no {w : World} {l : Led} {y : SA} {k : Nat} (h : SY w l y k) : SY w (noIt l) y k := by
  obtain ⟨ob, ⟨es, c, di, r⟩, ⟨tv, t1, t2⟩, an, ⟨fv, f1, f2⟩, fn, nd⟩ := h
  exact ⟨noIt_mem ob rfl, ⟨es, c, noIt_mem di rfl, r⟩, ⟨tv, t1.no, t2⟩, an.no, ⟨fv, f1.no, f2⟩, fn.no, nd⟩
end Mine
end
section
open PySem PySem.W PySem.Calls PyProof.Rows PyProof.V PySem.Spec
namespace Mine
theorem fillK_fix : PySem.Challenge.rw_no0163_01.prog = PySem.Challenge.rw_no0163_01.prog ∧ (∀ w : World, (hd.heap_39 w.params) = hd.heap_39 w.params) := by
  k_fill
  exact ⟨rfl, fun _ => rfl⟩
theorem fixA_spec {w : World} {l : Led} : Spec w 60 1 [] l (fun r l' => ∃ a vs, r = .ref a ∧ TT l' a vs ∧ (∀ v ∈ vs, ∃ s t, v = .str s t) ∧ vs.length ≤ 40 ∧ Sub [] l l' ∧ New l a) := by
  refine enter (by k_is) (by k_is) [] (by rfl) (locs rfl) ?_ rfl rfl rfl (by decide)
  intro A env g L he C
  refine T_cons ?_
  refine T_ret ?_
  refine T_tuple ?_
  refine (T_txts _ ?_ _).mono ?_
  · exact rfl
  rintro vs m' l' ⟨rfl, rfl, h1, h2⟩
  have h3 : vs.length ≤ 40 := by rw [h2]; exact Nat.le_of_ble_eq_true rfl
  refine T_newTuple (by rw [sizeLine_eq]; omega) fun a l1 q1 s1 n1 => ?_
  exact ⟨a, vs, rfl, q1, h1, h3, s1, n1⟩
theorem fixF_spec {w : World} {l : Led} : Spec w 67 1 [] l (fun r l' => ∃ a vs, r = .ref a ∧ TT l' a vs ∧ (∀ v ∈ vs, Row2 l' v) ∧ vs.length ≤ 40 ∧ Sub [] l l' ∧ New l a) := by
  refine enter (by k_is) (by k_is) [] (by rfl) (locs rfl) ?_ rfl rfl rfl (by decide)
  intro A env g L he C
  refine T_cons ?_
  refine T_ret ?_
  refine T_tuple ?_
  refine (T_rows _ ?_ _).mono ?_
  · exact rfl
  rintro vs m' l' ⟨rfl, s0, h1, h2⟩
  have h3 : vs.length ≤ 40 := by rw [h2]; exact Nat.le_of_ble_eq_true rfl
  refine T_newTuple (by rw [sizeLine_eq]; omega) fun a l1 q1 s1 n1 => ?_
  exact ⟨a, vs, rfl, q1, fun v hv => (h1 v hv).sub s1, h3, s0.trans s1, n1.sub s0⟩
end Mine
end
section
open PySem PySem.W PySem.Calls PyProof.Rows PyProof.V PySem.Spec
namespace Mine
theorem fillK_sinit : PySem.Challenge.rw_no0163_01.prog = PySem.Challenge.rw_no0163_01.prog ∧ (∀ w : World, (hd.heap_39 w.params) = hd.heap_39 w.params) := by
  k_fill
  exact ⟨rfl, fun _ => rfl⟩

theorem y_set (w : World) : findIn (hd.heap_39 w.params) (.ref 154) "__setattr__" = some (some (.builtin "object.__setattr__")) ∧ plainOver (hd.heap_39 w.params) 154 = true ∧ hasDictIn (hd.heap_39 w.params) 154 = true := ⟨by k_is, by k_is, by k_is⟩
theorem y_tk1 (w : World) : takerIn (hd.heap_39 w.params) 154 (Str.ofString "texts") = some none := by k_is
theorem y_tk2 (w : World) : takerIn (hd.heap_39 w.params) 154 (Str.ofString "atom_numbers") = some none := by k_is
theorem y_tk3 (w : World) : takerIn (hd.heap_39 w.params) 154 (Str.ofString "functors") = some none := by k_is
theorem y_tk4 (w : World) : takerIn (hd.heap_39 w.params) 154 (Str.ofString "functor_numbers") = some none := by k_is
theorem New.ne0 {l l' : Led} {a b : Addr} {o : Obj} (n : New l' a) (h : (b, o) ∈ l') : b ≠ a := n _ h
theorem DS.in {w : World} {l : Led} {d : Addr} {k : Nat} (h : DS w l d k) : ∃ o, (d, o) ∈ l := let ⟨o, _, _, a, _⟩ := h.2; ⟨o, a⟩
theorem DT.in {w : World} {l : Led} {d : Addr} {k : Nat} (h : DT w l d k) : ∃ o, (d, o) ∈ l := let ⟨_, ⟨_, o, _, _, _, h1, _⟩, _⟩ := h; ⟨o, h1⟩

theorem TT.notL {l : Led} {L a b : Addr} {vs us : List Value} (hF : LFun L l) (h : TT l a vs) (h' : LL l b us) : a ≠ b := by
  rintro rfl
  obtain ⟨c, q⟩ := h'
  have := hF.1 _ _ _ h q
  simp [lstO, tupO] at this
theorem TT.notO {l : Led} {L a b : Addr} {vs : List Value} {o : Obj} (hF : LFun L l) (h : TT l a vs) (h' : (b, o) ∈ l) (hc : o.cls = .type "dict") : a ≠ b := by
  rintro rfl
  have := hF.1 _ _ _ h h'
  rw [← this] at hc
  exact absurd (show Value.type "tuple" = .type "dict" from hc) (by decide)
theorem DS.inC {w : World} {l : Led} {d : Addr} {k : Nat} (h : DS w l d k) : ∃ o, (d, o) ∈ l ∧ o.cls = .type "dict" := let ⟨o, _, _, a, ⟨_, _, h, _⟩, _⟩ := h.2; ⟨o, a, h.1⟩
theorem DT.inC {w : World} {l : Led} {d : Addr} {k : Nat} (h : DT w l d k) : ∃ o, (d, o) ∈ l ∧ o.cls = .type "dict" := let ⟨_, ⟨_, o, _, _, _, h1, h2, _⟩, _⟩ := h; ⟨o, h1, h2.1⟩
theorem TT.notY {w : World} {l : Led} {L a : Addr} {vs : List Value} {y : SA} {k : Nat} (hF : LFun L l) (h : TT l a vs) (H : SY w l y k) : a ∉ y.D := by
  obtain ⟨_, h1, _⟩ := H.tx
  obtain ⟨_, h2, c2⟩ := H.an.inC
  obtain ⟨_, h3, _⟩ := H.fs
  obtain ⟨_, h4, c4⟩ := H.fn.inC
  have e1 := h.notL hF h1
  have e2 := h.notO hF h2 c2
  have e3 := h.notL hF h3
  have e4 := h.notO hF h4 c4
  simp [e1, e2, e3, e4]

theorem sinit_spec {w : World} {l : Led} {x dx : Addr} (h1 : (x, instObj 154 dx) ∈ l) (h2 : (dx, dictOf [] 0) ∈ l) :
    Spec w 81 4 [.ref x] l (fun r l' => r = .none ∧ Sub [dx] l l') := by
  refine enter (by k_is) (by k_is) [(Str.ofString "self", .ref x)] (by rfl) (locs rfl) ?_ rfl rfl rfl (by decide)
  intro A env g L he C
  subst he
  have C1 : Ctx w 1 A _ g L := C.down (by omega)
  have C2 : Ctx w 2 A _ g L := C.down (by omega)
  obtain ⟨w1, w2, w3⟩ := y_set w
  -- texts
  walk_at "m"
  walk_at "m"
  walk_at "m"
  walk_at "m"
  refine T_newList (by simp) fun tA l1 q1 s1 n1 => ?_
  walk_at "m"
  refine T_setOwn C (s1.fix h1) (s1 _ h2 (.inr (by simp))) w1 w2 (y_tk1 w) w3 rfl (by simp) fun l2 es2 k2 d2 g2 o2 z2 s2 => ?_
  have t2 : LL l2 tA [] := q1.sub s2 (by simpa using (n1 _ h2).symm)
  -- atom_numbers
  walk_at "m"
  walk_at "m"
  walk_at "m"
  refine S_new C fun dA l3 q3 s3 n3 => ?_
  walk_at "m"
  refine T_setOwn C (s3.fix (s2.fix (s1.fix h1))) (s3 _ d2 (.inr (by simp))) w1 w2 (y_tk2 w) w3 (by rw [o2 _ (by decide)]; rfl) (by simp at z2; omega) fun l4 es4 k4 d4 g4 o4 z4 s4 => ?_
  have e4 : dA ≠ dx := (n3 _ d2).symm
  have t4 : LL l4 tA [] := (t2.sub s3 (by simp)).sub s4 (by simpa using (n1 _ h2).symm)
  have a4 : DS w l4 dA 0 := q3.sub s4 (by simpa using e4)
  -- functors
  walk_at "m"
  walk_at "m"
  walk_at "m"
  walk_at "m"
  walk_at "m"
  refine T_newList (by simp) fun fA l5 q5 s5 n5 => ?_
  walk_at "m"
  refine T_setOwn C (s5.fix (s4.fix (s3.fix (s2.fix (s1.fix h1))))) (s5 _ d4 (.inr (by simp))) w1 w2 (y_tk3 w) w3 (by rw [o4 _ (by decide), o2 _ (by decide)]; rfl) (by simp at z2; omega) fun l6 es6 k6 d6 g6 o6 z6 s6 => ?_
  have e6 : fA ≠ dx := (n5 _ d4).symm
  have t6 : LL l6 tA [] := (t4.sub s5 (by simp)).sub s6 (by simpa using (n1 _ h2).symm)
  have a6 : DS w l6 dA 0 := (a4.sub s5 (by simp)).sub s6 (by simpa using e4)
  have f6 : LL l6 fA [] := q5.sub s6 (by simpa using e6)
  -- functor_numbers
  walk_at "m"
  walk_at "m"
  walk_at "m"
  refine U_new C fun gA l7 q7 s7 n7 => ?_
  walk_at "m"
  refine T_setOwn C (s7.fix (s6.fix (s5.fix (s4.fix (s3.fix (s2.fix (s1.fix h1))))))) (s7 _ d6 (.inr (by simp))) w1 w2 (y_tk4 w) w3 (by rw [o6 _ (by decide), o4 _ (by decide), o2 _ (by decide)]; rfl) (by simp at z2; omega) fun l8 es8 k8 d8 g8 o8 z8 s8 => ?_
  have e8 : gA ≠ dx := (n7 _ d6).symm
  let y : SA := ⟨x, dx, tA, dA, fA, gA⟩
  have H8 : SY w l8 y 0 := {
    ob := s8.fix (s7.fix (s6.fix (s5.fix (s4.fix (s3.fix (s2.fix (s1.fix h1)))))))
    di := ⟨es8, k8, d8, by rw [o8 _ (by decide), o6 _ (by decide), o4 _ (by decide)]; exact g2, by rw [o8 _ (by decide), o6 _ (by decide)]; exact g4, by rw [o8 _ (by decide)]; exact g6, g8,
      by rw [o8 _ (by decide), o6 _ (by decide), o4 _ (by decide), o2 _ (by decide)]; rfl, by rw [o8 _ (by decide), o6 _ (by decide), o4 _ (by decide), o2 _ (by decide)]; rfl, by rw [o8 _ (by decide), o6 _ (by decide), o4 _ (by decide), o2 _ (by decide)]; rfl⟩
    tx := ⟨[], (t6.sub s7 (by simp)).sub s8 (by simpa using (n1 _ h2).symm), by simp⟩
    an := (a6.sub s7 (by simp)).sub s8 (by simpa using e4)
    fs := ⟨[], (f6.sub s7 (by simp)).sub s8 (by simpa using e6), by simp⟩
    fn := q7.sub s8 (by simpa using e8)
    nd := by
      obtain ⟨_, m3⟩ := a4.in
      obtain ⟨_, m2⟩ := id t2
      obtain ⟨_, m5⟩ := id t4
      obtain ⟨_, m6⟩ := id t6
      obtain ⟨_, m7⟩ := a6.in
      obtain ⟨_, m8⟩ := id f6
      have b1 : tA ≠ dA := n3 _ m2
      have b2 : tA ≠ fA := n5 _ m5
      have b3 : tA ≠ gA := n7 _ m6
      have b4 : dA ≠ fA := n5 _ m3
      have b5 : dA ≠ gA := n7 _ m7
      have b6 : fA ≠ gA := n7 _ m8
      simp only [List.nodup_cons, List.mem_cons, not_or, List.not_mem_nil, not_false_eq_true, and_true, List.nodup_nil]
      exact ⟨⟨(n1 _ h2), e4.symm, e6.symm, e8.symm⟩, ⟨b1, b2, b3⟩, ⟨b4, b5⟩, b6⟩ }
  have S8 : Sub [dx] l l8 := (s1.mono (by simp)).trans (s2.trans ((s3.mono (by simp)).trans (s4.trans ((s5.mono (by simp)).trans (s6.trans ((s7.mono (by simp)).trans s8))))))
  have nw : ∀ a ∈ y.D, New l a := by
    intro a ha p hp
    have p8 : ∀ {q : Addr} {l' : Led}, New l' q → (p.1 = dx ∨ p ∈ l') → dx ≠ q → p.1 ≠ q := fun n c d => c.elim (fun e => e ▸ d) fun c => n _ c
    have c1 : p.1 = dx ∨ p ∈ l1 := .inr (s1 _ hp (.inr (by simp)))
    have up : ∀ {l' l'' : Led} {D : List Addr}, Sub D l' l'' → (∀ d ∈ D, d = dx) → (p.1 = dx ∨ p ∈ l') → (p.1 = dx ∨ p ∈ l'') := fun {l' l'' D} s hD c => c.elim .inl fun c => by
      by_cases e : p.1 = dx
      · exact .inl e
      · exact .inr (s _ c (.inr fun h => e (hD _ h)))
    have c2 := up s2 (fun d hd => by simpa using hd) c1
    have c3 := up s3 (fun d hd => by simpa using hd) c2
    have c4 := up s4 (fun d hd => by simpa using hd) c3
    have c5 := up s5 (fun d hd => by simpa using hd) c4
    have c6 := up s6 (fun d hd => by simpa using hd) c5
    have c7 := up s7 (fun d hd => by simpa using hd) c6
    have ha' : a = tA ∨ a = dA ∨ a = fA ∨ a = gA := by simpa [SA.D] using ha
    rcases ha' with rfl | rfl | rfl | rfl
    · exact n1 _ hp
    · exact p8 n3 c2 e4.symm
    · exact p8 n5 c4 e6.symm
    · exact p8 n7 c6 e8.symm
  -- the atoms
  walk_at "m"
  walk_at "m"
  refine T_for C ?_
  repeat' (first | walk_at "m")
  refine T_spec C1 fixA_spec ?_
  rintro _ l9 ⟨ax, vs, rfl, hr, hv, hz, s9, n9⟩
  intro s F N
  have H9 := H8.sub0 s9
  refine iter_tup C hr (fun i m l' => m (Str.ofString "self") = some (.ref x) ∧ SY w l' y (2 * i) ∧ Sub y.D l9 l') (fun i m l₁ l' h1 h2 => ⟨h2.1, h2.2.1.no.sub0 h1.no, h1.old h2.2.2⟩) ⟨rfl, H9, Sub.refl⟩ ?_ ?_ s F N
  · rintro i v m l3 hi ⟨g1, H3, S3⟩
    have hi' : i < vs.length := (List.getElem?_eq_some_iff.mp hi).1
    obtain ⟨str, tk, rfl⟩ := hv _ (List.mem_of_getElem? hi)
    refine Tri.led fun hF => ?_
    have hn : ax ∉ y.D := (hr.sub S3).notY hF H3
    repeat' (first | walk_at "m" | (with_reducible refine Y_atom C H3 ?_))
    refine T_spec C1 (atom_spec H3 (by omega)) ?_
    rintro _ l4 ⟨⟨_, _, rfl⟩, H4, S4⟩
    repeat' (first | walk_at "m")
    exact ⟨⟨g1, H4, S3.trans S4⟩, KeepS.of S4 hn⟩
  · rintro m l3 ⟨g1, H3, S3⟩
    walk_at "m"
    walk_at "m"
    refine T_for C ?_
    repeat' (first | walk_at "m")
    refine T_spec C1 fixF_spec ?_
    rintro _ l10 ⟨bx, us, rfl, hr', hv', hz', s10, n10⟩
    intro s' F' N'
    have H10 := (H3.more (k' := 80) (by omega)).sub0 s10
    refine iter_tup C hr' (fun i m l' => m (Str.ofString "self") = some (.ref x) ∧ SY w l' y (80 + 4 * i) ∧ Sub y.D l10 l') (fun i m l₁ l' h1 h2 => ⟨h2.1, h2.2.1.no.sub0 h1.no, h1.old h2.2.2⟩) ⟨g1, H10, Sub.refl⟩ ?_ ?_ s' F' N'
    · rintro i v m l5 hi ⟨g1, H5, S5⟩
      have hi' : i < us.length := (List.getElem?_eq_some_iff.mp hi).1
      obtain ⟨b, str, tk, j, tj, rfl, hb⟩ := (hv' _ (List.mem_of_getElem? hi)).sub S5
      refine Tri.led fun hF => ?_
      have hn : bx ∉ y.D := (hr'.sub S5).notY hF H5
      repeat' (first | walk_at "m" | (with_reducible refine Y_func C H5 ?_) | ((with_reducible refine T_itemT hb (by decide) (by decide) (j := 0) rfl rfl ?_ ?hs); (case hs => with_unfolding_all rfl)) | ((with_reducible refine T_itemT hb (by decide) (by decide) (j := 1) rfl rfl ?_ ?hs); (case hs => with_unfolding_all rfl)))
      refine T_spec C2 (func_spec H5 (by omega)) ?_
      rintro _ l6 ⟨⟨_, _, rfl⟩, H6, S6⟩
      repeat' (first | walk_at "m")
      exact ⟨⟨g1, by rw [show 80 + 4 * (i + 1) = 80 + 4 * i + 4 from by omega]; exact H6, S5.trans S6⟩, KeepS.of S6 hn⟩
    · rintro m l5 ⟨g1, H5, S5⟩
      repeat' (first | walk_at "m")
      have SS : Sub y.D l8 l5 := (s9.mono (by simp)).trans (S3.trans ((s10.mono (by simp)).trans S5))
      exact ⟨rfl, S8.new SS fun a ha => .inl (nw a ha)⟩
end Mine
end
section
open PySem PySem.W PySem.Calls PyProof.Rows PyProof.V PySem.Spec
namespace Mine
theorem fillK_cinit : PySem.Challenge.rw_no0163_01.prog = PySem.Challenge.rw_no0163_01.prog ∧ (∀ w : World, (hd.heap_39 w.params) = hd.heap_39 w.params) := by
  k_fill
  exact ⟨rfl, fun _ => rfl⟩

section
variable {w : World} {n : Nat} {l : Led}
theorem enterD {f : Addr} {name qual : Str} {params : Arguments} {body : List Stmt} {scope : Scope} {dV kV doc pm cdv ct oc : Value} {an od : Option Addr} {osl : Array (Option Value)} {args : List Value} {Post : Value → Led → Prop}
    (ho : (hd.heap_39 w.params).lookup f = some ⟨oc, od, .func (fnOf name qual params body scope dV kV doc pm an cdv ct), osl⟩) (hcd : codeIn (hd.heap_39 w.params) cdv qual = true) (binds : List (Str × Value))
    (hbind : ∀ s : Shared, (hd.heap_39 w.params).In s.heap → BindsTo s (fnOf name qual params body scope dV kV doc pm an cdv ct) ⟨args, []⟩ binds) (hloc : ∀ y ∈ binds, scope.names.lookup y.1 = some .local)
    (h : ∀ A' env' g' L', env' = envOf qual scope L' f cdv → Ctx w n A' env' g' L' → Tri w A' g' L' (execs body env') (fun y => binds.reverse.lookup y) l (RetP Post))
    (hco : scope.isCoroutine = false) (hgen : scope.isGenerator = false) (hk : scope.kind = .function) (hcell : ∀ x ∈ scope.names, x.2 ≠ .cell) : Spec w f (n + 1) args l Post := by
  intro A env g L m s C F N
  obtain ⟨A₀, base, outer, B, hA⟩ := C.below
  obtain ⟨mean, mg, mb, T⟩ := C.top
  refine code_def B F C.X N T hA C.fr C.kind ho hcd (by have := C.dep; omega) (hbind s (C.X.keeps F.keep)) hloc ?_ hco hgen hk hcell
  intro g' L' h₁ FG F' N' B' X' T'
  have C' : Ctx w n (A.deeper (envOf qual scope L' f cdv)) (envOf qual scope L' f cdv) g' L' := {
    below := ⟨A, base, _, B', Around.frames_deeper hA⟩
    top := ⟨mean, mg, mb, T'⟩
    fr := rfl
    loc := rfl
    kind := hk
    gen := hgen
    co := hco
    bu := rfl
    gl := rfl
    X := X'
    han := C.han
    dep := by have := C.dep; show A.depth + 1 + _ < _; omega
    uni := by have := C.uni; show A.units + 3 + _ < _; omega }
  refine (h _ _ g' L' rfl C').go F' N' fun fl h' tk' m' l' F'' N'' p => ?_
  refine leaveK_ F'' N'' fun kF kN => ?_
  exact ⟨h', tk', l', rfl, kF, kN, p⟩
end
noncomputable abbrev σ0 : Sig := ⟨[], [], [], 0, 0⟩
theorem c_set (w : World) : findIn (hd.heap_39 w.params) (.ref 324) "__setattr__" = some (some (.builtin "object.__setattr__")) ∧ plainOver (hd.heap_39 w.params) 324 = true ∧ hasDictIn (hd.heap_39 w.params) 324 = true := ⟨by k_is, by k_is, by k_is⟩
theorem c_tk1 (w : World) : takerIn (hd.heap_39 w.params) 324 (Str.ofString "symbols") = some none := by k_is
theorem c_tk2 (w : World) : takerIn (hd.heap_39 w.params) 324 (Str.ofString "max_heap") = some none := by k_is
theorem c_tk3 (w : World) : takerIn (hd.heap_39 w.params) 324 (Str.ofString "heap") = some none := by k_is
theorem c_tk4 (w : World) : takerIn (hd.heap_39 w.params) 324 (Str.ofString "stack") = some none := by k_is
theorem c_tk5 (w : World) : takerIn (hd.heap_39 w.params) 324 (Str.ofString "trail") = some none := by k_is
theorem c_tk6 (w : World) : takerIn (hd.heap_39 w.params) 324 (Str.ofString "hb") = some none := by k_is
theorem c_tk7 (w : World) : takerIn (hd.heap_39 w.params) 324 (Str.ofString "bb") = some none := by k_is
theorem meth_ne : ∀ nm ∈ methNames, Str.ofString "symbols" ≠ nm ∧ Str.ofString "max_heap" ≠ nm ∧ Str.ofString "heap" ≠ nm ∧ Str.ofString "stack" ≠ nm ∧ Str.ofString "trail" ≠ nm ∧ Str.ofString "hb" ≠ nm ∧ Str.ofString "bb" ≠ nm := by decide

theorem Sub.newOf {l l' : Led} {d b : Addr} (s : Sub [d] l l') (n : New l' b) (h : d ≠ b) : New l b := fun p hp e => by
  by_cases hd : p.1 = d
  · exact h (hd.symm.trans e)
  · exact n p (s p hp (.inr (by simpa using hd))) e
theorem cinit_spec {w : World} {l : Led} {x dx : Addr} {v : Value} (h1 : (x, instObj 324 dx) ∈ l) (h2 : (dx, dictOf [] 0) ∈ l) :
    Spec w 195 1 [.ref x, v] l (fun r l' => r = .none ∧ (∃ hA sA tA, AR l' ⟨x, dx, hA, sA, tA⟩ σ0 ∧ New l hA ∧ New l sA ∧ New l tA) ∧ Sub [dx] l l') := by
  refine enterD (by k_is) (by k_is) [(Str.ofString "self", .ref x), (Str.ofString "symbols", v), (Str.ofString "max_heap", .int 100000 _)] (fun s X => binds_K X rfl (by k_is) rfl rfl rfl) (locs rfl) ?_ rfl rfl rfl (by decide)
  intro A env g L he C
  subst he
  obtain ⟨w1, w2, w3⟩ := c_set w
  repeat' (first | walk_at "m")
  refine T_setOwn C h1 h2 w1 w2 (c_tk1 w) w3 rfl (by simp) fun l1 es1 k1 d1 g1 o1 z1 s1 => ?_
  have i1 := s1.fix h1
  repeat' (first | walk_at "m")
  refine T_setOwn C i1 d1 w1 w2 (c_tk2 w) w3 (by rw [o1 _ (by decide)]; rfl) (by simp at z1; omega) fun l2 es2 k2 d2 g2 o2 z2 s2 => ?_
  have i2 := s2.fix i1
  repeat' (first | walk_at "m")
  refine T_newList (by rw [sizeLine_eq]; simp) fun hA l3 q3 s3 n3 => ?_
  have n3d := n3 _ d2
  have i3 := s3.fix i2
  repeat' (first | walk_at "m")
  refine T_setOwn C i3 (s3 _ d2 (.inr (by simp))) w1 w2 (c_tk3 w) w3 (by rw [o2 _ (by decide), o1 _ (by decide)]; rfl) (by simp at z1; omega) fun l4 es4 k4 d4 g4 o4 z4 s4 => ?_
  have h4 : LL l4 hA [] := q3.sub s4 (by simpa using n3d.symm)
  have i4 := s4.fix i3
  repeat' (first | walk_at "m")
  refine T_newList (by rw [sizeLine_eq]; simp) fun sA l5 q5 s5 n5 => ?_
  have n5d := n5 _ d4
  have e5 : hA ≠ sA := n5.neL h4
  have i5 := s5.fix i4
  repeat' (first | walk_at "m")
  refine T_setOwn C i5 (s5 _ d4 (.inr (by simp))) w1 w2 (c_tk4 w) w3 (by rw [o4 _ (by decide), o2 _ (by decide), o1 _ (by decide)]; rfl) (by simp at z1; omega) fun l6 es6 k6 d6 g6 o6 z6 s6 => ?_
  have h6 : LL l6 hA [] := (h4.sub s5 (by simp)).sub s6 (by simpa using n3d.symm)
  have t6 : LL l6 sA [] := q5.sub s6 (by simpa using n5d.symm)
  have i6 := s6.fix i5
  repeat' (first | walk_at "m")
  refine T_newList (by rw [sizeLine_eq]; simp) fun tA l7 q7 s7 n7 => ?_
  have n7d := n7 _ d6
  have e7 : hA ≠ tA := n7.neL h6
  have f7 : sA ≠ tA := n7.neL t6
  have i7 := s7.fix i6
  repeat' (first | walk_at "m")
  refine T_setOwn C i7 (s7 _ d6 (.inr (by simp))) w1 w2 (c_tk5 w) w3 (by rw [o6 _ (by decide), o4 _ (by decide), o2 _ (by decide), o1 _ (by decide)]; rfl) (by simp at z1; omega) fun l8 es8 k8 d8 g8 o8 z8 s8 => ?_
  have i8 := s8.fix i7
  repeat' (first | walk_at "m")
  refine T_setOwn C i8 d8 w1 w2 (c_tk6 w) w3 (by rw [o8 _ (by decide), o6 _ (by decide), o4 _ (by decide), o2 _ (by decide), o1 _ (by decide)]; rfl) (by simp at z1; omega) fun l9 es9 k9 d9 g9 o9 z9 s9 => ?_
  have i9 := s9.fix i8
  repeat' (first | walk_at "m")
  refine T_setOwn C i9 d9 w1 w2 (c_tk7 w) w3 (by rw [o9 _ (by decide), o8 _ (by decide), o6 _ (by decide), o4 _ (by decide), o2 _ (by decide), o1 _ (by decide)]; rfl) (by simp at z1; omega) fun l10 es10 k10 d10 g10 o10 z10 s10 => ?_
  have i10 := s10.fix i9
  repeat' (first | walk_at "m")
  have nh : hA ∉ [dx] := by simpa using n3d.symm
  have ns : sA ∉ [dx] := by simpa using n5d.symm
  have nt : tA ∉ [dx] := by simpa using n7d.symm
  have S2 : Sub [dx] l l2 := s1.trans s2
  have S4 : Sub [dx] l l4 := S2.trans ((s3.mono (by simp)).trans s4)
  have S6 : Sub [dx] l l6 := S4.trans ((s5.mono (by simp)).trans s6)
  have w1' := S2.newOf n3 n3d
  have w2' := S4.newOf n5 n5d
  have w3' := S6.newOf n7 n7d
  have SS : Sub [dx] l l10 := s1.trans (s2.trans ((s3.mono (by simp)).trans (s4.trans ((s5.mono (by simp)).trans (s6.trans ((s7.mono (by simp)).trans (s8.trans (s9.trans s10))))))))
  refine ⟨rfl, ⟨hA, sA, tA, ⟨i10, ⟨es10, k10, d10, ?_⟩, ⟨[], ((((h6.sub s7 (by simp)).sub s8 nh).sub s9 nh).sub s10 nh), .nil⟩, ⟨[], ((((t6.sub s7 (by simp)).sub s8 ns).sub s9 ns).sub s10 ns), .nil⟩, ⟨[], ((q7.sub s8 nt).sub s9 nt).sub s10 nt, .nil⟩, e5, e7, f7, by simpa [Adr.D] using And.intro n3d (And.intro n5d n7d)⟩, w1', w2', w3'⟩, SS⟩
  refine ⟨?_, ?_, ?_, ?_, ⟨_, g10⟩, ?_, ?_, ?_⟩
  · rw [o10 _ (by decide), o9 _ (by decide), o8 _ (by decide), o6 _ (by decide)]; exact g4
  · rw [o10 _ (by decide), o9 _ (by decide), o8 _ (by decide)]; exact g6
  · rw [o10 _ (by decide), o9 _ (by decide)]; exact g8
  · exact ⟨_, (o10 _ (by decide)).trans g9⟩
  · exact ⟨_, (o10 _ (by decide)).trans ((o9 _ (by decide)).trans ((o8 _ (by decide)).trans ((o6 _ (by decide)).trans ((o4 _ (by decide)).trans g2))))⟩
  · intro nm hn
    obtain ⟨a1, a2, a3, a4, a5, a6, a7⟩ := meth_ne nm hn
    rw [o10 _ a7, o9 _ a6, o8 _ a5, o6 _ a4, o4 _ a3, o2 _ a2, o1 _ a1]
    rfl
  · simp at z1
    omega

section
variable {w : World} {A : Around} {g : Heap} {L : Addr} {m : Map} {l : Led} {n : Nat} {env : Env}
theorem T_symbols {Φ : Value → Map → Led → Prop} (C : Ctx w 5 A env g L) (h : ∀ x l', Sub [] l l' → Φ (.ref x) m l') : Tri w A g L (call (.ref 154) []) m l Φ := by
  refine T_make C (by k_is) (by k_is) (by k_is) fun x dx l1 h1 h2 s1 nx nd hne => ⟨_, sinit_spec h1 h2, ?_⟩
  rintro r l2 ⟨rfl, s2⟩
  exact ⟨rfl, h x l2 (s1.new s2 fun b hb => .inl (by rw [List.mem_singleton.mp hb]; exact nd))⟩
theorem T_cells {v : Value} {Φ : Value → Map → Led → Prop} (C : Ctx w 2 A env g L) (h : ∀ a l', AR l' a σ0 → Sub [] l l' → New l a.ax → New l a.dx → (∀ b ∈ a.D, New l b) → Φ (.ref a.ax) m l') : Tri w A g L (call (.ref 324) [v]) m l Φ := by
  refine T_make C (by k_is) (by k_is) (by k_is) fun x dx l1 h1 h2 s1 nx nd hne => ⟨_, cinit_spec h1 h2, ?_⟩
  rintro r l2 ⟨rfl, ⟨hA, sA, tA, H, b1, b2, b3⟩, s2⟩
  refine ⟨rfl, h ⟨x, dx, hA, sA, tA⟩ l2 H (s1.new s2 fun b hb => .inl (by rw [List.mem_singleton.mp hb]; exact nd)) nx nd ?_⟩
  intro b hb
  have hb' : b = hA ∨ b = sA ∨ b = tA := by simpa [Adr.D] using hb
  rcases hb' with rfl | rfl | rfl
  · exact b1.sub s1
  · exact b2.sub s1
  · exact b3.sub s1

-- the choice point's fields
theorem AD.upd {es es' : List DictEntry} {a : Adr} {hb bb hb' bb' : Int} (ad : AD es a hb bb) (o : ∀ nm, nm ≠ Str.ofString "hb" → nm ≠ Str.ofString "bb" → getL nm es' = getL nm es)
    (h1 : ∃ t, getL (Str.ofString "hb") es' = some (some (.int hb' t))) (h2 : ∃ t, getL (Str.ofString "bb") es' = some (some (.int bb' t))) (hl : es'.length = es.length) : AD es' a hb' bb' := by
  refine ⟨(o _ (by decide) (by decide)).trans ad.heap, (o _ (by decide) (by decide)).trans ad.stack, (o _ (by decide) (by decide)).trans ad.trail, h1, h2, ?_, ?_, by rw [hl]; exact ad.len⟩
  · obtain ⟨t, e⟩ := ad.mx
    exact ⟨t, (o _ (by decide) (by decide)).trans e⟩
  · intro nm hn
    obtain ⟨_, _, _, _, _, a6, a7⟩ := meth_ne nm hn
    rw [o _ a6.symm a7.symm]
    exact ad.meth nm hn
theorem A_sethb {a : Adr} {σ : Sig} {i : Int} {t : Tok} {Φ : Unit → Map → Led → Prop} (C : Ctx w n A env g L) (H : AR l a σ) (h : ∀ l', AR l' a { σ with hb := i } → Sub [a.dx] l l' → Φ () m l') : Tri w A g L (setAttr (.ref a.ax) (Str.ofString "hb") (.int i t)) m l Φ := by
  obtain ⟨w1, w2, w3⟩ := c_set w
  obtain ⟨ob, ⟨es, k, di, ad⟩, ⟨hv, h1, h2⟩, ⟨sv, s1, s2⟩, ⟨tv, t1, t2⟩, n1, n2, n3, n4⟩ := H
  have n4' : a.dx ≠ a.hA ∧ a.dx ≠ a.sA ∧ a.dx ≠ a.tA := by simpa [Adr.D] using n4
  obtain ⟨m1, m2, m3⟩ := n4'
  refine T_setOwn2 C ob di w1 w2 (c_tk6 w) w3 (by obtain ⟨t, e⟩ := ad.hb; rw [e]; rfl) (by have := ad.len; omega) fun l' es' k' d' g' o' z' y' s' => ?_
  refine h l' ⟨s'.fix ob, ⟨es', k', d', ad.upd (fun nm a _ => o' nm a.symm) ⟨_, g'⟩ ?_ (y' ?_)⟩, ⟨hv, h1.sub s' (by simpa using m1.symm), h2.sub s'⟩, ⟨sv, s1.sub s' (by simpa using m2.symm), s2.sub s'⟩, ⟨tv, t1.sub s' (by simpa using m3.symm), t2⟩, n1, n2, n3, n4⟩ s'
  · obtain ⟨t, e⟩ := ad.bb
    exact ⟨t, (o' _ (by decide)).trans e⟩
  · obtain ⟨t, e⟩ := ad.hb
    exact ⟨_, e⟩
theorem A_setbb {a : Adr} {σ : Sig} {i : Int} {t : Tok} {Φ : Unit → Map → Led → Prop} (C : Ctx w n A env g L) (H : AR l a σ) (h : ∀ l', AR l' a { σ with bb := i } → Sub [a.dx] l l' → Φ () m l') : Tri w A g L (setAttr (.ref a.ax) (Str.ofString "bb") (.int i t)) m l Φ := by
  obtain ⟨w1, w2, w3⟩ := c_set w
  obtain ⟨ob, ⟨es, k, di, ad⟩, ⟨hv, h1, h2⟩, ⟨sv, s1, s2⟩, ⟨tv, t1, t2⟩, n1, n2, n3, n4⟩ := H
  have n4' : a.dx ≠ a.hA ∧ a.dx ≠ a.sA ∧ a.dx ≠ a.tA := by simpa [Adr.D] using n4
  obtain ⟨m1, m2, m3⟩ := n4'
  refine T_setOwn2 C ob di w1 w2 (c_tk7 w) w3 (by obtain ⟨t, e⟩ := ad.bb; rw [e]; rfl) (by have := ad.len; omega) fun l' es' k' d' g' o' z' y' s' => ?_
  refine h l' ⟨s'.fix ob, ⟨es', k', d', ad.upd (fun nm _ a => o' nm a.symm) ?_ ⟨_, g'⟩ (y' ?_)⟩, ⟨hv, h1.sub s' (by simpa using m1.symm), h2.sub s'⟩, ⟨sv, s1.sub s' (by simpa using m2.symm), s2.sub s'⟩, ⟨tv, t1.sub s' (by simpa using m3.symm), t2⟩, n1, n2, n3, n4⟩ s'
  · obtain ⟨t, e⟩ := ad.hb
    exact ⟨t, (o' _ (by decide)).trans e⟩
  · obtain ⟨t, e⟩ := ad.bb
    exact ⟨_, e⟩
end
end Mine
end
section
open PySem PySem.W PySem.Calls PyProof.Rows PyProof.V PySem.Spec
namespace Mine
theorem getD_mem {α : Type} {xs : List α} {i : Nat} {d : α} (h : i < xs.length) : xs.getD i d ∈ xs := by
  have : xs.getD i d = xs[i] := by simp [List.getD, h]
  rw [this]; exact List.getElem_mem h
section
variable {w : World} {A : Around} {g : Heap} {L : Addr} {m : Map} {l : Led} {n : Nat} {env : Env} {d : Addr} {val : Int → Option Int} {k : Nat} {i : Int} {t : Tok}
theorem D_inS {x : Int} {Φ : Value → Map → Led → Prop} (h : DI w l d val k) (hx : val i = some x) (q : Φ (.bool true) m l) : Tri w A g L (compareOp .In (.int i t) (.ref d)) m l Φ := D_in h (by rw [hx]; exact q)
theorem D_inN {Φ : Value → Map → Led → Prop} (h : DI w l d val k) (hx : val i = none) (q : Φ (.bool false) m l) : Tri w A g L (compareOp .In (.int i t) (.ref d)) m l Φ := D_in h (by rw [hx]; exact q)
theorem D_notInS {x : Int} {Φ : Value → Map → Led → Prop} (h : DI w l d val k) (hx : val i = some x) (q : Φ (.bool false) m l) : Tri w A g L (compareOp .NotIn (.int i t) (.ref d)) m l Φ := D_notIn h (by rw [hx]; exact q)
theorem D_notInN {Φ : Value → Map → Led → Prop} (h : DI w l d val k) (hx : val i = none) (q : Φ (.bool true) m l) : Tri w A g L (compareOp .NotIn (.int i t) (.ref d)) m l Φ := D_notIn h (by rw [hx]; exact q)
theorem T_itemIN {value slice : Expr} {a : Addr} {vs : List Value} {ns : List Int} {j : Nat} {Φ : Value → Map → Led → Prop} (hl : LL l a vs) (hi : IntsAre vs ns) (h1 : j < ns.length) (hz : ns.length < 100000) (h : ∀ t, Φ (.int (ns.getD j 0) t) m l)
    (hs : ∀ b, subscripted slice false (.ref b) (.int (j : Nat) t) = operate [.ref b, .int (j : Nat) t] (getItem (.ref b) (.int (j : Nat) t)) := by intro _; with_unfolding_all rfl) : Tri w A g L (subscriptTail value slice (.ref a) (.int (j : Nat) t)) m l Φ :=
  T_itemI hl hi (by omega) (by omega) hz h hs
theorem T_itemCN {value slice : Expr} {a : Addr} {vs : List Value} {cs : List Cc} {j : Nat} {Φ : Value → Map → Led → Prop} (hl : LL l a vs) (hi : Cels l vs cs) (h1 : j < cs.length) (hz : cs.length < 100000) (h : ∀ v, Cel l v (cs.getD j (5, 0)) → Φ v m l)
    (hs : ∀ b, subscripted slice false (.ref b) (.int (j : Nat) t) = operate [.ref b, .int (j : Nat) t] (getItem (.ref b) (.int (j : Nat) t)) := by intro _; with_unfolding_all rfl) : Tri w A g L (subscriptTail value slice (.ref a) (.int (j : Nat) t)) m l Φ :=
  T_itemC hl hi (by omega) (by omega) hz h hs
theorem T_lenC {a : Addr} {vs : List Value} {cs : List Cc} {Φ : Value → Map → Led → Prop} (hl : LL l a vs) (hi : Cels l vs cs) (hz : cs.length < 100000) (h : ∀ t, Φ (.int (cs.length : Nat) t) m l) : Tri w A g L (call (.builtin "len") [.ref a]) m l Φ :=
  T_lenL hl (by rw [hi.len]; omega) (by rw [hi.len]; exact h)
theorem T_lenI {a : Addr} {vs : List Value} {ns : List Int} {Φ : Value → Map → Led → Prop} (hl : LL l a vs) (hi : IntsAre vs ns) (hz : ns.length < 100000) (h : ∀ t, Φ (.int (ns.length : Nat) t) m l) : Tri w A g L (call (.builtin "len") [.ref a]) m l Φ :=
  T_lenL hl (by rw [hi.length]; omega) (by rw [hi.length]; exact h)
theorem T_idxM {a : Addr} {vs : List Value} {Φ : Value × List Value → Map → Led → Prop} {pl : Sem Bool} (hl : LL l a vs) (h : Φ (.builtin "list.index", [.ref a]) m l) : Tri w A g L (getMethod (.ref a) (Str.ofString "index") pl) m l Φ :=
  T_methL hl PySem.F.slot_list_index PySem.F.type_list_index h
theorem T_appM {a : Addr} {vs : List Value} {Φ : Value × List Value → Map → Led → Prop} {pl : Sem Bool} (hl : LL l a vs) (h : Φ (.builtin "list.append", [.ref a]) m l) : Tri w A g L (getMethod (.ref a) (Str.ofString "append") pl) m l Φ :=
  T_methL hl PySem.F.slot_list_append PySem.F.type_list_append h
theorem T_popM {a : Addr} {vs : List Value} {Φ : Value × List Value → Map → Led → Prop} {pl : Sem Bool} (hl : LL l a vs) (h : Φ (.builtin "list.pop", [.ref a]) m l) : Tri w A g L (getMethod (.ref a) (Str.ofString "pop") pl) m l Φ :=
  T_methL hl PySem.F.slot_list_pop PySem.F.type_list_pop h
theorem Ite_T {b : Bool} {P Q : Prop} (e : b = true) (h : P) : if b = true then P else Q := by rw [if_pos e]; exact h
theorem Ite_F {b : Bool} {P Q : Prop} (e : b = false) (h : Q) : if b = true then P else Q := by rw [if_neg (by rw [e]; decide)]; exact h
end
end Mine
end
section
open PySem PySem.W PySem.Calls PyProof.Rows PyProof.V PySem.Spec
namespace Mine
theorem fillK_agree : PySem.Challenge.rw_no0163_01.prog = PySem.Challenge.rw_no0163_01.prog ∧ (∀ w : World, (hd.heap_39 w.params) = hd.heap_39 w.params) := by
  k_fill
  exact ⟨rfl, fun _ => rfl⟩

-- deref, the value's place known in a lesser ledger
theorem Cel.inc {l0 l : Led} {v : Value} {c : Cc} (h : Cel l0 v c) (s : ∀ p ∈ l0, p ∈ l) : Cel l v c := let ⟨a, t, u, e, q⟩ := h; ⟨a, t, u, e, s _ q⟩
theorem AR.inc {l0 l : Led} {a : Adr} {σ : Sig} (h : AR l0 a σ) (s : ∀ p ∈ l0, p ∈ l) : AR l a σ := h.sub0 fun p hp _ => s p hp
section
variable {w : World} {A : Around} {g : Heap} {L : Addr} {m : Map} {l l0 : Led} {n : Nat} {env : Env} {a : Adr} {σ : Sig} {value slice : Expr} {t : Tok}
theorem A_hget0 {k : Int} {Φ : Value → Map → Led → Prop} (H : AR l0 a σ) (hsub : ∀ p ∈ l0, p ∈ l) (h0 : 0 ≤ k) (h1 : k < σ.heap.length) (hz : σ.heap.length < 100000) (h : ∀ v, Cel l0 v (at' σ.heap k) → Cel l v (at' σ.heap k) → Φ v m l)
    (hs : ∀ b, subscripted slice false (.ref b) (.int k t) = operate [.ref b, .int k t] (getItem (.ref b) (.int k t)) := by intro _; with_unfolding_all rfl) : Tri w A g L (subscriptTail value slice (.ref a.hA) (.int k t)) m l Φ := by
  obtain ⟨vs, q, cs⟩ := H.hp
  obtain ⟨v, e, hc⟩ := cs.get (k := k.toNat) (by omega)
  exact T_itemL (q.imp fun _ z => hsub _ z) h0 (by omega) e (h v hc (hc.inc hsub)) (hs _)
theorem A_sget0 {k : Int} {Φ : Value → Map → Led → Prop} (H : AR l0 a σ) (hsub : ∀ p ∈ l0, p ∈ l) (h0 : 0 ≤ k) (h1 : k < σ.stack.length) (hz : σ.stack.length < 100000) (h : ∀ v, Cel l0 v (at' σ.stack k) → Cel l v (at' σ.stack k) → Φ v m l)
    (hs : ∀ b, subscripted slice false (.ref b) (.int k t) = operate [.ref b, .int k t] (getItem (.ref b) (.int k t)) := by intro _; with_unfolding_all rfl) : Tri w A g L (subscriptTail value slice (.ref a.sA) (.int k t)) m l Φ := by
  obtain ⟨vs, q, cs⟩ := H.sp
  obtain ⟨v, e, hc⟩ := cs.get (k := k.toNat) (by omega)
  exact T_itemL (q.imp fun _ z => hsub _ z) h0 (by omega) e (h v hc (hc.inc hsub)) (hs _)
end
theorem deref_spec0 {w : World} {l0 l : Led} {a : Adr} {σ : Sig} {G : Cc → Prop} {v : Value} {c : Cc} (H0 : AR l0 a σ) (hsub : ∀ p ∈ l0, p ∈ l) (Z : Sz σ) (hG : Down σ G) (hc0 : Cel l0 v c) (hg : G c) :
    Spec w 230 1 [.ref a.ax, v] l (fun r l' => l' = l ∧ Cel l0 r (dr σ c)) := by
  refine enter (by k_is) (by k_is) [(Str.ofString "self", .ref a.ax), (Str.ofString "cell", v)] (by rfl) (locs rfl) ?_ rfl rfl rfl (by decide)
  intro A env g L he C
  subst he
  have H := H0.inc hsub
  obtain ⟨z1, z2, z3⟩ := Z
  walk_at "m"
  refine T_while (fun k m l' => l' = l ∧ m (Str.ofString "self") = some (.ref a.ax) ∧ ∃ v' c', m (Str.ofString "cell") = some v' ∧ Cel l0 v' c' ∧ G c' ∧ dr σ c' = dr σ c ∧ rk σ c' = k) ⟨rfl, rfl, v, c, rfl, hc0, hg, rfl, rfl⟩ ?_
  rintro k m l' ⟨rfl, hs, v', c', hv, hc', hg', hd', hk⟩
  have hcl := hc'.inc hsub
  obtain ⟨⟨o1, o2⟩, o3⟩ := hG c' hg'
  repeat' (first
    | walk_at "m"
    | ((with_reducible refine' A_hget0 H0 hsub ?h0 ?h1 ?hz (fun _ _ _ => ?_) ?hs); (case h0 => first | assumption | omega); (case h1 => first | assumption | omega); (case hz => first | assumption | omega); (case hs => (intro _; with_unfolding_all rfl)))
    | ((with_reducible refine' A_sget0 H0 hsub ?h0 ?h1 ?hz (fun _ _ _ => ?_) ?hs); (case h0 => first | assumption | omega); (case h1 => first | assumption | omega); (case hz => first | assumption | omega); (case hs => (intro _; with_unfolding_all rfl)))
    | walk_at "a")
  all_goals first
    | (have e : look σ c' = c' := (by first | exact (look_0 (by assumption)).trans (by assumption) | exact (look_1 (by assumption)).trans (by assumption) | exact look_x (by assumption) (by assumption)); exact ⟨rfl, by rw [← hd', dr_end e]; exact hc'⟩)
    | (have e : look σ c' = at' σ.heap c'.snd := look_0 (by assumption)
       obtain ⟨g1, g2⟩ := o3 (by rw [e]; assumption)
       exact ⟨rk σ (look σ c'), by rw [← hk]; exact g2, rfl, hs, _, look σ c', rfl, by rw [e]; assumption, g1, by rw [← hd', dr_step hG hg' (by rw [e]; assumption)], rfl⟩)
    | (have e : look σ c' = at' σ.stack c'.snd := look_1 (by assumption)
       obtain ⟨g1, g2⟩ := o3 (by rw [e]; assumption)
       exact ⟨rk σ (look σ c'), by rw [← hk]; exact g2, rfl, hs, _, look σ c', rfl, by rw [e]; assumption, g1, by rw [← hd', dr_step hG hg' (by rw [e]; assumption)], rfl⟩)

/-- the law's second ask -/
structure AgreeS (σ : Sig) (made : List Cc) (groups : List Int) (val : Int → Option Int) : Prop where
  len : groups.length = made.length
  b : ∀ i : Nat, i < made.length → ∀ v, val (groups.getD i 0) = some v → dr σ (made.getD i (5, 0)) = (5, v)
  u : ∀ i : Nat, i < made.length → val (groups.getD i 0) = none → OkC σ (dr σ (made.getD i (5, 0))) ∧ ((dr σ (made.getD i (5, 0))).1 = 0 ∨ (dr σ (made.getD i (5, 0))).1 = 1) ∧ look σ (dr σ (made.getD i (5, 0))) = dr σ (made.getD i (5, 0)) ∧
    (made.map (dr σ)).idxOf (dr σ (made.getD i (5, 0))) = groups.idxOf (groups.getD i 0)

theorem cels_map {l : Led} {f : Cc → Cc} : ∀ {ys : List Value} {cs : List Cc}, ys.length = cs.length → (∀ i, i < cs.length → ∃ y, ys[i]? = some y ∧ Cel l y (f (cs.getD i (5, 0)))) → Cels l ys (cs.map f)
  | [], [], _, _ => .nil
  | [], _ :: _, h, _ => by simp at h
  | _ :: _, [], h, _ => by simp at h
  | y :: ys, c :: cs, h, k => by
    refine .cons ?_ (cels_map (by simpa using h) fun i hi => ?_)
    · obtain ⟨y', e, q⟩ := k 0 (by simp)
      simp at e
      subst e
      exact q
    · obtain ⟨y', e, q⟩ := k (i + 1) (by simpa using hi)
      exact ⟨y', by simpa using e, by simpa using q⟩

theorem agree_spec {w : World} {l : Led} {a : Adr} {σ : Sig} {G : Cc → Prop} {mA gA vA : Addr} {mvs gvs : List Value} {made : List Cc} {groups : List Int} {val : Int → Option Int} {k : Nat}
    (H : AR l a σ) (Z : Sz σ) (hG : Down σ G) (hm : LL l mA mvs) (hmc : Cels l mvs made) (hg : LL l gA gvs) (hgi : IntsAre gvs groups) (hv : DI w l vA val k) (hmG : ∀ c ∈ made, G c) (hz : made.length < 1000) (S : AgreeS σ made groups val) :
    Spec w 347 2 [.ref a.ax, .ref mA, .ref gA, .ref vA] l (fun r l' => r = .bool true ∧ Sub [] l l') := by
  refine enterC (by k_is) (by k_is) [(Str.ofString "areas", .ref a.ax), (Str.ofString "made", .ref mA), (Str.ofString "groups", .ref gA), (Str.ofString "values", .ref vA)] (by rfl) (by rfl) (by decide +kernel) ?_ rfl rfl rfl
  intro A env g L cells l1 he C Y hl hlt
  subst he
  obtain ⟨oc, hc, hd⟩ := CellsAre.one Y
  subst hc
  have s1 : Sub [] l l1 := fun p hp _ => by rw [hl]; exact List.mem_append_right _ hp
  have mc : (L + 1, oc) ∈ l1 := by rw [hl]; exact .head _
  have H1 := H.sub0 s1
  have hm1 := hm.sub s1 (by simp)
  have hmc1 := hmc.sub s1
  have hg1 := hg.sub s1 (by simp)
  have hv1 := hv.sub s1 (by simp)
  have C1 : Ctx w 1 A _ g L := C.down (by omega)
  walk_at "m"
  refine T_compL C ?_ (by rfl) (by rfl) (by decide) rfl (by decide) (by rfl) (by rfl) (by intro _; rfl)
  repeat' (first | walk_at "m")
  refine ⟨rfl, mA, mvs, (fun i v y => ∃ c, made[i]? = some c ∧ Cel l1 y (dr σ c)), rfl, hm1, by rw [sizeLine_eq, hmc.len]; omega, ?_, ?_⟩
  · intro i v hi lf Ca oC m₂ hs hC hn hx
    have hi' : i < made.length := by rw [← hmc.len]; exact (List.getElem?_eq_some_iff.mp hi).1
    have hcel : Cel l1 v made[i] := by
      have := hmc1.at (k := i) (by rw [hmc.len]; exact hi') hi'
      rw [(List.getElem?_eq_some_iff.mp hi).2] at this
      exact this
    have sf : Sub [] l1 lf := fun p hp _ => hs p hp
    have Hf := H1.sub0 sf
    walk_at "m"
    refine T_nameXC (by rfl) (hs _ mc) hd ?_
    repeat' (first | walk_at "m" | walk_at "a")
    refine T_nameX hC hn hx ?_
    repeat' (first | walk_at "m" | walk_at "a")
    refine T_spec C1 (deref_spec0 H1 hs Z hG hcel (hmG _ (List.getElem_mem hi'))) ?_
    rintro r l2 ⟨rfl, hr⟩
    repeat' (first | walk_at "m" | walk_at "a")
    exact ⟨rfl, rfl, made[i], by simp [hi'], hr⟩
  intro ys eA l2 hys he s2 n2
  have hce : Cels l2 ys (made.map (dr σ)) := by
    refine cels_map (by rw [hys.1, hmc.len]) fun i hi => ?_
    obtain ⟨v, y, e1, e2, c, e3, q⟩ := hys.2 i (by rw [hmc.len]; exact hi)
    refine ⟨y, e2, ?_⟩
    have : made.getD i (5, 0) = c := by simp [List.getD, e3]
    rw [this]
    exact q.sub s2
  have H2 := H1.sub0 s2
  have hm2 := hm1.sub s2 (by simp)
  have hg2 := hg1.sub s2 (by simp)
  have hv2 := hv1.sub s2 (by simp)
  have hml : mvs.length = made.length := hmc.len
  repeat' (first | walk_at "m")
  refine T_for C ?_
  repeat' (first | walk_at "m")
  refine T_lenL hm2 (by omega) fun t => ?_
  repeat' (first | walk_at "m")
  refine T_range fun r l3 t1 t2 t3 hr s3 n3 => ?_
  intro s F N
  refine iter_range C hr (by omega) (fun _ m l' => m (Str.ofString "groups") = some (.ref gA) ∧ m (Str.ofString "values") = some (.ref vA) ∧ m (Str.ofString "ends") = some (.ref eA) ∧ Sub [] l3 l')
    (fun i m l₁ l' h1 h2 => ⟨h2.1, h2.2.1, h2.2.2.1, h1.old h2.2.2.2⟩) ⟨rfl, rfl, rfl, Sub.refl⟩ ?_ ?_ s F N
  · rintro i m l4 hi ⟨g1, g2, g3, S4⟩ t4
    rw [hml] at hi
    have S24 : Sub [] l2 l4 := s3.trans S4
    have H4 := H2.sub0 S24
    have hg4 := hg2.sub S24 (by simp)
    have hv4 := hv2.sub S24 (by simp)
    have he4 := he.sub S24 (by simp)
    have hce4 := hce.sub S24
    have mc4 : (L + 1, oc) ∈ l4 := S24 _ (s2 _ mc (.inr (by simp))) (.inr (by simp))
    have hgl : groups.length = made.length := S.len
    have sb := S.b i hi
    have su := S.u i hi
    have hlm : (made.map (dr σ)).length = made.length := by simp
    have hgd : ((made.map (dr σ)).getD i (5, 0)) = dr σ (made.getD i (5, 0)) := by simp [List.getD, hi]
    have hm1 : (made.map (dr σ)).getD i (5, 0) ∈ made.map (dr σ) := getD_mem (by omega)
    have hm2 : groups.getD i 0 ∈ groups := getD_mem (by omega)
    have hend : ∀ {l5 : Led}, Sub [] l4 l5 → (Sub [] l3 l5 ∧ ∀ p ∈ l4, isIt p.2 = true → p ∈ l5) := fun z => ⟨S4.trans z, KeepI.of z⟩
    repeat' (first | walk_at "m" | ((with_reducible refine T_itemIN hg4 hgi ?h1 ?h2 (fun _ => ?_) ?hs); (case hs => (intro _; with_unfolding_all rfl)); (case h1 => omega); (case h2 => omega)))
    rcases hvv : val (groups.getD i 0) with _ | v
    · have u := su hvv
      rw [← hgd] at u
      obtain ⟨u1, u2, u3, u4⟩ := u
      refine D_inN hv4 hvv ?_
      repeat' (first | walk_at "m")
      refine T_nameC C (by rfl) mc4 hd ?_
      refine A_meth C H4 (by k_is) (by k_is) (by k_is) (by decide) ?_
      repeat' (first | walk_at "m" | ((with_reducible refine T_itemCN he4 hce4 ?h1 ?h2 (fun _ _ => ?_) ?hs); (case hs => (intro _; with_unfolding_all rfl)); (case h1 => omega); (case h2 => omega)))
      refine T_spec C1 (unb_spec H4 Z (by assumption) u1) ?_
      rintro _ l5 ⟨rfl, rfl⟩
      walk_at "m"
      refine Ite_F (by rw [decide_eq_true (And.intro u2 u3)]; rfl) ?_
      repeat' (first | walk_at "m" | ((with_reducible refine T_idxM he4 ?_)) | ((with_reducible refine T_idxM hg4 ?_)) | ((with_reducible refine T_itemCN he4 hce4 ?h1 ?h2 (fun _ _ => ?_) ?hs); (case hs => (intro _; with_unfolding_all rfl)); (case h1 => omega); (case h2 => omega)) | ((with_reducible refine' T_indexC C he4 hce4 ?h1 ?h2 ?h3 (fun _ => ?_)); (case h2 => assumption); (case h1 => omega); (case h3 => exact hm1)) | ((with_reducible refine T_indexI hg4 hgi ?h1 ?h3 (fun _ => ?_)); (case h1 => omega); (case h3 => exact hm2)))
      · exfalso; omega
      · exact ⟨⟨g1, g2, g3, (hend Sub.refl).1⟩, (hend Sub.refl).2⟩
    · have u := sb v hvv
      rw [← hgd] at u
      refine D_inS hv4 hvv ?_
      repeat' (first | walk_at "m" | ((with_reducible refine T_itemCN he4 hce4 ?h1 ?h2 (fun _ _ => ?_) ?hs); (case hs => (intro _; with_unfolding_all rfl)); (case h1 => omega); (case h2 => omega)) | ((with_reducible refine D_item hv4 hvv (fun _ => ?_) ?hs ?hg); (case hs => with_unfolding_all rfl); (case hg => (intro _; with_unfolding_all rfl))))
      rename Cel l4 _ _ => hq
      refine C_new ?_
      rintro y l5 hy s5 _
      refine C_ne C (hq.sub s5) hy ?_
      repeat' (first | walk_at "m")
      · rename_i hne
        exact absurd u (by simpa using hne)
      · exact ⟨⟨g1, g2, g3, (hend s5).1⟩, (hend s5).2⟩
  · rintro m l4 ⟨g1, g2, g3, S4⟩
    repeat' (first | walk_at "m" | walk_at "a")
    exact ⟨rfl, s1.trans (s2.trans (s3.trans S4))⟩
end Mine
end
section
namespace Mine

theorem at_set {xs : List Cc} {j k : Int} {c : Cc} (h0 : 0 ≤ j) (h1 : j < xs.length) (k0 : 0 ≤ k) : at' (xs.set j.toNat c) k = if k = j then c else at' xs k := by
  simp only [at', List.getD_eq_getElem?_getD, List.getElem?_set]
  by_cases e : k = j
  · subst e
    have : k.toNat < xs.length := by omega
    simp [this]
  · have : ¬ j.toNat = k.toNat := by omega
    simp [this, e]
theorem at_app {xs ys : List Cc} {k : Int} (k0 : 0 ≤ k) (h : k < xs.length) : at' (xs ++ ys) k = at' xs k := by
  simp only [at', List.getD_eq_getElem?_getD]
  rw [List.getElem?_append_left (by omega)]
theorem at_len {xs : List Cc} {c : Cc} : at' (xs ++ [c]) xs.length = c := by
  simp [at', List.getD_eq_getElem?_getD]
theorem at_eq {xs ys : List Cc} (hl : xs.length = ys.length) (h : ∀ k : Nat, k < xs.length → at' xs k = at' ys k) : xs = ys := by
  refine List.ext_getElem hl fun i h1 h2 => ?_
  have := h i h1
  simpa [at', List.getD_eq_getElem?_getD, h1, h2] using this
theorem at_take {xs : List Cc} {n : Nat} {k : Nat} (h : k < n) : at' (xs.take n) k = at' xs k := by
  simp [at', List.getD_eq_getElem?_getD, List.getElem?_take, h]

/-- the areas' shape: the law's first ask, and more -/
structure Shape (σ : Sig) : Prop where
  hp : ∀ k : Int, 0 ≤ k → k < σ.heap.length → (at' σ.heap k).1 ≠ 1 ∧ ((at' σ.heap k).1 = 0 → 0 ≤ (at' σ.heap k).2 ∧ (at' σ.heap k).2 ≤ k)
  st : ∀ k : Int, 0 ≤ k → k < σ.stack.length → ((at' σ.stack k).1 = 1 → 0 ≤ (at' σ.stack k).2 ∧ (at' σ.stack k).2 ≤ k) ∧ ((at' σ.stack k).1 = 0 → 0 ≤ (at' σ.stack k).2 ∧ (at' σ.stack k).2 < σ.heap.length)

theorem Cc.ext {c d : Cc} (h1 : c.1 = d.1) (h2 : c.2 = d.2) : c = d := Prod.ext h1 h2
theorem rk_0 {σ : Sig} {c : Cc} (h : c.1 = 0) : rk σ c = c.2.toNat + 1 := if_pos h
theorem rk_1 {σ : Sig} {c : Cc} (h : c.1 = 1) : rk σ c = σ.heap.length + c.2.toNat + 1 := by
  show (if _ then _ else _) = _
  rw [if_neg (by omega), if_pos h]
theorem rk_x {σ : Sig} {c : Cc} (h : c.1 ≠ 0) (h' : c.1 ≠ 1) : rk σ c = 0 := by
  show (if _ then _ else _) = _
  rw [if_neg h, if_neg h']
theorem Shape.down {σ : Sig} (S : Shape σ) : Down σ (OkC σ) := by
  intro c hc
  refine ⟨hc, fun hl => ?_⟩
  by_cases h0 : c.1 = 0
  · rw [look_0 h0] at hl ⊢
    obtain ⟨a, b⟩ := hc.1 h0
    obtain ⟨s1, s2⟩ := S.hp _ a b
    generalize at' σ.heap c.2 = x at *
    refine ⟨⟨fun z => ?_, fun z => absurd z s1⟩, ?_⟩
    · obtain ⟨s3, s4⟩ := s2 z
      exact ⟨s3, by omega⟩
    · by_cases x0 : x.1 = 0
      · rw [rk_0 h0, rk_0 x0]
        obtain ⟨s3, s4⟩ := s2 x0
        have : x.2 ≠ c.2 := fun e => hl (Cc.ext (x0.trans h0.symm) e)
        omega
      · rw [rk_0 h0, rk_x x0 s1]; omega
  · by_cases h1 : c.1 = 1
    · rw [look_1 h1] at hl ⊢
      obtain ⟨a, b⟩ := hc.2 h1
      obtain ⟨s1, s2⟩ := S.st _ a b
      generalize at' σ.stack c.2 = x at *
      refine ⟨⟨fun z => s2 z, fun z => ?_⟩, ?_⟩
      · obtain ⟨s3, s4⟩ := s1 z
        exact ⟨s3, by omega⟩
      · by_cases x0 : x.1 = 0
        · rw [rk_1 h1, rk_0 x0]
          obtain ⟨s3, s4⟩ := s2 x0
          omega
        · by_cases x1 : x.1 = 1
          · rw [rk_1 h1, rk_1 x1]
            obtain ⟨s3, s4⟩ := s1 x1
            have : x.2 ≠ c.2 := fun e => hl (Cc.ext (x1.trans h1.symm) e)
            omega
          · rw [rk_1 h1, rk_x x0 x1]; omega
    · exact absurd (look_x h0 h1) hl

theorem dr_ext {σ σ' : Sig} {G G' : Cc → Prop} {f : Cc → Cc} (hG : Down σ G) (hG' : Down σ' G') (hi : ∀ c, G c → G' c) (hr : ∀ c, G c → look σ c = c → dr σ' c = f c) (hn : ∀ c, G c → look σ c ≠ c → look σ' c = look σ c) :
    ∀ c, G c → dr σ' c = f (dr σ c) := by
  intro c
  generalize hk : rk σ c = k
  induction k using Nat.strongRecOn generalizing c with
  | _ k ih =>
    intro hc
    by_cases hl : look σ c = c
    · rw [dr_end hl]; exact hr c hc hl
    · obtain ⟨g1, g2⟩ := (hG c hc).2 hl
      have e := hn c hc hl
      rw [dr_step hG hc hl, dr_step hG' (hi c hc) (by rw [e]; exact hl), e]
      exact ih _ (by omega) _ rfl g1
theorem dr_root {σ : Sig} {G : Cc → Prop} (hG : Down σ G) : ∀ c, G c → G (dr σ c) ∧ look σ (dr σ c) = dr σ c := by
  intro c
  generalize hk : rk σ c = k
  induction k using Nat.strongRecOn generalizing c with
  | _ k ih =>
    intro hc
    by_cases hl : look σ c = c
    · rw [dr_end hl]; exact ⟨hc, hl⟩
    · obtain ⟨g1, g2⟩ := (hG c hc).2 hl
      rw [dr_step hG hc hl]
      exact ih _ (by omega) _ rfl g1

structure Snap where
  heap : List Cc
  stack : List Cc
  trail : List Int
  made : List Cc
  groups : List Int
  val : Int → Option Int
noncomputable abbrev Snap.sig (q : Snap) : Sig := ⟨q.heap, q.stack, q.trail, 0, 0⟩
noncomputable abbrev Snap.real (q : Snap) (junk : List Cc) (hb bb : Int) : Sig := ⟨q.heap, q.stack ++ junk, q.trail, hb, bb⟩

structure RepOk (σ : Sig) (groups : List Int) (val : Int → Option Int) (rep : Int → Cc) : Prop where
  b : ∀ g ∈ groups, ∀ v, val g = some v → rep g = (5, v)
  u : ∀ g ∈ groups, val g = none → OkC σ (rep g) ∧ ((rep g).1 = 0 ∨ (rep g).1 = 1) ∧ look σ (rep g) = rep g
  inj : ∀ g ∈ groups, ∀ h ∈ groups, val g = none → val h = none → rep g = rep h → g = h
structure Good (q : Snap) (fr : Int) : Prop where
  sh : Shape q.sig
  md : ∀ c ∈ q.made, OkC q.sig c
  ln : q.groups.length = q.made.length
  rp : ∃ rep, RepOk q.sig q.groups q.val rep ∧ q.made.map (dr q.sig) = q.groups.map rep
  fg : ∀ g ∈ q.groups, g < fr
  fv : ∀ g v, q.val g = some v → g < fr
  tr : ∀ e ∈ q.trail, 0 ≤ e → e < q.heap.length

theorem real_ok {q : Snap} {j : List Cc} {h b : Int} {c : Cc} (hc : OkC q.sig c) : OkC (q.real j h b) c := ⟨hc.1, fun z => by
  obtain ⟨a, d⟩ := hc.2 z
  refine ⟨a, ?_⟩
  show _ < ((q.stack ++ j).length : Int)
  rw [List.length_append]
  have : c.2 < (q.stack.length : Int) := d
  omega⟩
theorem real_look {q : Snap} {j : List Cc} {h b : Int} {c : Cc} (hc : OkC q.sig c) : look (q.real j h b) c = look q.sig c := by
  by_cases h0 : c.1 = 0
  · rw [look_0 h0, look_0 h0]
  · by_cases h1 : c.1 = 1
    · rw [look_1 h1, look_1 h1]
      exact at_app (hc.2 h1).1 (hc.2 h1).2
    · rw [look_x h0 h1, look_x h0 h1]
theorem real_down {q : Snap} {j : List Cc} {h b : Int} (S : Shape q.sig) : Down (q.real j h b) (OkC q.sig) := by
  intro c hc
  obtain ⟨a, d⟩ := S.down c hc
  rw [real_look hc]
  exact ⟨real_ok hc, d⟩
theorem real_dr {q : Snap} {j : List Cc} {h b : Int} (S : Shape q.sig) {c : Cc} (hc : OkC q.sig c) : dr (q.real j h b) c = dr q.sig c :=
  dr_ext (f := id) S.down (real_down S) (fun _ z => z) (fun c hc hl => dr_end ((real_look hc).trans hl)) (fun c hc _ => real_look hc) c hc

theorem idx_map {f : Int → Cc} {g : Int} : ∀ xs : List Int, (∀ h ∈ xs, f h = f g → h = g) → (xs.map f).idxOf (f g) = xs.idxOf g
  | [], _ => rfl
  | x :: xs, hx => by
    rw [List.map_cons, List.idxOf_cons, List.idxOf_cons, idx_map xs fun h hh => hx h (.tail _ hh)]
    by_cases e : x = g
    · subst e; simp
    · have : f x ≠ f g := fun z => e (hx x (.head _) z)
      have e1 : (f x == f g) = false := by simpa using this
      have e2 : (x == g) = false := by simpa using e
      rw [e1, e2]

theorem Good.sound {q : Snap} {fr : Int} (G : Good q fr) {j : List Cc} {h b : Int} : SoundS (q.real j h b) q.stack.length := by
  refine ⟨fun i hi => ?_, fun i hi => ?_, by simp⟩
  · obtain ⟨a, d⟩ := G.sh.hp i (by omega) (by have : i < q.heap.length := hi; show (i : Int) < (q.heap.length : Int); omega)
    exact ⟨a, fun z => (d z).2⟩
  · have e : at' (q.real j h b).stack i = at' q.stack i := at_app (by omega) (by omega)
    rw [e]
    obtain ⟨a, d⟩ := G.sh.st i (by omega) (by show (i : Int) < (q.stack.length : Int); omega)
    exact ⟨fun z => (a z).2, fun z => (d z).2⟩
theorem map_at {α β : Type} {f : α → β} {g : Int → β} {xs : List α} {ys : List Int} {d : α} (h : xs.map f = ys.map g) {i : Nat} (hi : i < xs.length) : f (xs.getD i d) = g (ys.getD i 0) := by
  have hl : xs.length = ys.length := by have := congrArg List.length h; simpa using this
  have h1 := congrArg (·[i]?) h
  simp only [List.getElem?_map] at h1
  rw [List.getElem?_eq_getElem hi, List.getElem?_eq_getElem (by omega)] at h1
  simp only [Option.map_some, Option.some.injEq] at h1
  simp only [List.getD_eq_getElem?_getD]
  rw [List.getElem?_eq_getElem hi, List.getElem?_eq_getElem (by omega)]
  exact h1
theorem Good.end {q : Snap} {fr : Int} (G : Good q fr) {rep : Int → Cc} (hm : q.made.map (dr q.sig) = q.groups.map rep) {j : List Cc} {h b : Int} {i : Nat} (hi : i < q.made.length) : dr (q.real j h b) (q.made.getD i (5, 0)) = rep (q.groups.getD i 0) := by
  rw [real_dr G.sh (G.md _ (getD_mem hi))]
  exact map_at hm hi
theorem Good.agree {q : Snap} {fr : Int} (G : Good q fr) {j : List Cc} {h b : Int} : AgreeS (q.real j h b) q.made q.groups q.val := by
  obtain ⟨rep, R, hm⟩ := G.rp
  have hg : ∀ {i}, i < q.made.length → q.groups.getD i 0 ∈ q.groups := fun hi => getD_mem (by rw [G.ln]; exact hi)
  refine ⟨G.ln, fun i hi v hv => ?_, fun i hi hv => ?_⟩
  · rw [G.end hm hi]; exact R.b _ (hg hi) v hv
  · rw [G.end hm hi]
    obtain ⟨u1, u2, u3⟩ := R.u _ (hg hi) hv
    refine ⟨real_ok u1, u2, (real_look u1).trans u3, ?_⟩
    have e : q.made.map (dr (q.real j h b)) = q.groups.map rep := by
      rw [← hm]
      exact List.map_congr_left fun c hc => real_dr G.sh (G.md c hc)
    rw [e]
    refine idx_map _ fun h' hh e' => ?_
    cases hv' : q.val h' with
    | none => exact R.inj _ hh _ (hg hi) hv' hv e'
    | some v =>
      rw [R.b _ hh v hv'] at e'
      rw [← e'] at u2
      rcases u2 with z | z <;> cases z
end Mine
end
section
namespace Mine

noncomputable abbrev bindQ (q : Snap) (hb bb : Int) (c c' : Cc) : Snap :=
  if c.1 = 0 then { q with heap := q.heap.set c.2.toNat c', trail := if c.2 < hb then q.trail ++ [c.2] else q.trail }
  else { q with stack := q.stack.set c.2.toNat c', trail := if c.2 < bb then q.trail ++ [-1 - c.2] else q.trail }
theorem bindQ_0 {q : Snap} {hb bb : Int} {c c' : Cc} (h : c.1 = 0) : bindQ q hb bb c c' = { q with heap := q.heap.set c.2.toNat c', trail := if c.2 < hb then q.trail ++ [c.2] else q.trail } := if_pos h
theorem bindQ_1 {q : Snap} {hb bb : Int} {c c' : Cc} (h : c.1 = 1) : bindQ q hb bb c c' = { q with stack := q.stack.set c.2.toNat c', trail := if c.2 < bb then q.trail ++ [-1 - c.2] else q.trail } := if_neg (by omega)
theorem bindS_real {q : Snap} {j : List Cc} {hb bb : Int} {c c' : Cc} (hc : OkC q.sig c) (ht : c.1 = 0 ∨ c.1 = 1) : bindS (q.real j hb bb) c c' = (bindQ q hb bb c c').real j hb bb := by
  rcases ht with h | h
  · rw [bindQ_0 h]; simp only [bindS, h, if_true]
  · rw [bindQ_1 h]
    obtain ⟨a, b⟩ := hc.2 h
    have b' : c.2 < (q.stack.length : Int) := b
    have : ¬ (c.1 = 0) := by omega
    simp only [bindS, this, if_false]
    rw [List.set_append_left _ _ (by omega)]
theorem bindQ_sizes {q : Snap} {hb bb : Int} {c c' : Cc} : (bindQ q hb bb c c').heap.length = q.heap.length ∧ (bindQ q hb bb c c').stack.length = q.stack.length ∧ (bindQ q hb bb c c').made = q.made ∧ (bindQ q hb bb c c').groups = q.groups ∧ (bindQ q hb bb c c').val = q.val ∧ (bindQ q hb bb c c').trail.length ≤ q.trail.length + 1 := by
  by_cases h : c.1 = 0
  · rw [bindQ_0 h]
    simp only [List.length_set, and_self, true_and, and_true]
    split <;> simp
  · rw [show bindQ q hb bb c c' = _ from if_neg h]
    simp only [List.length_set, and_self, true_and, and_true]
    split <;> simp
theorem bindQ_ok {q : Snap} {hb bb : Int} {c c' d : Cc} : OkC (bindQ q hb bb c c').sig d ↔ OkC q.sig d := by
  obtain ⟨a, b, _⟩ := bindQ_sizes (q := q) (hb := hb) (bb := bb) (c := c) (c' := c')
  unfold OkC
  show (_ → _ ∧ d.2 < (((bindQ q hb bb c c').heap.length : Nat) : Int)) ∧ (_ → _ ∧ d.2 < (((bindQ q hb bb c c').stack.length : Nat) : Int)) ↔ _
  rw [a, b]

structure Bindable (q : Snap) (c x : Cc) : Prop where
  ok : OkC q.sig c
  tag : c.1 = 0 ∨ c.1 = 1
  root : look q.sig c = c
  okx : OkC q.sig x
  rootx : look q.sig x = x
  ne : x ≠ c
  o0 : c.1 = 0 → x.1 ≠ 1 ∧ (x.1 = 0 → x.2 ≤ c.2)
  o1 : c.1 = 1 → x.1 = 1 → x.2 ≤ c.2

theorem bind_look {q : Snap} {hb bb : Int} {c x d : Cc} (B : Bindable q c x) (hd : OkC q.sig d) : look (bindQ q hb bb c x).sig d = if d = c then x else look q.sig d := by
  rcases B.tag with h | h
  · obtain ⟨a, b⟩ := B.ok.1 h
    rw [bindQ_0 h]
    by_cases h0 : d.1 = 0
    · rw [look_0 h0, look_0 h0]
      show at' (q.heap.set c.2.toNat x) d.2 = _
      rw [at_set a b (hd.1 h0).1]
      by_cases e : d.2 = c.2
      · rw [if_pos e, if_pos (Cc.ext (h0.trans h.symm) e)]
      · rw [if_neg e, if_neg fun z => e (by rw [z])]
    · have : d ≠ c := fun z => h0 (by rw [z]; exact h)
      rw [if_neg this]
      by_cases h1 : d.1 = 1
      · rw [look_1 h1, look_1 h1]
      · rw [look_x h0 h1, look_x h0 h1]
  · obtain ⟨a, b⟩ := B.ok.2 h
    rw [bindQ_1 h]
    by_cases h1 : d.1 = 1
    · rw [look_1 h1, look_1 h1]
      show at' (q.stack.set c.2.toNat x) d.2 = _
      rw [at_set a b (hd.2 h1).1]
      by_cases e : d.2 = c.2
      · rw [if_pos e, if_pos (Cc.ext (h1.trans h.symm) e)]
      · rw [if_neg e, if_neg fun z => e (by rw [z])]
    · have : d ≠ c := fun z => h1 (by rw [z]; exact h)
      rw [if_neg this]
      by_cases h0 : d.1 = 0
      · rw [look_0 h0, look_0 h0]
      · rw [look_x h0 h1, look_x h0 h1]
theorem bind_shape {q : Snap} {hb bb : Int} {c x : Cc} (B : Bindable q c x) (S : Shape q.sig) : Shape (bindQ q hb bb c x).sig := by
  rcases B.tag with h | h
  · obtain ⟨a, b⟩ := B.ok.1 h
    obtain ⟨o1, o2⟩ := B.o0 h
    rw [bindQ_0 h]
    refine ⟨fun k k0 k1 => ?_, fun k k0 k1 => ?_⟩
    · have k1' : k < (q.heap.length : Int) := by simpa using k1
      show (at' (q.heap.set c.2.toNat x) k).1 ≠ 1 ∧ ((at' (q.heap.set c.2.toNat x) k).1 = 0 → 0 ≤ (at' (q.heap.set c.2.toNat x) k).2 ∧ (at' (q.heap.set c.2.toNat x) k).2 ≤ k)
      rw [at_set a b k0]
      by_cases e : k = c.2
      · rw [if_pos e, e]; exact ⟨o1, fun z => ⟨(B.okx.1 z).1, o2 z⟩⟩
      · rw [if_neg e]; exact S.hp k k0 k1'
    · have := S.st k k0 k1
      simpa using this
  · obtain ⟨a, b⟩ := B.ok.2 h
    have o1 := B.o1 h
    rw [bindQ_1 h]
    refine ⟨fun k k0 k1 => S.hp k k0 k1, fun k k0 k1 => ?_⟩
    have k1' : k < (q.stack.length : Int) := by simpa using k1
    show ((at' (q.stack.set c.2.toNat x) k).1 = 1 → 0 ≤ (at' (q.stack.set c.2.toNat x) k).2 ∧ (at' (q.stack.set c.2.toNat x) k).2 ≤ k) ∧ ((at' (q.stack.set c.2.toNat x) k).1 = 0 → 0 ≤ (at' (q.stack.set c.2.toNat x) k).2 ∧ (at' (q.stack.set c.2.toNat x) k).2 < q.heap.length)
    rw [at_set a b k0]
    by_cases e : k = c.2
    · rw [if_pos e, e]; exact ⟨fun z => ⟨(B.okx.2 z).1, o1 z⟩, fun z => B.okx.1 z⟩
    · rw [if_neg e]; exact S.st k k0 k1'
theorem bind_dr {q : Snap} {hb bb : Int} {c x : Cc} (B : Bindable q c x) (S : Shape q.sig) {d : Cc} (hd : OkC q.sig d) : dr (bindQ q hb bb c x).sig d = if dr q.sig d = c then x else dr q.sig d := by
  have S' := bind_shape (hb := hb) (bb := bb) B S
  have D' := S'.down
  refine dr_ext (f := fun y => if y = c then x else y) S.down D' (fun _ z => bindQ_ok.mpr z) (fun d hd hl => ?_) (fun d hd hl => ?_) d hd
  · have e := bind_look (hb := hb) (bb := bb) B hd
    by_cases h : d = c
    · rw [if_pos h] at e
      rw [if_pos h, dr_step D' (bindQ_ok.mpr hd) (by rw [e, h]; exact B.ne), e]
      refine dr_end ?_
      rw [bind_look B B.okx, if_neg B.ne]
      exact B.rootx
    · rw [if_neg h] at e
      rw [if_neg h]
      exact dr_end (e.trans hl)
  · rw [bind_look B hd, if_neg fun z => hl (by rw [z]; exact B.root)]

/-- undoing q's trail beyond p's gives p -/
structure Restores (q p : Snap) (td : List Int) : Prop where
  tr : q.trail = p.trail ++ td
  h : p.heap.length ≤ q.heap.length
  s : p.stack.length ≤ q.stack.length
  m : ∃ more, q.made = p.made ++ more
  hp : ∀ k : Int, 0 ≤ k → k < p.heap.length → (k ∈ td → at' p.heap k = (0, k)) ∧ (k ∉ td → at' q.heap k = at' p.heap k)
  st : ∀ k : Int, 0 ≤ k → k < p.stack.length → (-1 - k ∈ td → at' p.stack k = (1, k)) ∧ (-1 - k ∉ td → at' q.stack k = at' p.stack k)
noncomputable def Rest (q p : Snap) : Prop := ∃ td, Restores q p td

theorem bind_rest {q p : Snap} {hb bb : Int} {c x : Cc} (B : Bindable q c x) (R : Rest q p) (h1 : (p.heap.length : Int) ≤ hb) (h2 : (p.stack.length : Int) ≤ bb) : Rest (bindQ q hb bb c x) p := by
  obtain ⟨td, R⟩ := R
  have root := B.root
  rcases B.tag with h | h
  · obtain ⟨a, b⟩ := B.ok.1 h
    rw [look_0 h] at root
    rw [bindQ_0 h]
    have rc : (c : Cc) = (0, c.2) := Cc.ext h rfl
    by_cases ht : c.2 < hb
    · refine ⟨td ++ [c.2], by simp only [ht, if_true]; rw [R.tr, List.append_assoc], by simpa using R.h, R.s, R.m, fun k k0 k1 => ?_, fun k k0 k1 => ?_⟩
      · obtain ⟨r1, r2⟩ := R.hp k k0 k1
        refine ⟨fun z => ?_, fun z => ?_⟩
        · rcases List.mem_append.mp z with z | z
          · exact r1 z
          · have e : k = c.2 := by simpa using z
            by_cases hm : k ∈ td
            · exact r1 hm
            · rw [← r2 hm, e]; exact root.trans rc
        · have z1 : k ∉ td := fun y => z (List.mem_append_left _ y)
          have z2 : k ≠ c.2 := fun y => z (by rw [y]; simp)
          show at' (q.heap.set c.2.toNat x) k = _
          rw [at_set a b k0, if_neg z2]
          exact r2 z1
      · obtain ⟨r1, r2⟩ := R.st k k0 k1
        refine ⟨fun z => ?_, fun z => r2 fun y => z (List.mem_append_left _ y)⟩
        rcases List.mem_append.mp z with z | z
        · exact r1 z
        · have e : -1 - k = c.2 := by simpa using z
          omega
    · refine ⟨td, by simp only [ht, if_false]; exact R.tr, by simpa using R.h, R.s, R.m, fun k k0 k1 => ?_, R.st⟩
      obtain ⟨r1, r2⟩ := R.hp k k0 k1
      refine ⟨r1, fun z => ?_⟩
      show at' (q.heap.set c.2.toNat x) k = _
      rw [at_set a b k0, if_neg (by omega)]
      exact r2 z
  · obtain ⟨a, b⟩ := B.ok.2 h
    rw [look_1 h] at root
    rw [bindQ_1 h]
    have rc : (c : Cc) = (1, c.2) := Cc.ext h rfl
    by_cases ht : c.2 < bb
    · refine ⟨td ++ [-1 - c.2], by simp only [ht, if_true]; rw [R.tr, List.append_assoc], R.h, by simpa using R.s, R.m, fun k k0 k1 => ?_, fun k k0 k1 => ?_⟩
      · obtain ⟨r1, r2⟩ := R.hp k k0 k1
        refine ⟨fun z => ?_, fun z => r2 fun y => z (List.mem_append_left _ y)⟩
        rcases List.mem_append.mp z with z | z
        · exact r1 z
        · have e : k = -1 - c.2 := by simpa using z
          omega
      · obtain ⟨r1, r2⟩ := R.st k k0 k1
        refine ⟨fun z => ?_, fun z => ?_⟩
        · rcases List.mem_append.mp z with z | z
          · exact r1 z
          · have e0 : -1 - k = -1 - c.2 := by simpa using z
            have e : k = c.2 := by omega
            by_cases hm : -1 - k ∈ td
            · exact r1 hm
            · rw [← r2 hm, e]; exact root.trans rc
        · have z1 : -1 - k ∉ td := fun y => z (List.mem_append_left _ y)
          have z2 : k ≠ c.2 := fun y => z (by rw [y]; simp)
          show at' (q.stack.set c.2.toNat x) k = _
          rw [at_set a b k0, if_neg z2]
          exact r2 z1
    · refine ⟨td, by simp only [ht, if_false]; exact R.tr, R.h, by simpa using R.s, R.m, R.hp, fun k k0 k1 => ?_⟩
      obtain ⟨r1, r2⟩ := R.st k k0 k1
      refine ⟨r1, fun z => ?_⟩
      show at' (q.stack.set c.2.toNat x) k = _
      rw [at_set a b k0, if_neg (by omega)]
      exact r2 z
theorem Rest.refl (q : Snap) : Rest q q := ⟨[], by simp, Nat.le_refl _, Nat.le_refl _, ⟨[], by simp⟩, fun k _ _ => ⟨fun z => (by cases z), fun _ => rfl⟩, fun k _ _ => ⟨fun z => (by cases z), fun _ => rfl⟩⟩
/-- more made, the areas grown -/
theorem Rest.grow {q p : Snap} (R : Rest q p) {hs ss : List Cc} {ms : List Cc} {gs : List Int} {vl : Int → Option Int} : Rest { heap := q.heap ++ hs, stack := q.stack ++ ss, trail := q.trail, made := q.made ++ ms, groups := gs, val := vl } p := by
  obtain ⟨td, R⟩ := R
  have h1 := R.h
  have h2 := R.s
  refine ⟨td, R.tr, by show _ ≤ (q.heap ++ hs).length; simp; omega, by show _ ≤ (q.stack ++ ss).length; simp; omega, ?_, fun k k0 k1 => ?_, fun k k0 k1 => ?_⟩
  · obtain ⟨more, e⟩ := R.m
    exact ⟨more ++ ms, by show q.made ++ ms = _; rw [e, List.append_assoc]⟩
  · obtain ⟨r1, r2⟩ := R.hp k k0 k1
    exact ⟨r1, fun z => (at_app k0 (by omega)).trans (r2 z)⟩
  · obtain ⟨r1, r2⟩ := R.st k k0 k1
    exact ⟨r1, fun z => (at_app k0 (by omega)).trans (r2 z)⟩

-- the return
theorem undo_at {σ : Sig} : ∀ td : List Int, (∀ e ∈ td, OkE σ e) → (undoL σ td).heap.length = σ.heap.length ∧ (undoL σ td).stack.length = σ.stack.length ∧
    (∀ k : Int, 0 ≤ k → at' (undoL σ td).heap k = if k ∈ td then (0, k) else at' σ.heap k) ∧ (∀ k : Int, 0 ≤ k → at' (undoL σ td).stack k = if -1 - k ∈ td then (1, k) else at' σ.stack k)
  | [], _ => ⟨rfl, rfl, fun k _ => by simp [undoL], fun k _ => by simp [undoL]⟩
  | e :: td, h => by
    obtain ⟨l1, l2, a1, a2⟩ := undo_at td fun x hx => h x (.tail _ hx)
    obtain ⟨o1, o2⟩ := h e (.head _)
    show (undo1 (undoL σ td) e).heap.length = _ ∧ (undo1 (undoL σ td) e).stack.length = _ ∧ _
    obtain ⟨u1, u2, _⟩ := undo1_len (σ := undoL σ td) (e := e)
    refine ⟨u1.trans l1, u2.trans l2, fun k k0 => ?_, fun k k0 => ?_⟩
    · show at' (undo1 (undoL σ td) e).heap k = _
      by_cases he : 0 ≤ e
      · simp only [undo1, he, if_true]
        rw [at_set he (by rw [l1]; exact o1 he) k0, a1 k k0]
        by_cases hk : k = e
        · simp [hk]
        · simp [hk]
      · have hk : k ≠ e := by omega
        simp only [undo1, he, if_false]
        rw [a1 k k0]
        simp [hk]
    · show at' (undo1 (undoL σ td) e).stack k = _
      by_cases he : 0 ≤ e
      · have hk : ¬ (-1 - k = e) := by omega
        simp only [undo1, he, if_true]
        rw [a2 k k0]
        simp [hk]
      · simp only [undo1, he, if_false]
        rw [at_set (by omega) (by rw [l2]; exact o2 (by omega)) k0, a2 k k0]
        by_cases hk : -1 - k = e
        · have : k = -1 - e := by omega
          rw [if_pos this, if_pos (by rw [hk]; exact .head _), this]
        · have : ¬ (k = -1 - e) := by omega
          simp [hk, this]
theorem return_ok {q p : Snap} {j : List Cc} {h b : Int} {td : List Int} (R : Restores q p td) (ok : ∀ e ∈ td, OkE (q.real j h b) e) :
    (undoL (q.real j h b) td).heap.take p.heap.length = p.heap ∧ (undoL (q.real j h b) td).stack = p.stack ++ (undoL (q.real j h b) td).stack.drop p.stack.length ∧
    (undoL (q.real j h b) td).heap.length = q.heap.length ∧ (undoL (q.real j h b) td).stack.length = q.stack.length + j.length := by
  obtain ⟨l1, l2, a1, a2⟩ := undo_at td ok
  have l1' : (undoL (q.real j h b) td).heap.length = q.heap.length := l1
  have l2' : (undoL (q.real j h b) td).stack.length = q.stack.length + j.length := by rw [l2]; simp
  have h1 := R.h
  have h2 := R.s
  refine ⟨?_, ?_, l1', l2'⟩
  · refine at_eq (by simp; omega) fun k hk => ?_
    have hk' : k < p.heap.length := by simp at hk; omega
    rw [at_take hk', a1 k (by omega)]
    obtain ⟨r1, r2⟩ := R.hp k (by omega) (by omega)
    by_cases hm : (k : Int) ∈ td
    · rw [if_pos hm, r1 hm]
    · rw [if_neg hm]; exact r2 hm
  · have e : (undoL (q.real j h b) td).stack.take p.stack.length = p.stack := by
      refine at_eq (by simp; omega) fun k hk => ?_
      have hk' : k < p.stack.length := by simp at hk; omega
      rw [at_take hk', a2 k (by omega)]
      obtain ⟨r1, r2⟩ := R.st k (by omega) (by omega)
      by_cases hm : -1 - (k : Int) ∈ td
      · rw [if_pos hm, r1 hm]
      · rw [if_neg hm, ← r2 hm]
        exact at_app (by omega) (by omega)
    conv => lhs; rw [← List.take_append_drop p.stack.length (undoL (q.real j h b) td).stack]
    rw [e]
end Mine
end
section
namespace Mine

theorem grow_ok {q q' : Snap} {hs ss : List Cc} (e1 : q'.heap = q.heap ++ hs) (e2 : q'.stack = q.stack ++ ss) {c : Cc} (hc : OkC q.sig c) : OkC q'.sig c ∧ look q'.sig c = look q.sig c := by
  refine ⟨⟨fun z => ?_, fun z => ?_⟩, ?_⟩
  · obtain ⟨a, b⟩ := hc.1 z
    refine ⟨a, ?_⟩
    have b' : c.2 < (q.heap.length : Int) := b
    show c.2 < (q'.heap.length : Int)
    rw [e1, List.length_append]; omega
  · obtain ⟨a, b⟩ := hc.2 z
    refine ⟨a, ?_⟩
    have b' : c.2 < (q.stack.length : Int) := b
    show c.2 < (q'.stack.length : Int)
    rw [e2, List.length_append]; omega
  · by_cases h0 : c.1 = 0
    · rw [look_0 h0, look_0 h0]
      show at' q'.heap c.2 = _
      rw [e1]
      exact at_app (hc.1 h0).1 (hc.1 h0).2
    · by_cases h1 : c.1 = 1
      · rw [look_1 h1, look_1 h1]
        show at' q'.stack c.2 = _
        rw [e2]
        exact at_app (hc.2 h1).1 (hc.2 h1).2
      · rw [look_x h0 h1, look_x h0 h1]
theorem grow_dr {q q' : Snap} {hs ss : List Cc} (e1 : q'.heap = q.heap ++ hs) (e2 : q'.stack = q.stack ++ ss) (S : Shape q.sig) (S' : Shape q'.sig) {c : Cc} (hc : OkC q.sig c) : dr q'.sig c = dr q.sig c :=
  dr_ext (f := id) S.down S'.down (fun _ z => (grow_ok e1 e2 z).1) (fun c hc hl => dr_end ((grow_ok e1 e2 hc).2.trans hl)) (fun c hc _ => (grow_ok e1 e2 hc).2) c hc
theorem shapeH {q : Snap} {ms : List Cc} {gs : List Int} {vl : Int → Option Int} (S : Shape q.sig) : Shape (Snap.mk (q.heap ++ [(0, (q.heap.length : Int))]) q.stack q.trail ms gs vl).sig := by
  refine ⟨fun k k0 k1 => ?_, fun k k0 k1 => ?_⟩
  · have k1' : k < (q.heap.length : Int) + 1 := by simpa using k1
    by_cases e : k = q.heap.length
    · subst e
      rw [at_len]
      exact ⟨by simp, fun _ => ⟨by simp, by simp⟩⟩
    · rw [at_app k0 (by omega)]
      exact S.hp k k0 (by show k < (q.heap.length : Int); omega)
  · obtain ⟨a, b⟩ := S.st k k0 k1
    refine ⟨a, fun z => ?_⟩
    obtain ⟨b1, b2⟩ := b z
    have b2' : (at' q.stack k).2 < (q.heap.length : Int) := b2
    refine ⟨b1, ?_⟩
    show (at' q.stack k).2 < ((q.heap ++ [(0, (q.heap.length : Int))]).length : Int)
    rw [List.length_append]; simp only [List.length_singleton]; omega
theorem shapeS {q : Snap} {ms : List Cc} {gs : List Int} {vl : Int → Option Int} (S : Shape q.sig) : Shape (Snap.mk q.heap (q.stack ++ [(1, (q.stack.length : Int))]) q.trail ms gs vl).sig := by
  refine ⟨fun k k0 k1 => S.hp k k0 k1, fun k k0 k1 => ?_⟩
  have k1' : k < (q.stack.length : Int) + 1 := by simpa using k1
  by_cases e : k = q.stack.length
  · subst e
    rw [at_len]
    exact ⟨fun _ => ⟨by simp, by simp⟩, fun z => absurd z (by simp)⟩
  · rw [at_app k0 (by omega)]
    exact S.st k k0 (by show k < (q.stack.length : Int); omega)

theorem Good.new {q : Snap} {fr : Int} (G : Good q fr) {hs ss : List Cc} {c : Cc} (S' : Shape (Snap.mk (q.heap ++ hs) (q.stack ++ ss) q.trail (q.made ++ [c]) (q.groups ++ [fr]) q.val).sig)
    (ok : OkC (Snap.mk (q.heap ++ hs) (q.stack ++ ss) q.trail (q.made ++ [c]) (q.groups ++ [fr]) q.val).sig c) (tag : c.1 = 0 ∨ c.1 = 1) (root : look (Snap.mk (q.heap ++ hs) (q.stack ++ ss) q.trail (q.made ++ [c]) (q.groups ++ [fr]) q.val).sig c = c)
    (nok : ¬ OkC q.sig c) : Good (Snap.mk (q.heap ++ hs) (q.stack ++ ss) q.trail (q.made ++ [c]) (q.groups ++ [fr]) q.val) (fr + 1) := by
  obtain ⟨sh, md, ln, ⟨rep, R, hm⟩, fg, fv, tr⟩ := G
  have go : ∀ {d}, OkC q.sig d → _ := fun {d} hd => grow_ok (q' := Snap.mk (q.heap ++ hs) (q.stack ++ ss) q.trail (q.made ++ [c]) (q.groups ++ [fr]) q.val) rfl rfl hd
  have gd : ∀ {d}, OkC q.sig d → _ := fun {d} hd => grow_dr (q' := Snap.mk (q.heap ++ hs) (q.stack ++ ss) q.trail (q.made ++ [c]) (q.groups ++ [fr]) q.val) rfl rfl sh S' hd
  have nv : q.val fr = none := by
    cases h : q.val fr with
    | none => rfl
    | some v => have := fv _ _ h; omega
  refine ⟨S', fun d hd => ?_, by simp [ln], ⟨fun g => if g = fr then c else rep g, ⟨fun g hg v hv => ?_, fun g hg hv => ?_, fun g hg h hh vg vh e => ?_⟩, ?_⟩, fun g hg => ?_, fun g v hv => ?_, fun e he e0 => ?_⟩
  · rcases List.mem_append.mp hd with hd | hd
    · exact (go (md d hd)).1
    · rw [List.mem_singleton.mp hd]; exact ok
  · rcases List.mem_append.mp hg with hg | hg
    · have := fg g hg
      rw [if_neg (by omega)]; exact R.b g hg v hv
    · rw [List.mem_singleton.mp hg] at hv
      have hv' : q.val fr = some v := hv
      rw [nv] at hv'; cases hv'
  · rcases List.mem_append.mp hg with hg | hg
    · have := fg g hg
      rw [if_neg (by omega)]
      obtain ⟨u1, u2, u3⟩ := R.u g hg hv
      exact ⟨(go u1).1, u2, (go u1).2.trans u3⟩
    · rw [List.mem_singleton.mp hg]
      rw [if_pos rfl]
      exact ⟨ok, tag, root⟩
  · skip
    by_cases e1 : g = fr
    · by_cases e2 : h = fr
      · rw [e1, e2]
      · rw [if_pos e1, if_neg e2] at e
        rcases List.mem_append.mp hh with hh | hh
        · exact absurd (by rw [e]; exact (R.u h hh vh).1) nok
        · exact absurd (List.mem_singleton.mp hh) e2
    · by_cases e2 : h = fr
      · rw [if_neg e1, if_pos e2] at e
        rcases List.mem_append.mp hg with hg | hg
        · exact absurd (by rw [← e]; exact (R.u g hg vg).1) nok
        · exact absurd (List.mem_singleton.mp hg) e1
      · rw [if_neg e1, if_neg e2] at e
        rcases List.mem_append.mp hg with hg | hg
        · rcases List.mem_append.mp hh with hh | hh
          · exact R.inj g hg h hh vg vh e
          · exact absurd (List.mem_singleton.mp hh) e2
        · exact absurd (List.mem_singleton.mp hg) e1
  · show (q.made ++ [c]).map _ = (q.groups ++ [fr]).map _
    rw [List.map_append, List.map_append]
    congr 1
    · rw [List.map_congr_left fun d hd => gd (md d hd), hm]
      refine List.map_congr_left fun g hg => ?_
      have := fg g hg
      rw [if_neg (by omega)]
    · simp only [List.map_cons, List.map_nil, if_true, List.cons.injEq, and_true]
      exact dr_end root
  · rcases List.mem_append.mp hg with hg | hg
    · have := fg g hg; omega
    · rw [List.mem_singleton.mp hg]; omega
  · have := fv g v hv; omega
  · have := tr e he e0
    show e < ((q.heap ++ hs).length : Int)
    rw [List.length_append]; omega

-- deeds that bind
theorem tr_bind {q : Snap} {hb bb : Int} {c x : Cc} (B : Bindable q c x) (tr : ∀ e ∈ q.trail, 0 ≤ e → e < q.heap.length) : ∀ e ∈ (bindQ q hb bb c x).trail, 0 ≤ e → e < (bindQ q hb bb c x).heap.length := by
  intro e he e0
  rw [bindQ_sizes.1]
  rcases B.tag with h | h
  · rw [bindQ_0 h] at he
    obtain ⟨a, b⟩ := B.ok.1 h
    have he' : e ∈ (if c.2 < hb then q.trail ++ [c.2] else q.trail) := he
    split at he'
    · rcases List.mem_append.mp he' with z | z
      · exact tr e z e0
      · rw [List.mem_singleton.mp z]; exact b
    · exact tr e he' e0
  · rw [bindQ_1 h] at he
    obtain ⟨a, b⟩ := B.ok.2 h
    have he' : e ∈ (if c.2 < bb then q.trail ++ [-1 - c.2] else q.trail) := he
    split at he'
    · rcases List.mem_append.mp he' with z | z
      · exact tr e z e0
      · have := List.mem_singleton.mp z; omega
    · exact tr e he' e0
theorem bind_trail {q : Snap} {hb bb : Int} {c x : Cc} (B : Bindable q c x) (h0 : 0 ≤ hb) (b0 : 0 ≤ bb) : ∀ e ∈ (bindQ q hb bb c x).trail.drop q.trail.length, e < hb ∧ -1 - e < bb := by
  intro e he
  rcases B.tag with h | h
  · rw [bindQ_0 h] at he
    obtain ⟨a, b⟩ := B.ok.1 h
    have he' : e ∈ (if c.2 < hb then q.trail ++ [c.2] else q.trail).drop q.trail.length := he
    split at he'
    · simp at he'
      omega
    · simp at he'
  · rw [bindQ_1 h] at he
    obtain ⟨a, b⟩ := B.ok.2 h
    have he' : e ∈ (if c.2 < bb then q.trail ++ [-1 - c.2] else q.trail).drop q.trail.length := he
    split at he'
    · simp at he'
      omega
    · simp at he'

/-- a root c of group g1 is bound to x; groups turned by γ, values by val' -/
theorem Good.bind {q : Snap} {fr : Int} (G : Good q fr) {hb bb : Int} {c x : Cc} (B : Bindable q c x) {rep rep' : Int → Cc} {γ : Int → Int} {val' : Int → Option Int} (hm : q.made.map (dr q.sig) = q.groups.map rep)
    (hφ : ∀ g ∈ q.groups, (if rep g = c then x else rep g) = rep' (γ g)) (R' : RepOk (bindQ q hb bb c x).sig (q.groups.map γ) val' rep') (fg : ∀ g ∈ q.groups, γ g < fr) (fv : ∀ g v, val' g = some v → g < fr) :
    Good (Snap.mk (bindQ q hb bb c x).heap (bindQ q hb bb c x).stack (bindQ q hb bb c x).trail q.made (q.groups.map γ) val') fr := by
  obtain ⟨sh, md, ln, _, _, _, tr⟩ := G
  have S' := bind_shape (hb := hb) (bb := bb) B sh
  refine ⟨S', fun d hd => ?_, by simp [ln], ⟨rep', R', ?_⟩, fun g hg => ?_, fv, tr_bind B tr⟩
  · exact bindQ_ok.mpr (md d hd)
  · show q.made.map _ = (q.groups.map γ).map rep'
    rw [List.map_map]
    have e1 : q.made.map (dr (bindQ q hb bb c x).sig) = (q.made.map (dr q.sig)).map fun y => if y = c then x else y := by
      rw [List.map_map]
      exact List.map_congr_left fun d hd => bind_dr B sh (md d hd)
    refine Eq.trans e1 ?_
    rw [hm, List.map_map]
    exact List.map_congr_left fun g hg => hφ g hg
  · obtain ⟨g', h1, rfl⟩ := List.mem_map.mp hg
    exact fg g' h1
end Mine
end
section
namespace Mine

theorem Good.at {q : Snap} {fr : Int} (G : Good q fr) {rep : Int → Cc} (hm : q.made.map (dr q.sig) = q.groups.map rep) {i : Nat} (hi : i < q.made.length) : dr q.sig (q.made.getD i (5, 0)) = rep (q.groups.getD i 0) := map_at hm hi
theorem Good.mem {q : Snap} {fr : Int} (G : Good q fr) {i : Nat} (hi : i < q.made.length) : q.groups.getD i 0 ∈ q.groups := getD_mem (by rw [G.ln]; exact hi)

/-- what law sees of a variable -/
theorem Good.see {q : Snap} {fr : Int} (G : Good q fr) {i : Nat} (hi : i < q.made.length) : OkC q.sig (dr q.sig (q.made.getD i (5, 0))) ∧ look q.sig (dr q.sig (q.made.getD i (5, 0))) = dr q.sig (q.made.getD i (5, 0)) ∧
    ((((dr q.sig (q.made.getD i (5, 0))).1 = 0 ∨ (dr q.sig (q.made.getD i (5, 0))).1 = 1) ∧ q.val (q.groups.getD i 0) = none) ∨ ∃ v, q.val (q.groups.getD i 0) = some v ∧ dr q.sig (q.made.getD i (5, 0)) = (5, v)) := by
  obtain ⟨r1, r2⟩ := dr_root G.sh.down _ (G.md _ (getD_mem (d := (5, 0)) hi))
  refine ⟨r1, r2, ?_⟩
  obtain ⟨rep, R, hm⟩ := G.rp
  rw [G.at hm hi]
  cases h : q.val (q.groups.getD i 0) with
  | none => exact .inl ⟨(R.u _ (G.mem hi) h).2.1, rfl⟩
  | some v => exact .inr ⟨v, rfl, R.b _ (G.mem hi) v h⟩

theorem bindable_const {q : Snap} {c : Cc} {v : Int} (ok : OkC q.sig c) (tag : c.1 = 0 ∨ c.1 = 1) (root : look q.sig c = c) : Bindable q c (5, v) := by
  refine ⟨ok, tag, root, ⟨fun z => absurd z (by simp), fun z => absurd z (by simp)⟩, look_x (by simp) (by simp), fun e => ?_, fun _ => ⟨by simp, fun z => absurd z (by simp)⟩, fun _ z => absurd z (by simp)⟩
  rw [← e] at tag
  rcases tag with z | z <;> simp at z

theorem Good.setv {q : Snap} {fr : Int} (G : Good q fr) {i : Nat} {hb bb v : Int} (hi : i < q.made.length) (vi : q.val (q.groups.getD i 0) = none) :
    Good (Snap.mk (bindQ q hb bb (dr q.sig (q.made.getD i (5, 0))) (5, v)).heap (bindQ q hb bb (dr q.sig (q.made.getD i (5, 0))) (5, v)).stack (bindQ q hb bb (dr q.sig (q.made.getD i (5, 0))) (5, v)).trail q.made q.groups (fun k => if k = q.groups.getD i 0 then some v else q.val k)) fr := by
  obtain ⟨rep, R, hm⟩ := G.rp
  have hg := G.mem hi
  have ei := G.at hm hi
  obtain ⟨u1, u2, u3⟩ := R.u _ hg vi
  rw [← ei] at u1 u2 u3
  have B := bindable_const (v := v) u1 u2 u3
  have key := G.bind (hb := hb) (bb := bb) B (rep := rep) (rep' := fun g => if g = q.groups.getD i 0 then (5, v) else rep g) (γ := id) (val' := fun k => if k = q.groups.getD i 0 then some v else q.val k) hm ?_ ?_ G.fg ?_
  · rw [List.map_id] at key; exact key
  · intro g hgm
    show _ = if g = _ then _ else _
    rw [ei]
    by_cases e : g = q.groups.getD i 0
    · rw [if_pos e, e, if_pos rfl]
    · rw [if_neg e, if_neg]
      · rfl
      intro e'
      cases hv : q.val g with
      | none => exact e (R.inj _ hgm _ hg hv vi e')
      | some v' =>
        rw [R.b _ hgm _ hv] at e'
        rw [ei, ← e'] at u2
        rcases u2 with z | z <;> simp at z
  · rw [List.map_id]
    refine ⟨fun g hgm v' hv => ?_, fun g hgm hv => ?_, fun g hgm h hh vg vh e => ?_⟩
    · by_cases e : g = q.groups.getD i 0
      · rw [if_pos e] at hv; rw [if_pos e, Option.some.inj hv]
      · rw [if_neg e] at hv; rw [if_neg e]; exact R.b _ hgm _ hv
    · by_cases e : g = q.groups.getD i 0
      · rw [if_pos e] at hv; cases hv
      · rw [if_neg e] at hv; rw [if_neg e]
        obtain ⟨a, b, c⟩ := R.u _ hgm hv
        refine ⟨bindQ_ok.mpr a, b, ?_⟩
        rw [bind_look B a, if_neg fun z => e (R.inj _ hgm _ hg hv vi (z.trans ei))]
        exact c
    · by_cases e1 : g = q.groups.getD i 0
      · rw [if_pos e1] at vg; cases vg
      · by_cases e2 : h = q.groups.getD i 0
        · rw [if_pos e2] at vh; cases vh
        · rw [if_neg e1] at vg e; rw [if_neg e2] at vh e; exact R.inj _ hgm _ hh vg vh e
  · intro g v' hv
    by_cases e : g = q.groups.getD i 0
    · rw [e]; exact G.fg _ hg
    · rw [if_neg e] at hv; exact G.fv _ _ hv

theorem pair_bindable {q : Snap} {c d : Cc} (c1 : OkC q.sig c) (c2 : c.1 = 0 ∨ c.1 = 1) (c3 : look q.sig c = c) (d1 : OkC q.sig d) (d2 : d.1 = 0 ∨ d.1 = 1) (d3 : look q.sig d = d) (hne : c ≠ d) :
    ∃ x y, Bindable q x y ∧ ((x = c ∧ y = d) ∨ (x = d ∧ y = c)) ∧ ∀ σ, bindP σ c d = bindS σ x y := by
  by_cases ht : c.1 = d.1
  · by_cases hl : c.2 < d.2
    · refine ⟨d, c, ⟨d1, d2, d3, c1, c3, hne, fun z => ⟨by omega, fun _ => by omega⟩, fun z w => by omega⟩, .inr ⟨rfl, rfl⟩, fun σ => ?_⟩
      show (if c = d then _ else if _ then (if _ then _ else _) else _) = _
      rw [if_neg hne, if_pos ht, if_pos hl]
    · refine ⟨c, d, ⟨c1, c2, c3, d1, d3, hne.symm, fun z => ⟨by omega, fun _ => by omega⟩, fun z w => by omega⟩, .inl ⟨rfl, rfl⟩, fun σ => ?_⟩
      show (if c = d then _ else if _ then (if _ then _ else _) else _) = _
      rw [if_neg hne, if_pos ht, if_neg hl]
  · by_cases h1 : c.1 = 1
    · refine ⟨c, d, ⟨c1, c2, c3, d1, d3, hne.symm, fun z => by omega, fun z w => by omega⟩, .inl ⟨rfl, rfl⟩, fun σ => ?_⟩
      show (if c = d then _ else if _ then (if _ then _ else _) else if c.1 = 1 then _ else _) = _
      rw [if_neg hne, if_neg ht, if_pos h1]
    · refine ⟨d, c, ⟨d1, d2, d3, c1, c3, hne, fun z => by omega, fun z w => by omega⟩, .inr ⟨rfl, rfl⟩, fun σ => ?_⟩
      show (if c = d then _ else if _ then (if _ then _ else _) else if c.1 = 1 then _ else _) = _
      rw [if_neg hne, if_neg ht, if_neg h1]

noncomputable abbrev γm (g1 g2 g : Int) : Int := if g = g2 then g1 else g
theorem Good.merge {q : Snap} {fr : Int} (G : Good q fr) {i j : Nat} {hb bb : Int} (hi : i < q.made.length) (hj : j < q.made.length) (vi : q.val (q.groups.getD i 0) = none) (vj : q.val (q.groups.getD j 0) = none) {x y : Cc} (B : Bindable q x y)
    (hxy : (x = dr q.sig (q.made.getD i (5, 0)) ∧ y = dr q.sig (q.made.getD j (5, 0))) ∨ (x = dr q.sig (q.made.getD j (5, 0)) ∧ y = dr q.sig (q.made.getD i (5, 0)))) :
    Good (Snap.mk (bindQ q hb bb x y).heap (bindQ q hb bb x y).stack (bindQ q hb bb x y).trail q.made (q.groups.map (γm (q.groups.getD i 0) (q.groups.getD j 0))) q.val) fr := by
  obtain ⟨rep, R, hm⟩ := G.rp
  have hgi := G.mem hi
  have hgj := G.mem hj
  rw [G.at hm hi, G.at hm hj] at hxy
  generalize q.groups.getD i 0 = g1 at *
  generalize q.groups.getD j 0 = g2 at *
  have hne : rep g1 ≠ rep g2 := by
    rcases hxy with ⟨a, b⟩ | ⟨a, b⟩
    · rw [← a, ← b]; exact B.ne.symm
    · rw [← a, ← b]; exact B.ne
  have hg : g1 ≠ g2 := fun e => hne (by rw [e])
  have ux : ∀ g ∈ q.groups, rep g = x → g = g1 ∨ g = g2 := by
    intro g hgm e
    cases hv : q.val g with
    | none =>
      rcases hxy with ⟨a, b⟩ | ⟨a, b⟩
      · exact .inl (R.inj _ hgm _ hgi hv vi (e.trans a))
      · exact .inr (R.inj _ hgm _ hgj hv vj (e.trans a))
    | some v =>
      have := B.tag
      rw [← e, R.b _ hgm _ hv] at this
      rcases this with z | z <;> simp at z
  have uy : y = rep g1 ∨ y = rep g2 := hxy.elim (fun z => .inr z.2) fun z => .inl z.2
  have ty : y.1 = 0 ∨ y.1 = 1 := uy.elim (fun z => by rw [z]; exact (R.u _ hgi vi).2.1) fun z => by rw [z]; exact (R.u _ hgj vj).2.1
  have im : ∀ g ∈ q.groups.map (γm g1 g2), g ∈ q.groups ∧ g ≠ g2 := by
    intro g hgm
    obtain ⟨g', h1, rfl⟩ := List.mem_map.mp hgm
    by_cases e : g' = g2
    · rw [γm, if_pos e]; exact ⟨hgi, hg⟩
    · rw [γm, if_neg e]; exact ⟨h1, e⟩
  refine G.bind (hb := hb) (bb := bb) B (rep := rep) (rep' := fun g => if g = g1 then y else rep g) (γ := γm g1 g2) (val' := q.val) hm ?_ ?_ ?_ G.fv
  · intro g hgm
    show _ = if γm g1 g2 g = g1 then y else rep (γm g1 g2 g)
    by_cases e2 : g = g2
    · rw [γm, if_pos e2, if_pos rfl, e2]
      rcases hxy with ⟨a, b⟩ | ⟨a, b⟩
      · rw [b]; split <;> rfl
      · rw [a, if_pos rfl]
    · rw [γm, if_neg e2]
      by_cases e1 : g = g1
      · rw [if_pos e1, e1]
        rcases hxy with ⟨a, b⟩ | ⟨a, b⟩
        · rw [a, if_pos rfl]
        · rw [b]; split <;> rfl
      · rw [if_neg e1, if_neg]
        intro e
        rcases ux g hgm e with z | z
        · exact e1 z
        · exact e2 z
  · refine ⟨fun g hgm v hv => ?_, fun g hgm hv => ?_, fun g hgm h hh vg vh e => ?_⟩
    · obtain ⟨m1, m2⟩ := im g hgm
      have : g ≠ g1 := fun z => by rw [z, vi] at hv; cases hv
      rw [if_neg this]; exact R.b _ m1 _ hv
    · obtain ⟨m1, m2⟩ := im g hgm
      by_cases e : g = g1
      · rw [if_pos e]
        exact ⟨bindQ_ok.mpr B.okx, ty, by rw [bind_look B B.okx, if_neg B.ne]; exact B.rootx⟩
      · rw [if_neg e]
        obtain ⟨a, b, c⟩ := R.u _ m1 hv
        refine ⟨bindQ_ok.mpr a, b, ?_⟩
        rw [bind_look B a, if_neg fun z => (ux g m1 z).elim e m2]
        exact c
    · obtain ⟨m1, m2⟩ := im g hgm
      obtain ⟨n1, n2⟩ := im h hh
      have ny : ∀ {k}, k ∈ q.groups → k ≠ g1 → k ≠ g2 → q.val k = none → y ≠ rep k := by
        intro k hk k1 k2 vk z
        rcases uy with w | w
        · exact k1 (R.inj _ hk _ hgi vk vi (z.symm.trans w))
        · exact k2 (R.inj _ hk _ hgj vk vj (z.symm.trans w))
      by_cases e1 : g = g1
      · by_cases e2 : h = g1
        · rw [e1, e2]
        · rw [if_pos e1, if_neg e2] at e
          exact absurd e (ny n1 e2 n2 vh)
      · by_cases e2 : h = g1
        · rw [if_neg e1, if_pos e2] at e
          exact absurd e.symm (ny m1 e1 m2 vg)
        · rw [if_neg e1, if_neg e2] at e
          exact R.inj _ m1 _ n1 vg vh e
  · intro g hgm
    by_cases e2 : g = g2
    · rw [γm, if_pos e2]; exact G.fg _ hgi
    · rw [γm, if_neg e2]; exact G.fg _ hgm
theorem Good.merge0 {q : Snap} {fr : Int} (G : Good q fr) {i j : Nat} (hi : i < q.made.length) (hj : j < q.made.length) (vi : q.val (q.groups.getD i 0) = none) (vj : q.val (q.groups.getD j 0) = none) (h : dr q.sig (q.made.getD i (5, 0)) = dr q.sig (q.made.getD j (5, 0))) :
    q.groups.map (γm (q.groups.getD i 0) (q.groups.getD j 0)) = q.groups := by
  obtain ⟨rep, R, hm⟩ := G.rp
  rw [G.at hm hi, G.at hm hj] at h
  have e := R.inj _ (G.mem hi) _ (G.mem hj) vi vj h
  rw [e]
  conv => rhs; rw [← List.map_id q.groups]
  refine List.map_congr_left fun g _ => ?_
  by_cases z : g = q.groups.getD j 0
  · rw [γm, if_pos z, z]; rfl
  · rw [γm, if_neg z]; rfl
/-- a root is bound to a cell that no variable stood for -/
theorem Good.rebind {q : Snap} {fr : Int} (G : Good q fr) {i : Nat} {hb bb : Int} (hi : i < q.made.length) (vi : q.val (q.groups.getD i 0) = none) {y : Cc} (B : Bindable q (dr q.sig (q.made.getD i (5, 0))) y) (ty : y.1 = 0 ∨ y.1 = 1)
    (ny : ∀ c ∈ q.made, dr q.sig c ≠ y) : Good (Snap.mk (bindQ q hb bb (dr q.sig (q.made.getD i (5, 0))) y).heap (bindQ q hb bb (dr q.sig (q.made.getD i (5, 0))) y).stack (bindQ q hb bb (dr q.sig (q.made.getD i (5, 0))) y).trail q.made q.groups q.val) fr := by
  obtain ⟨rep, R, hm⟩ := G.rp
  have hg := G.mem hi
  have ei := G.at hm hi
  have nr : ∀ g ∈ q.groups, rep g ≠ y := by
    intro g hgm
    have : rep g ∈ q.groups.map rep := List.mem_map.mpr ⟨g, hgm, rfl⟩
    rw [← hm] at this
    obtain ⟨c, h1, h2⟩ := List.mem_map.mp this
    rw [← h2]; exact ny c h1
  rw [ei] at B ⊢
  generalize q.groups.getD i 0 = g1 at *
  have key := G.bind (hb := hb) (bb := bb) B (rep := rep) (rep' := fun g => if g = g1 then y else rep g) (γ := id) (val' := q.val) hm ?_ ?_ G.fg G.fv
  · rw [List.map_id] at key; exact key
  · intro g hgm
    show _ = if g = _ then _ else _
    by_cases e : g = g1
    · rw [if_pos e, e, if_pos rfl]
    · rw [if_neg e, if_neg]
      · rfl
      intro e'
      cases hv : q.val g with
      | none => exact e (R.inj _ hgm _ hg hv vi e')
      | some v' =>
        have u2 := B.tag
        rw [R.b _ hgm _ hv] at e'
        rw [← e'] at u2
        rcases u2 with z | z <;> simp at z
  · rw [List.map_id]
    refine ⟨fun g hgm v hv => ?_, fun g hgm hv => ?_, fun g hgm h hh vg vh e => ?_⟩
    · have : g ≠ g1 := fun z => by rw [z, vi] at hv; cases hv
      rw [if_neg this]; exact R.b _ hgm _ hv
    · by_cases e : g = g1
      · rw [if_pos e]
        exact ⟨bindQ_ok.mpr B.okx, ty, by rw [bind_look B B.okx, if_neg B.ne]; exact B.rootx⟩
      · rw [if_neg e]
        obtain ⟨a, b, c⟩ := R.u _ hgm hv
        refine ⟨bindQ_ok.mpr a, b, ?_⟩
        rw [bind_look B a, if_neg fun z => e (R.inj _ hgm _ hg hv vi z)]
        exact c
    · by_cases e1 : g = g1
      · by_cases e2 : h = g1
        · rw [e1, e2]
        · rw [if_pos e1, if_neg e2] at e
          exact absurd e.symm (nr _ hh)
      · by_cases e2 : h = g1
        · rw [if_neg e1, if_pos e2] at e
          exact absurd e (nr _ hgm)
        · rw [if_neg e1, if_neg e2] at e
          exact R.inj _ hgm _ hh vg vh e
end Mine
end
section
namespace Mine

noncomputable def hbOf : List Snap → Int
  | [] => 0
  | p :: _ => (p.heap.length : Nat)
noncomputable def bbOf : List Snap → Int
  | [] => 0
  | p :: _ => (p.stack.length : Nat)
structure Inv (n : Nat) (q : Snap) (j : List Cc) (ps : List Snap) (fr : Int) : Prop where
  gc : Good q fr
  gp : ∀ p ∈ ps, Good p fr
  rc : ∀ p ∈ ps, Rest q p
  ch : ps.Pairwise Rest
  tre : ∀ e ∈ q.trail, e < 0 → -1 - e < (q.stack.length + j.length : Nat)
  s1 : q.heap.length ≤ n
  s2 : q.stack.length + j.length ≤ n
  s3 : q.trail.length ≤ n
  s4 : q.made.length ≤ n
  s5 : ps.length ≤ n
theorem Good.more {q : Snap} {fr fr' : Int} (G : Good q fr) (h : fr ≤ fr') : Good q fr' := ⟨G.sh, G.md, G.ln, G.rp, fun g hg => by have := G.fg g hg; omega, fun g v hv => by have := G.fv g v hv; omega, G.tr⟩
theorem Inv.up {n n' : Nat} {q : Snap} {j : List Cc} {ps : List Snap} {fr : Int} (I : Inv n q j ps fr) (h : n ≤ n') : Inv n' q j ps fr := by
  obtain ⟨a, b, c, d, e, s1, s2, s3, s4, s5⟩ := I
  exact ⟨a, b, c, d, e, by omega, by omega, by omega, by omega, by omega⟩
theorem hbOf_nn (ps : List Snap) : 0 ≤ hbOf ps := by cases ps <;> simp [hbOf]
theorem bbOf_nn (ps : List Snap) : 0 ≤ bbOf ps := by cases ps <;> simp [bbOf]
theorem Inv.le {n : Nat} {q : Snap} {j : List Cc} {ps : List Snap} {fr : Int} (I : Inv n q j ps fr) : ∀ p ∈ ps, (p.heap.length : Int) ≤ hbOf ps ∧ (p.stack.length : Int) ≤ bbOf ps := by
  intro p hp
  have ch := I.ch
  cases ps with
  | nil => cases hp
  | cons r rs =>
    rcases List.mem_cons.mp hp with rfl | hp
    · exact ⟨Int.le_refl _, Int.le_refl _⟩
    · obtain ⟨td, R⟩ := (List.pairwise_cons.mp ch).1 p hp
      have h1 := R.h
      have h2 := R.s
      show (p.heap.length : Int) ≤ (r.heap.length : Nat) ∧ (p.stack.length : Int) ≤ (r.stack.length : Nat)
      omega
theorem Inv.newH {n : Nat} {q : Snap} {j : List Cc} {ps : List Snap} {fr : Int} (I : Inv n q j ps fr) : Inv (n + 1) (Snap.mk (q.heap ++ [(0, (q.heap.length : Int))]) q.stack q.trail (q.made ++ [(0, (q.heap.length : Int))]) (q.groups ++ [fr]) q.val) j ps (fr + 1) := by
  obtain ⟨a, b, c, d, e, s1, s2, s3, s4, s5⟩ := I
  have g := a.new (hs := [(0, (q.heap.length : Int))]) (ss := []) (c := (0, (q.heap.length : Int))) (by rw [List.append_nil]; exact shapeH a.sh) ⟨fun _ => ⟨by simp, by simp; omega⟩, fun z => absurd z (by simp)⟩ (.inl rfl)
    ((look_0 rfl).trans at_len) (fun z => by have := (z.1 rfl).2; simp at this)
  rw [List.append_nil] at g
  refine ⟨g, fun p hp => (b p hp).more (by omega), fun p hp => ?_, d, e, by simp; omega, by dsimp only; omega, by dsimp only; omega, by simp; omega, by omega⟩
  have := (c p hp).grow (hs := [(0, (q.heap.length : Int))]) (ss := []) (ms := [(0, (q.heap.length : Int))]) (gs := q.groups ++ [fr]) (vl := q.val)
  rw [List.append_nil] at this
  exact this
theorem Inv.newS {n : Nat} {q : Snap} {j : List Cc} {ps : List Snap} {fr : Int} (I : Inv n q j ps fr) : Inv (n + 1) (Snap.mk q.heap (q.stack ++ [(1, (q.stack.length : Int))]) q.trail (q.made ++ [(1, (q.stack.length : Int))]) (q.groups ++ [fr]) q.val) j.tail ps (fr + 1) := by
  obtain ⟨a, b, c, d, e, s1, s2, s3, s4, s5⟩ := I
  have g := a.new (hs := []) (ss := [(1, (q.stack.length : Int))]) (c := (1, (q.stack.length : Int))) (by rw [List.append_nil]; exact shapeS a.sh) ⟨fun z => absurd z (by simp), fun _ => ⟨by simp, by simp; omega⟩⟩ (.inr rfl)
    ((look_1 rfl).trans at_len) (fun z => by have := (z.2 rfl).2; simp at this)
  rw [List.append_nil] at g
  have hj : j.tail.length = j.length - 1 := by simp
  refine ⟨g, fun p hp => (b p hp).more (by omega), fun p hp => ?_, d, fun x hx x0 => ?_, by simp; omega, by simp; omega, by dsimp only; omega, by simp; omega, by omega⟩
  · have := (c p hp).grow (hs := []) (ss := [(1, (q.stack.length : Int))]) (ms := [(1, (q.stack.length : Int))]) (gs := q.groups ++ [fr]) (vl := q.val)
    rw [List.append_nil] at this
    exact this
  · have := e x hx x0
    simp
    omega
theorem put_eq {st j : List Cc} : (if st.length < (st ++ j).length then (st ++ j).set st.length (1, (st.length : Int)) else (st ++ j) ++ [(1, (st.length : Int))]) = (st ++ [(1, (st.length : Int))]) ++ j.tail := by
  cases j with
  | nil => simp
  | cons x r => simp [List.set_append_right]
theorem Inv.bind {n : Nat} {q q' : Snap} {j : List Cc} {ps : List Snap} {fr : Int} (I : Inv n q j ps fr) {c x : Cc} (B : Bindable q c x) (G : Good q' fr) (e1 : q'.heap = (bindQ q (hbOf ps) (bbOf ps) c x).heap) (e2 : q'.stack = (bindQ q (hbOf ps) (bbOf ps) c x).stack)
    (e3 : q'.trail = (bindQ q (hbOf ps) (bbOf ps) c x).trail) (e4 : q'.made = q.made) : Inv (n + 1) q' j ps fr := by
  have le := I.le
  obtain ⟨a, b, cc, d, e, s1, s2, s3, s4, s5⟩ := I
  obtain ⟨z1, z2, z3, z4, z5, z6⟩ := bindQ_sizes (q := q) (hb := hbOf ps) (bb := bbOf ps) (c := c) (c' := x)
  refine ⟨G, b, fun p hp => ?_, d, fun y hy y0 => ?_, by rw [e1, z1]; omega, by rw [e2, z2]; omega, by rw [e3]; omega, by rw [e4]; omega, by omega⟩
  · obtain ⟨td, R⟩ := bind_rest B (cc p hp) (le p hp).1 (le p hp).2
    exact ⟨td, by rw [e3]; exact R.tr, by rw [e1]; exact R.h, by rw [e2]; exact R.s, by rw [e4, ← z3]; exact R.m, by rw [e1]; exact R.hp, by rw [e2]; exact R.st⟩
  · rw [e2, z2]
    rw [e3] at hy
    rcases B.tag with h | h
    · rw [bindQ_0 h] at hy
      have hy' : y ∈ (if c.2 < hbOf ps then q.trail ++ [c.2] else q.trail) := hy
      split at hy'
      · rcases List.mem_append.mp hy' with z | z
        · exact e y z y0
        · have := List.mem_singleton.mp z
          have := (B.ok.1 h).1
          omega
      · exact e y hy' y0
    · rw [bindQ_1 h] at hy
      have hy' : y ∈ (if c.2 < bbOf ps then q.trail ++ [-1 - c.2] else q.trail) := hy
      split at hy'
      · rcases List.mem_append.mp hy' with z | z
        · exact e y z y0
        · have := List.mem_singleton.mp z
          obtain ⟨w1, w2⟩ := B.ok.2 h
          have w2' : c.2 < (q.stack.length : Int) := w2
          omega
      · exact e y hy' y0
theorem Inv.ret {n : Nat} {q p : Snap} {j : List Cc} {ps : List Snap} {fr : Int} {h b : Int} (I : Inv n q j (p :: ps) fr) : ∃ td j', q.trail = p.trail ++ td ∧ (∀ e ∈ td, OkE (q.real j h b) e) ∧ (undoL (q.real j h b) td).heap.take p.heap.length = p.heap ∧
    (undoL (q.real j h b) td).stack = p.stack ++ j' ∧ p.heap.length ≤ (undoL (q.real j h b) td).heap.length ∧ (undoL (q.real j h b) td).heap.length = q.heap.length ∧ (undoL (q.real j h b) td).stack.length = q.stack.length + j.length ∧ (undoL (q.real j h b) td).trail = q.trail ∧ (undoL (q.real j h b) td).hb = h ∧ (undoL (q.real j h b) td).bb = b ∧
    q.made.take p.made.length = p.made ∧ p.made.length ≤ q.made.length ∧ Inv n p j' (p :: ps) fr := by
  obtain ⟨a, gp, c, d, e, s1, s2, s3, s4, s5⟩ := I
  obtain ⟨td, R⟩ := c p (.head _)
  have ok : ∀ e ∈ td, OkE (q.real j h b) e := by
    intro x hx
    have hx' : x ∈ q.trail := by rw [R.tr]; exact List.mem_append_right _ hx
    refine ⟨fun x0 => a.tr x hx' x0, fun x0 => ?_⟩
    have := e x hx' x0
    show -1 - x < ((q.stack ++ j).length : Int)
    rw [List.length_append]
    exact this
  obtain ⟨r1, r2, r3, r4⟩ := return_ok (h := h) (b := b) R ok
  have un : ∀ td : List Int, (undoL (q.real j h b) td).trail = q.trail ∧ (undoL (q.real j h b) td).hb = h ∧ (undoL (q.real j h b) td).bb = b := by
    intro td
    induction td with
    | nil => exact ⟨rfl, rfl, rfl⟩
    | cons e td ih =>
      obtain ⟨_, _, u1, u2, u3⟩ := undo1_len (σ := undoL (q.real j h b) td) (e := e)
      exact ⟨u1.trans ih.1, u2.trans ih.2.1, u3.trans ih.2.2⟩
  obtain ⟨u1, u2, u3⟩ := un td
  obtain ⟨more, em⟩ := R.m
  have hs := R.s
  have hh := R.h
  have hl : p.stack.length + ((undoL (q.real j h b) td).stack.drop p.stack.length).length = q.stack.length + j.length := by rw [List.length_drop, r4]; omega
  have ht : p.trail.length ≤ q.trail.length := by rw [R.tr]; simp
  have hm : p.made.length ≤ q.made.length := by rw [em]; simp
  obtain ⟨d1, d2⟩ := List.pairwise_cons.mp d
  refine ⟨td, _, R.tr, ok, r1, r2, by omega, r3, r4, u1, u2, u3, by rw [em]; simp, hm, gp p (.head _), gp, fun p' hp' => ?_, d, fun x hx x0 => ?_, by omega, by omega, by omega, by omega, s5⟩
  · rcases List.mem_cons.mp hp' with rfl | hp'
    · exact Rest.refl _
    · exact d1 p' hp'
  · rw [hl]
    exact e x (by rw [R.tr]; exact List.mem_append_left _ hx) x0
theorem Inv.choice {n : Nat} {q : Snap} {j : List Cc} {ps : List Snap} {fr : Int} (I : Inv n q j ps fr) : Inv (n + 1) q j (q :: ps) fr := by
  obtain ⟨a, b, c, d, e, s1, s2, s3, s4, s5⟩ := I
  refine ⟨a, fun p hp => ?_, fun p hp => ?_, List.pairwise_cons.mpr ⟨c, d⟩, e, by omega, by omega, by omega, by omega, by simp; omega⟩
  · rcases List.mem_cons.mp hp with rfl | hp
    · exact a
    · exact b p hp
  · rcases List.mem_cons.mp hp with rfl | hp
    · exact Rest.refl _
    · exact c p hp
theorem Inv.pop {n : Nat} {q p : Snap} {j : List Cc} {ps : List Snap} {fr : Int} (I : Inv n q j (p :: ps) fr) : Inv n q j ps fr := by
  obtain ⟨a, b, c, d, e, s1, s2, s3, s4, s5⟩ := I
  exact ⟨a, fun p' h => b p' (.tail _ h), fun p' h => c p' (.tail _ h), (List.pairwise_cons.mp d).2, e, s1, s2, s3, s4, by simp at s5; omega⟩
noncomputable abbrev snap0 : Snap := ⟨[], [], [], [], [], fun _ => none⟩
theorem Inv.init : Inv 0 snap0 [] [] 0 := by
  refine ⟨⟨⟨fun k k0 k1 => ?_, fun k k0 k1 => ?_⟩, fun c hc => (by cases hc), rfl, ⟨fun _ => (5, 0), ⟨fun g hg => (by cases hg), fun g hg => (by cases hg), fun g hg => (by cases hg)⟩, rfl⟩, fun g hg => (by cases hg), fun g v hv => (by cases hv), fun e he => (by cases he)⟩,
    fun p hp => (by cases hp), fun p hp => (by cases hp), List.Pairwise.nil, fun e he => (by cases he), Nat.le_refl _, Nat.le_refl _, Nat.le_refl _, Nat.le_refl _, Nat.le_refl _⟩
  · have : k < 0 := k1
    omega
  · have : k < 0 := k1
    omega
/-- a variable moved to the heap -/
theorem Inv.glob {n : Nat} {q : Snap} {j : List Cc} {ps : List Snap} {fr : Int} (I : Inv n q j ps fr) {i : Nat} (hi : i < q.made.length) (h1 : (dr q.sig (q.made.getD i (5, 0))).1 = 1) :
    ∃ q', bindS ⟨q.heap ++ [(0, (q.heap.length : Int))], q.stack ++ j, q.trail, hbOf ps, bbOf ps⟩ (dr q.sig (q.made.getD i (5, 0))) (0, q.heap.length) = q'.real j (hbOf ps) (bbOf ps) ∧ q'.made = q.made ∧ q'.groups = q.groups ∧ q'.val = q.val ∧
      Inv (n + 1) q' j ps fr ∧ dr q'.sig (q.made.getD i (5, 0)) = (0, (q.heap.length : Int)) ∧ (∀ e ∈ q'.trail.drop q.trail.length, e < hbOf ps ∧ -1 - e < bbOf ps) := by
  have G := I.gc
  obtain ⟨ok, rt, sv⟩ := G.see hi
  have vi : q.val (q.groups.getD i 0) = none := by
    rcases sv with ⟨_, z⟩ | ⟨v, z1, z2⟩
    · exact z
    · rw [z2] at h1; simp at h1
  let q1 : Snap := { q with heap := q.heap ++ [(0, (q.heap.length : Int))] }
  have S1 : Shape q1.sig := shapeH G.sh
  have go : ∀ {d}, OkC q.sig d → _ := fun {d} hd => grow_ok (q := q) (q' := q1) (hs := [(0, (q.heap.length : Int))]) (ss := []) rfl (by simp [q1]) hd
  have gd : ∀ {d}, OkC q.sig d → _ := fun {d} hd => grow_dr (q := q) (q' := q1) (hs := [(0, (q.heap.length : Int))]) (ss := []) rfl (by simp [q1]) G.sh S1 hd
  have G1 : Good q1 fr := by
    obtain ⟨rep, R, hm⟩ := G.rp
    refine ⟨S1, fun d hd => (go (G.md d hd)).1, G.ln, ⟨rep, ⟨R.b, fun g hg hv => ?_, R.inj⟩, ?_⟩, G.fg, G.fv, fun e he e0 => ?_⟩
    · obtain ⟨u1, u2, u3⟩ := R.u g hg hv
      exact ⟨(go u1).1, u2, (go u1).2.trans u3⟩
    · rw [← hm]
      exact List.map_congr_left fun d hd => gd (G.md d hd)
    · have := G.tr e he e0
      show e < ((q.heap ++ [(0, (q.heap.length : Int))]).length : Int)
      rw [List.length_append]; omega
  have ei : dr q1.sig (q.made.getD i (5, 0)) = dr q.sig (q.made.getD i (5, 0)) := gd (G.md _ (getD_mem hi))
  have okx : OkC q1.sig (0, (q.heap.length : Int)) := ⟨fun _ => ⟨by simp, by show (q.heap.length : Int) < ((q.heap ++ [(0, (q.heap.length : Int))]).length : Int); rw [List.length_append]; simp only [List.length_singleton]; omega⟩, fun z => absurd z (by simp)⟩
  have rtx : look q1.sig (0, (q.heap.length : Int)) = (0, (q.heap.length : Int)) := (look_0 rfl).trans at_len
  have B : Bindable q1 (dr q1.sig (q1.made.getD i (5, 0))) (0, (q.heap.length : Int)) := by
    show Bindable q1 (dr q1.sig (q.made.getD i (5, 0))) _
    rw [ei]
    exact ⟨(go ok).1, .inr h1, (go ok).2.trans rt, okx, rtx, fun e => by rw [← e] at h1; simp at h1, fun z => by omega, fun _ z => absurd z (by simp)⟩
  have I1 : Inv (n + 1) q1 j ps fr := by
    obtain ⟨a, b, c, d, e, s1, s2, s3, s4, s5⟩ := I
    refine ⟨G1, b, fun p hp => ?_, d, e, by simp [q1]; omega, by show q.stack.length + _ ≤ _; omega, by show q.trail.length ≤ _; omega, by show q.made.length ≤ _; omega, by omega⟩
    have := (c p hp).grow (hs := [(0, (q.heap.length : Int))]) (ss := []) (ms := []) (gs := q.groups) (vl := q.val)
    rw [List.append_nil, List.append_nil] at this
    exact this
  have ny : ∀ c ∈ q1.made, dr q1.sig c ≠ (0, (q.heap.length : Int)) := by
    intro c hc e
    have := (dr_root G.sh.down _ (G.md c hc)).1
    rw [gd (G.md c hc)] at e
    rw [e] at this
    have := (this.1 rfl).2
    simp at this
  have G2 := G1.rebind (hb := hbOf ps) (bb := bbOf ps) (i := i) hi vi B (.inl rfl) ny
  refine ⟨Snap.mk (bindQ q1 (hbOf ps) (bbOf ps) (dr q1.sig (q1.made.getD i (5, 0))) (0, (q.heap.length : Int))).heap (bindQ q1 (hbOf ps) (bbOf ps) (dr q1.sig (q1.made.getD i (5, 0))) (0, (q.heap.length : Int))).stack (bindQ q1 (hbOf ps) (bbOf ps) (dr q1.sig (q1.made.getD i (5, 0))) (0, (q.heap.length : Int))).trail q1.made q1.groups q1.val, ?_, rfl, rfl, rfl, ?_, ?_, ?_⟩
  · have := bindS_real (j := j) (hb := hbOf ps) (bb := bbOf ps) (c' := (0, (q.heap.length : Int))) B.ok B.tag
    rw [← ei]
    exact this
  · obtain ⟨a, b, c, d, e, s1, s2, s3, s4, s5⟩ := I
    have I2 := I1.bind B G2 rfl rfl rfl rfl
    obtain ⟨a', b', c', d', e', s1', s2', s3', s4', s5'⟩ := I2
    obtain ⟨z1, z2, z3, z4, z5, z6⟩ := bindQ_sizes (q := q1) (hb := hbOf ps) (bb := bbOf ps) (c := dr q1.sig (q1.made.getD i (5, 0))) (c' := (0, (q.heap.length : Int)))
    refine ⟨a', b', c', d', e', ?_, ?_, ?_, ?_, by omega⟩
    · show (bindQ q1 _ _ _ _).heap.length ≤ _
      rw [z1]; simp [q1]; omega
    · show (bindQ q1 _ _ _ _).stack.length + _ ≤ _
      rw [z2]; show q.stack.length + _ ≤ _; omega
    · show (bindQ q1 _ _ _ _).trail.length ≤ _
      have : q1.trail.length = q.trail.length := rfl
      omega
    · show q.made.length ≤ _; omega
  · have := bind_dr (hb := hbOf ps) (bb := bbOf ps) B G1.sh (G1.md _ (getD_mem (d := (5, 0)) hi))
    rw [if_pos rfl] at this
    exact this
  · exact bind_trail B (hbOf_nn ps) (bbOf_nn ps)
end Mine
end
section
open PySem PySem.W PySem.Calls PyProof.Rows PyProof.V PySem.Spec
namespace Mine

/-- a cell variable's box -/
noncomputable def CE (l : Led) (c : Addr) (v : Option Value) : Prop := ∃ o, (c, o) ∈ l ∧ o.data = .cell v
theorem CE.sub {D : List Addr} {l l' : Led} {c : Addr} {v : Option Value} (h : CE l c v) (s : Sub D l l') (hn : c ∉ D) : CE l' c v := let ⟨o, a, b⟩ := h; ⟨o, s _ a (.inr hn), b⟩
theorem CE.no {l : Led} {c : Addr} {v : Option Value} (h : CE l c v) : CE (noIt l) c v := let ⟨o, a, b⟩ := h; ⟨o, noIt_mem a (by show isIt o = false; unfold isIt; rw [b]; simp [isCellD]), b⟩
section
variable {w : World} {A : Around} {g : Heap} {L : Addr} {m : Map} {l : Led} {n : Nat} {env : Env}
theorem T_nameE {x : Str} {pos : Pos} {v : Value} {c : Addr} {Φ : Value → Map → Led → Prop} (C : Ctx w n A env g L) (H : CE l c (some v)) (h : Φ v m l) (hc : env.cells.lookup x = some c) 
    (hx : env.kindOf x = some .cell := by rfl) (hb : (x == ("__debug__" : Str)) = false := by decide) : Tri w A g L (eval (.Name x pos) env) m l Φ :=
  let ⟨_, a, b⟩ := H
  T_nameC C hc a b h hx hb
theorem T_storeE {x : Str} {v : Value} {c : Addr} {ov : Option Value} {Φ : Unit → Map → Led → Prop} (C : Ctx w n A env g L) (H : CE l c ov) (h : ∀ l', CE l' c (some v) → Sub [c] l l' → Φ () m l') (hc : env.cells.lookup x = some c) (hx : env.kindOf x = some .cell := by rfl) : Tri w A g L (storeName env x v) m l Φ := fun s F N => by
  obtain ⟨o, hm, hd⟩ := H
  refine wpAny_storeName_cell C.kind hx hc ⟨o, (N _ hm).1, hd⟩ fun h' hv hs => ?_
  obtain ⟨o', ho', hd'⟩ := hv
  obtain ⟨F', l', N', m1, m2⟩ := change F N hm hs ho'
  refine ⟨h', s.toks, m, l', rfl, F', N', h l' ⟨o', m1, hd'⟩ fun p hp z => m2 p hp fun e => ?_⟩
  rcases z with z | z
  · have := (N p hp).1
    rw [e, (N _ hm).1] at this
    rw [← Option.some.inj this] at z
    have := (Bool.and_eq_true_iff.mp z).2
    rw [hd] at this
    cases this
  · exact z (by simp [e])
theorem T_nameXE {x : Str} {pos : Pos} {v : Value} {scope : Scope} {cl : List (Str × Addr)} {Ca c : Addr} {Φ : Value → Map → Led → Prop} (H : CE l c (some v)) (h : Φ v m l) (hc : cl.lookup x = some c)
    (hk : (compEnvC scope cl Ca env).scope.kind = .function := by rfl) (hx : (compEnvC scope cl Ca env).kindOf x = some .cell := by rfl) (hb : (x == ("__debug__" : Str)) = false := by decide) : Tri w A g L (eval (.Name x pos) (compEnvC scope cl Ca env)) m l Φ :=
  let ⟨_, a, b⟩ := H
  T_nameXC hc a b h hk hx hb
theorem off1_new {D : Addr} : ∀ {q : Led}, LCg.Off1 D q → New q D
  | [], _ => fun p hp => by cases hp
  | a :: r, hq => fun p hp => by
    rcases List.mem_cons.mp hp with rfl | hp
    · exact hq.1
    · exact off1_new hq.2 p hp
/-- [elt for x in iter] -/
theorem T_compE {elt iter : Expr} {x : Str} {px : Pos} {scope : Scope} {cl : List (Str × Addr)} {pos : Pos} {Φ : Value → Map → Led → Prop} (C : Ctx w n A env g L)
    (h : Tri w A g L (eval iter env) m l (fun xv m₁ l₁ => m₁ = m ∧ ∃ ax vs Rel, xv = .ref ax ∧ LL l₁ ax vs ∧ vs.length ≤ sizeLine ∧ EltOk w A g L m l₁ env elt x scope cl vs Rel ∧
      ∀ ys D l', CompYs vs Rel ys → LL l' D ys → Sub [] l₁ l' → New l₁ D → Φ (.ref D) m l'))
    (hclos : closureFor scope env = pure cl) (hcell : ∀ z ∈ scope.names, z.2 ≠ .cell) (hkind : scope.kind = .function) (hnames : ∀ z ∈ scope.names, z.2 = .local → scope.names.lookup z.1 = some .local) (hx : scope.names.lookup x = some .local)
    (hs : ∀ x, foldedSetIterable iter env x = pure x) :
    Tri w A g L (eval (.ListComp elt [⟨.Name x px, iter, [], 0⟩] scope pos) env) m l Φ := by
  intro s F N
  refine LCg.ListComp_U F hclos hcell hkind hnames hx (h.go F N fun xv h' tk' m' l' F' N' p => ?_) hs
  obtain ⟨rfl, ax, vs, Rel, rfl, ⟨c, hm⟩, hz, he, hf⟩ := p
  refine LCg.CompSrc.ledger C.han F' N' hm (by rw [List.size_toArray]; exact hz) fun g' => ?_
  refine comp_rest (.inr ⟨_, hm, rfl, _, rfl⟩) he fun ys hys => ?_
  intro D h'' tk'' F'' N'' off
  exact ⟨h'', tk'', _, _, rfl, F'', N'', hf ys D _ hys ⟨_, .head _⟩ (fun p hp _ => .tail _ hp) (off1_new off)⟩
end

-- the law's memory
structure Loc where
  a : Adr
  hA : Addr
  cA : Addr
  mA : Addr
  gA : Addr
  vA : Addr
  pA : Addr
  cG : Addr
  cO : Addr
  cJ : Addr
structure LSt where
  i : Nat
  c : Int
  gd : Int
  σ : Sig
  made : List Cc
  groups : List Int
  val : Int → Option Int
  ps : List Snap
/-- a choice point, as it stands -/
noncomputable def Pt (w : World) (l : Led) (κ : Addr → Nat) (k : Nat) (v : Value) (p : Snap) : Prop :=
  ∃ b bh bs bt bg bv t t' vh vs vt vg, v = .ref b ∧ TT l b [.ref bh, .ref bs, .ref bt, .int p.made.length t, .ref bg, .ref bv, .int p.trail.length t'] ∧ LL l bh vh ∧ Cels l vh p.heap ∧ LL l bs vs ∧ Cels l vs p.stack ∧
    LL l bt vt ∧ IntsAre vt p.trail ∧ LL l bg vg ∧ IntsAre vg p.groups ∧ DI w l bv p.val k ∧ 50 ≤ κ bh ∧ 50 ≤ κ bs ∧ 50 ≤ κ bt ∧ 50 ≤ κ bg ∧ 50 ≤ κ bv
inductive PtsR (w : World) (l : Led) (κ : Addr → Nat) (k : Nat) : List Value → List Snap → Prop
  | nil : PtsR w l κ k [] []
  | snoc {vs ps v p} : PtsR w l κ k vs ps → Pt w l κ k v p → PtsR w l κ k (vs ++ [v]) (p :: ps)
/-- all of D is tagged below 50 -/
noncomputable def Low (κ : Addr → Nat) (D : List Addr) : Prop := ∀ d ∈ D, κ d < 50
theorem Low.no {κ : Addr → Nat} {D : List Addr} (h : Low κ D) {b : Addr} (hb : 50 ≤ κ b) : b ∉ D := fun hm => by have := h b hm; omega
theorem Pt.sub {D : List Addr} {w : World} {l l' : Led} {κ : Addr → Nat} {k : Nat} {v : Value} {p : Snap} (h : Pt w l κ k v p) (s : Sub D l l') (hD : Low κ D) : Pt w l' κ k v p := by
  obtain ⟨b, bh, bs, bt, bg, bv, t, t', vh, vs, vt, vg, e, q, h1, h2, h3, h4, h5, h6, h7, h8, h9, k1, k2, k3, k4, k5⟩ := h
  exact ⟨b, bh, bs, bt, bg, bv, t, t', vh, vs, vt, vg, e, q.sub s, h1.sub s (hD.no k1), h2.sub s, h3.sub s (hD.no k2), h4.sub s, h5.sub s (hD.no k3), h6, h7.sub s (hD.no k4), h8, h9.sub s (hD.no k5), k1, k2, k3, k4, k5⟩
theorem Pt.no {w : World} {l : Led} {κ : Addr → Nat} {k : Nat} {v : Value} {p : Snap} (h : Pt w l κ k v p) : Pt w (noIt l) κ k v p := by
  obtain ⟨b, bh, bs, bt, bg, bv, t, t', vh, vs, vt, vg, e, q, h1, h2, h3, h4, h5, h6, h7, h8, h9, r⟩ := h
  exact ⟨b, bh, bs, bt, bg, bv, t, t', vh, vs, vt, vg, e, q.no, h1.no, h2.no, h3.no, h4.no, h5.no, h6, h7.no, h8, h9.no, r⟩
theorem Pt.up {w : World} {l : Led} {κ : Addr → Nat} {k k' : Nat} {v : Value} {p : Snap} (h : Pt w l κ k v p) (hk : k ≤ k') : Pt w l κ k' v p := by
  obtain ⟨b, bh, bs, bt, bg, bv, t, t', vh, vs, vt, vg, e, q, h1, h2, h3, h4, h5, h6, h7, h8, h9, r⟩ := h
  exact ⟨b, bh, bs, bt, bg, bv, t, t', vh, vs, vt, vg, e, q, h1, h2, h3, h4, h5, h6, h7, h8, h9.more hk, r⟩
/-- one more tag -/
noncomputable abbrev tagU (κ : Addr → Nat) (b : Addr) (t : Nat) : Addr → Nat := fun x => if x = b then t else κ x
theorem tag_new {κ : Addr → Nat} {b x : Addr} {t : Nat} {l : Led} (h : New l b) {o : Obj} (hx : (x, o) ∈ l) : tagU κ b t x = κ x := if_neg (h _ hx)
theorem tag_newL {κ : Addr → Nat} {b x : Addr} {t : Nat} {l : Led} (h : New l b) {vs : List Value} (hx : LL l x vs) : tagU κ b t x = κ x := let ⟨_, q⟩ := hx; tag_new h q
theorem DI.in {w : World} {l : Led} {d : Addr} {val : Int → Option Int} {k : Nat} (h : DI w l d val k) : ∃ o, (d, o) ∈ l := let ⟨o, _, _, a, _⟩ := h.2; ⟨o, a⟩
theorem tag_newD {w : World} {κ : Addr → Nat} {b x : Addr} {t : Nat} {l : Led} (h : New l b) {val : Int → Option Int} {k : Nat} (hx : DI w l x val k) : tagU κ b t x = κ x := let ⟨_, q⟩ := hx.in; tag_new h q
theorem Pt.tag {w : World} {l : Led} {κ : Addr → Nat} {k : Nat} {v : Value} {p : Snap} (h : Pt w l κ k v p) {b : Addr} {t : Nat} (hn : New l b) : Pt w l (tagU κ b t) k v p := by
  obtain ⟨b, bh, bs, bt, bg, bv, t, t', vh, vs, vt, vg, e, q, h1, h2, h3, h4, h5, h6, h7, h8, h9, k1, k2, k3, k4, k5⟩ := h
  exact ⟨b, bh, bs, bt, bg, bv, t, t', vh, vs, vt, vg, e, q, h1, h2, h3, h4, h5, h6, h7, h8, h9, by rw [tag_newL hn h1]; exact k1, by rw [tag_newL hn h3]; exact k2, by rw [tag_newL hn h5]; exact k3, by rw [tag_newL hn h7]; exact k4, by rw [tag_newD hn h9]; exact k5⟩
theorem PtsR.imp {w : World} {l l' : Led} {κ κ' : Addr → Nat} {k k' : Nat} (f : ∀ v p, Pt w l κ k v p → Pt w l' κ' k' v p) : ∀ {vs : List Value} {ps : List Snap}, PtsR w l κ k vs ps → PtsR w l' κ' k' vs ps
  | _, _, .nil => .nil
  | _, _, .snoc a b => .snoc (PtsR.imp f a) (f _ _ b)
theorem PtsR.len {w : World} {l : Led} {κ : Addr → Nat} {k : Nat} : ∀ {vs : List Value} {ps : List Snap}, PtsR w l κ k vs ps → vs.length = ps.length
  | _, _, .nil => rfl
  | _, _, .snoc a b => by simp [PtsR.len a]

structure MS (w : World) (cvs : List Value) (l0 l : Led) (κ : Addr → Nat) (Z : Loc) (k : Nat) (S : LSt) : Prop where
  ki : ∀ p ∈ l0, isIt p.2 = true → p ∈ l
  fH : HandOk l l Z.hA Z.cA cvs S.i S.c S.gd
  fA : AR l Z.a S.σ
  fM : ∃ vs, LL l Z.mA vs ∧ Cels l vs S.made
  fE : CE l Z.cG (some (.ref Z.gA))
  fG : ∃ vs, LL l Z.gA vs ∧ IntsAre vs S.groups
  fV : DI w l Z.vA S.val k
  fP : ∃ vs, LL l Z.pA vs ∧ PtsR w l κ k vs S.ps
  fO : ∃ v, CE l Z.cO v
  fJ : ∃ v, CE l Z.cJ v
  t0 : κ Z.hA = 0
  t1 : κ Z.cA = 1
  t2 : κ Z.a.hA = 2
  t3 : κ Z.a.sA = 3
  t4 : κ Z.a.tA = 4
  t5 : κ Z.a.dx = 5
  t6 : κ Z.mA = 6
  t7 : κ Z.gA = 7
  t8 : κ Z.vA = 8
  t9 : κ Z.pA = 9
  t10 : κ Z.cG = 10
  t11 : κ Z.cO = 11
  t12 : κ Z.cJ = 12
theorem ki_sub {D : List Addr} {l0 l l' : Led} (h : ∀ p ∈ l0, isIt p.2 = true → p ∈ l) (s : Sub D l l') : ∀ p ∈ l0, isIt p.2 = true → p ∈ l' := fun p hp c => s p (h p hp c) (.inl (isIt_fix c))
theorem HandOk.sub {D : List Addr} {l0 l l' : Led} {hA cA : Addr} {cvs : List Value} {i c g : Int} (h : HandOk l0 l hA cA cvs i c g) (s : Sub D l l') (h1 : hA ∉ D) (h2 : cA ∉ D) : HandOk l' l' hA cA cvs i c g := by
  obtain ⟨⟨t1, t2, t3, a⟩, b, _, ne⟩ := h
  exact ⟨⟨t1, t2, t3, a.sub s h1⟩, b.sub s h2, Sub.refl, ne⟩
theorem HandOk.to {l0 l : Led} {hA cA : Addr} {cvs : List Value} {i c g : Int} (h : HandOk l0 l hA cA cvs i c g) : HandOk l l hA cA cvs i c g := ⟨h.a, h.b, Sub.refl, h.ne⟩
theorem HandOk.no {l0 l : Led} {hA cA : Addr} {cvs : List Value} {i c g : Int} (h : HandOk l0 l hA cA cvs i c g) : HandOk (noIt l) (noIt l) hA cA cvs i c g := by
  obtain ⟨⟨t1, t2, t3, a⟩, b, _, ne⟩ := h
  exact ⟨⟨t1, t2, t3, a.no⟩, b.no, Sub.refl, ne⟩
theorem tne {κ : Addr → Nat} {a b : Addr} {i j : Nat} (h1 : κ a = i) (h2 : κ b = j) (hij : i ≠ j) : a ∉ [b] := by
  intro hm
  have := congrArg κ (List.mem_singleton.mp hm)
  omega
theorem tne3 {κ : Addr → Nat} {a b c d : Addr} {i j k n : Nat} (h1 : κ a = i) (h2 : κ b = j) (h3 : κ c = k) (h4 : κ d = n) (hij : i ≠ j) (hik : i ≠ k) (hin : i ≠ n) : a ∉ [b, c, d] := by
  intro hm
  simp only [List.mem_cons, List.not_mem_nil, or_false] at hm
  rcases hm with hm | hm | hm <;> (have := congrArg κ hm; omega)
section
variable {w : World} {cvs : List Value} {l0 l l' : Led} {κ : Addr → Nat} {Z : Loc} {k : Nat} {S : LSt}
theorem MS.sub0 (M : MS w cvs l0 l κ Z k S) (s : Sub [] l l') : MS w cvs l0 l' κ Z k S := by
  obtain ⟨ki, fH, fA, ⟨mv, m1, m2⟩, fE, ⟨gv, g1, g2⟩, fV, ⟨pv, p1, p2⟩, ⟨vo, fO⟩, ⟨vj, fJ⟩, r⟩ := M
  exact ⟨ki_sub ki s, fH.sub s (by simp) (by simp), fA.sub0 s, ⟨mv, m1.sub s (by simp), m2.sub s⟩, fE.sub s (by simp), ⟨gv, g1.sub s (by simp), g2⟩, fV.sub s (by simp), ⟨pv, p1.sub s (by simp), p2.imp fun _ _ z => z.sub s (fun d hd => by cases hd)⟩, ⟨vo, fO.sub s (by simp)⟩, ⟨vj, fJ.sub s (by simp)⟩, by assumption, by assumption, by assumption, by assumption, by assumption, by assumption, by assumption, by assumption, by assumption, by assumption, by assumption, by assumption, by assumption⟩
theorem MS.no (M : MS w cvs l0 l κ Z k S) : MS w cvs [] (noIt l) κ Z k S := by
  obtain ⟨ki, fH, fA, ⟨mv, m1, m2⟩, fE, ⟨gv, g1, g2⟩, fV, ⟨pv, p1, p2⟩, ⟨vo, fO⟩, ⟨vj, fJ⟩, r⟩ := M
  exact ⟨fun p hp => (by cases hp), fH.no, fA.no, ⟨mv, m1.no, m2.no⟩, fE.no, ⟨gv, g1.no, g2⟩, fV.no, ⟨pv, p1.no, p2.imp fun _ _ z => z.no⟩, ⟨vo, fO.no⟩, ⟨vj, fJ.no⟩, by assumption, by assumption, by assumption, by assumption, by assumption, by assumption, by assumption, by assumption, by assumption, by assumption, by assumption, by assumption, by assumption⟩
theorem MS.up {k' : Nat} (M : MS w cvs l0 l κ Z k S) (hk : k ≤ k') : MS w cvs l0 l κ Z k' S := { M with fV := M.fV.more hk, fP := let ⟨pv, p1, p2⟩ := M.fP; ⟨pv, p1, p2.imp fun _ _ z => z.up hk⟩ }
theorem MS.start (M : MS w cvs l0 l κ Z k S) : MS w cvs l l κ Z k S := { M with ki := fun _ h _ => h }
theorem low1 {κ : Addr → Nat} {b : Addr} {i : Nat} (h : κ b = i) (hi : i < 50) : Low κ [b] := fun d hd => by rw [List.mem_singleton.mp hd, h]; exact hi
theorem MS.setH {i' : Nat} {c' gd' : Int} (M : MS w cvs l0 l κ Z k S) (h : HandOk l l' Z.hA Z.cA cvs i' c' gd') : MS w cvs l0 l' κ Z k { S with i := i', c := c', gd := gd' } := by
  have s := h.s
  obtain ⟨ki, fH, fA, ⟨mv, m1, m2⟩, fE, ⟨gv, g1, g2⟩, fV, ⟨pv, p1, p2⟩, ⟨vo, fO⟩, ⟨vj, fJ⟩, t0, t1, t2, t3, t4, t5, t6, t7, t8, t9, t10, t11, t12⟩ := M
  exact ⟨ki_sub ki s, h.to, fA.sub s (tne t5 t0 (by decide)) (tne t2 t0 (by decide)) (tne t3 t0 (by decide)) (tne t4 t0 (by decide)), ⟨mv, m1.sub s (tne t6 t0 (by decide)), m2.sub s⟩, fE.sub s (tne t10 t0 (by decide)), ⟨gv, g1.sub s (tne t7 t0 (by decide)), g2⟩,
    fV.sub s (tne t8 t0 (by decide)), ⟨pv, p1.sub s (tne t9 t0 (by decide)), p2.imp fun _ _ z => z.sub s (low1 t0 (by decide))⟩, ⟨vo, fO.sub s (tne t11 t0 (by decide))⟩, ⟨vj, fJ.sub s (tne t12 t0 (by decide))⟩, t0, t1, t2, t3, t4, t5, t6, t7, t8, t9, t10, t11, t12⟩
theorem MS.setA {σ' : Sig} (M : MS w cvs l0 l κ Z k S) (h : AR l' Z.a σ') (s : Sub Z.a.D l l') : MS w cvs l0 l' κ Z k { S with σ := σ' } := by
  obtain ⟨ki, fH, fA, ⟨mv, m1, m2⟩, fE, ⟨gv, g1, g2⟩, fV, ⟨pv, p1, p2⟩, ⟨vo, fO⟩, ⟨vj, fJ⟩, t0, t1, t2, t3, t4, t5, t6, t7, t8, t9, t10, t11, t12⟩ := M
  have lo : Low κ Z.a.D := fun d hd => by
    simp only [Adr.D, List.mem_cons, List.not_mem_nil, or_false] at hd
    rcases hd with rfl | rfl | rfl <;> omega
  exact ⟨ki_sub ki s, fH.sub s (tne3 t0 t2 t3 t4 (by decide) (by decide) (by decide)) (tne3 t1 t2 t3 t4 (by decide) (by decide) (by decide)), h, ⟨mv, m1.sub s (tne3 t6 t2 t3 t4 (by decide) (by decide) (by decide)), m2.sub s⟩, fE.sub s (tne3 t10 t2 t3 t4 (by decide) (by decide) (by decide)),
    ⟨gv, g1.sub s (tne3 t7 t2 t3 t4 (by decide) (by decide) (by decide)), g2⟩, fV.sub s (tne3 t8 t2 t3 t4 (by decide) (by decide) (by decide)), ⟨pv, p1.sub s (tne3 t9 t2 t3 t4 (by decide) (by decide) (by decide)), p2.imp fun _ _ z => z.sub s lo⟩,
    ⟨vo, fO.sub s (tne3 t11 t2 t3 t4 (by decide) (by decide) (by decide))⟩, ⟨vj, fJ.sub s (tne3 t12 t2 t3 t4 (by decide) (by decide) (by decide))⟩, t0, t1, t2, t3, t4, t5, t6, t7, t8, t9, t10, t11, t12⟩
theorem MS.setB {σ' : Sig} (M : MS w cvs l0 l κ Z k S) (h : AR l' Z.a σ') (s : Sub [Z.a.dx] l l') : MS w cvs l0 l' κ Z k { S with σ := σ' } := by
  obtain ⟨ki, fH, fA, ⟨mv, m1, m2⟩, fE, ⟨gv, g1, g2⟩, fV, ⟨pv, p1, p2⟩, ⟨vo, fO⟩, ⟨vj, fJ⟩, t0, t1, t2, t3, t4, t5, t6, t7, t8, t9, t10, t11, t12⟩ := M
  exact ⟨ki_sub ki s, fH.sub s (tne t0 t5 (by decide)) (tne t1 t5 (by decide)), h, ⟨mv, m1.sub s (tne t6 t5 (by decide)), m2.sub s⟩, fE.sub s (tne t10 t5 (by decide)), ⟨gv, g1.sub s (tne t7 t5 (by decide)), g2⟩,
    fV.sub s (tne t8 t5 (by decide)), ⟨pv, p1.sub s (tne t9 t5 (by decide)), p2.imp fun _ _ z => z.sub s (low1 t5 (by decide))⟩, ⟨vo, fO.sub s (tne t11 t5 (by decide))⟩, ⟨vj, fJ.sub s (tne t12 t5 (by decide))⟩, t0, t1, t2, t3, t4, t5, t6, t7, t8, t9, t10, t11, t12⟩
theorem MS.setM {made' : List Cc} (M : MS w cvs l0 l κ Z k S) (h : ∃ vs, LL l' Z.mA vs ∧ Cels l' vs made') (s : Sub [Z.mA] l l') : MS w cvs l0 l' κ Z k { S with made := made' } := by
  obtain ⟨ki, fH, fA, ⟨mv, m1, m2⟩, fE, ⟨gv, g1, g2⟩, fV, ⟨pv, p1, p2⟩, ⟨vo, fO⟩, ⟨vj, fJ⟩, t0, t1, t2, t3, t4, t5, t6, t7, t8, t9, t10, t11, t12⟩ := M
  exact ⟨ki_sub ki s, fH.sub s (tne t0 t6 (by decide)) (tne t1 t6 (by decide)), fA.sub s (tne t5 t6 (by decide)) (tne t2 t6 (by decide)) (tne t3 t6 (by decide)) (tne t4 t6 (by decide)), h, fE.sub s (tne t10 t6 (by decide)), ⟨gv, g1.sub s (tne t7 t6 (by decide)), g2⟩,
    fV.sub s (tne t8 t6 (by decide)), ⟨pv, p1.sub s (tne t9 t6 (by decide)), p2.imp fun _ _ z => z.sub s (low1 t6 (by decide))⟩, ⟨vo, fO.sub s (tne t11 t6 (by decide))⟩, ⟨vj, fJ.sub s (tne t12 t6 (by decide))⟩, t0, t1, t2, t3, t4, t5, t6, t7, t8, t9, t10, t11, t12⟩
theorem MS.setG {groups' : List Int} (M : MS w cvs l0 l κ Z k S) (h : ∃ vs, LL l' Z.gA vs ∧ IntsAre vs groups') (s : Sub [Z.gA] l l') : MS w cvs l0 l' κ Z k { S with groups := groups' } := by
  obtain ⟨ki, fH, fA, ⟨mv, m1, m2⟩, fE, ⟨gv, g1, g2⟩, fV, ⟨pv, p1, p2⟩, ⟨vo, fO⟩, ⟨vj, fJ⟩, t0, t1, t2, t3, t4, t5, t6, t7, t8, t9, t10, t11, t12⟩ := M
  exact ⟨ki_sub ki s, fH.sub s (tne t0 t7 (by decide)) (tne t1 t7 (by decide)), fA.sub s (tne t5 t7 (by decide)) (tne t2 t7 (by decide)) (tne t3 t7 (by decide)) (tne t4 t7 (by decide)), ⟨mv, m1.sub s (tne t6 t7 (by decide)), m2.sub s⟩, fE.sub s (tne t10 t7 (by decide)), h,
    fV.sub s (tne t8 t7 (by decide)), ⟨pv, p1.sub s (tne t9 t7 (by decide)), p2.imp fun _ _ z => z.sub s (low1 t7 (by decide))⟩, ⟨vo, fO.sub s (tne t11 t7 (by decide))⟩, ⟨vj, fJ.sub s (tne t12 t7 (by decide))⟩, t0, t1, t2, t3, t4, t5, t6, t7, t8, t9, t10, t11, t12⟩
theorem MS.setV {val' : Int → Option Int} {k' : Nat} (M : MS w cvs l0 l κ Z k S) (hk : k ≤ k') (h : DI w l' Z.vA val' k') (s : Sub [Z.vA] l l') : MS w cvs l0 l' κ Z k' { S with val := val' } := by
  obtain ⟨ki, fH, fA, ⟨mv, m1, m2⟩, fE, ⟨gv, g1, g2⟩, fV, ⟨pv, p1, p2⟩, ⟨vo, fO⟩, ⟨vj, fJ⟩, t0, t1, t2, t3, t4, t5, t6, t7, t8, t9, t10, t11, t12⟩ := M
  exact ⟨ki_sub ki s, fH.sub s (tne t0 t8 (by decide)) (tne t1 t8 (by decide)), fA.sub s (tne t5 t8 (by decide)) (tne t2 t8 (by decide)) (tne t3 t8 (by decide)) (tne t4 t8 (by decide)), ⟨mv, m1.sub s (tne t6 t8 (by decide)), m2.sub s⟩, fE.sub s (tne t10 t8 (by decide)), ⟨gv, g1.sub s (tne t7 t8 (by decide)), g2⟩,
    h, ⟨pv, p1.sub s (tne t9 t8 (by decide)), p2.imp fun _ _ z => (z.sub s (low1 t8 (by decide))).up hk⟩, ⟨vo, fO.sub s (tne t11 t8 (by decide))⟩, ⟨vj, fJ.sub s (tne t12 t8 (by decide))⟩, t0, t1, t2, t3, t4, t5, t6, t7, t8, t9, t10, t11, t12⟩
theorem MS.setP {ps' : List Snap} (M : MS w cvs l0 l κ Z k S) (h : ∃ vs, LL l' Z.pA vs ∧ PtsR w l' κ k vs ps') (s : Sub [Z.pA] l l') : MS w cvs l0 l' κ Z k { S with ps := ps' } := by
  obtain ⟨ki, fH, fA, ⟨mv, m1, m2⟩, fE, ⟨gv, g1, g2⟩, fV, ⟨pv, p1, p2⟩, ⟨vo, fO⟩, ⟨vj, fJ⟩, t0, t1, t2, t3, t4, t5, t6, t7, t8, t9, t10, t11, t12⟩ := M
  exact ⟨ki_sub ki s, fH.sub s (tne t0 t9 (by decide)) (tne t1 t9 (by decide)), fA.sub s (tne t5 t9 (by decide)) (tne t2 t9 (by decide)) (tne t3 t9 (by decide)) (tne t4 t9 (by decide)), ⟨mv, m1.sub s (tne t6 t9 (by decide)), m2.sub s⟩, fE.sub s (tne t10 t9 (by decide)), ⟨gv, g1.sub s (tne t7 t9 (by decide)), g2⟩,
    fV.sub s (tne t8 t9 (by decide)), h, ⟨vo, fO.sub s (tne t11 t9 (by decide))⟩, ⟨vj, fJ.sub s (tne t12 t9 (by decide))⟩, t0, t1, t2, t3, t4, t5, t6, t7, t8, t9, t10, t11, t12⟩
theorem MS.setO {v : Option Value} (M : MS w cvs l0 l κ Z k S) (h : CE l' Z.cO v) (s : Sub [Z.cO] l l') : MS w cvs l0 l' κ Z k S := by
  obtain ⟨ki, fH, fA, ⟨mv, m1, m2⟩, fE, ⟨gv, g1, g2⟩, fV, ⟨pv, p1, p2⟩, ⟨vo, fO⟩, ⟨vj, fJ⟩, t0, t1, t2, t3, t4, t5, t6, t7, t8, t9, t10, t11, t12⟩ := M
  exact ⟨ki_sub ki s, fH.sub s (tne t0 t11 (by decide)) (tne t1 t11 (by decide)), fA.sub s (tne t5 t11 (by decide)) (tne t2 t11 (by decide)) (tne t3 t11 (by decide)) (tne t4 t11 (by decide)), ⟨mv, m1.sub s (tne t6 t11 (by decide)), m2.sub s⟩, fE.sub s (tne t10 t11 (by decide)), ⟨gv, g1.sub s (tne t7 t11 (by decide)), g2⟩,
    fV.sub s (tne t8 t11 (by decide)), ⟨pv, p1.sub s (tne t9 t11 (by decide)), p2.imp fun _ _ z => z.sub s (low1 t11 (by decide))⟩, ⟨v, h⟩, ⟨vj, fJ.sub s (tne t12 t11 (by decide))⟩, t0, t1, t2, t3, t4, t5, t6, t7, t8, t9, t10, t11, t12⟩
theorem MS.setJ {v : Option Value} (M : MS w cvs l0 l κ Z k S) (h : CE l' Z.cJ v) (s : Sub [Z.cJ] l l') : MS w cvs l0 l' κ Z k S := by
  obtain ⟨ki, fH, fA, ⟨mv, m1, m2⟩, fE, ⟨gv, g1, g2⟩, fV, ⟨pv, p1, p2⟩, ⟨vo, fO⟩, ⟨vj, fJ⟩, t0, t1, t2, t3, t4, t5, t6, t7, t8, t9, t10, t11, t12⟩ := M
  exact ⟨ki_sub ki s, fH.sub s (tne t0 t12 (by decide)) (tne t1 t12 (by decide)), fA.sub s (tne t5 t12 (by decide)) (tne t2 t12 (by decide)) (tne t3 t12 (by decide)) (tne t4 t12 (by decide)), ⟨mv, m1.sub s (tne t6 t12 (by decide)), m2.sub s⟩, fE.sub s (tne t10 t12 (by decide)), ⟨gv, g1.sub s (tne t7 t12 (by decide)), g2⟩,
    fV.sub s (tne t8 t12 (by decide)), ⟨pv, p1.sub s (tne t9 t12 (by decide)), p2.imp fun _ _ z => z.sub s (low1 t12 (by decide))⟩, ⟨vo, fO.sub s (tne t11 t12 (by decide))⟩, ⟨v, h⟩, t0, t1, t2, t3, t4, t5, t6, t7, t8, t9, t10, t11, t12⟩
/-- a new object b is tagged t -/
theorem MS.tag (M : MS w cvs l0 l κ Z k S) {b : Addr} {t : Nat} (hn : New l b) : MS w cvs l0 l (tagU κ b t) Z k S := by
  obtain ⟨ki, fH, fA, ⟨mv, m1, m2⟩, fE, ⟨gv, g1, g2⟩, fV, ⟨pv, p1, p2⟩, ⟨vo, fO⟩, ⟨vj, fJ⟩, t0, t1, t2, t3, t4, t5, t6, t7, t8, t9, t10, t11, t12⟩ := M
  have H := fH
  have Aa := fA
  obtain ⟨_, _, _, hl⟩ := H.a
  obtain ⟨_, _, di, _⟩ := Aa.di
  obtain ⟨_, ah, _⟩ := Aa.hp
  obtain ⟨_, as, _⟩ := Aa.sp
  obtain ⟨_, at', _⟩ := Aa.tp
  have ce : ∀ {c v}, CE l c v → tagU κ b t c = κ c := fun ⟨_, q, _⟩ => tag_new hn q
  exact ⟨ki, fH, fA, ⟨mv, m1, m2⟩, fE, ⟨gv, g1, g2⟩, fV, ⟨pv, p1, p2.imp fun _ _ z => z.tag hn⟩, ⟨vo, fO⟩, ⟨vj, fJ⟩, (tag_newL hn hl).trans t0, (tag_newL hn H.b).trans t1, (tag_newL hn ah).trans t2, (tag_newL hn as).trans t3, (tag_newL hn at').trans t4,
    (tag_new hn di).trans t5, (tag_newL hn m1).trans t6, (tag_newL hn g1).trans t7, (tag_newD hn fV).trans t8, (tag_newL hn p1).trans t9, (ce fE).trans t10, (ce fO).trans t11, (ce fJ).trans t12⟩
/-- made, groups, values stand anew -/
theorem MS.newM {made' : List Cc} {b : Addr} {vs : List Value} (M : MS w cvs l0 l κ Z k S) (s : Sub [] l l') (hn : New l b) (h : LL l' b vs) (hc : Cels l' vs made') : MS w cvs l0 l' (tagU κ b 6) { Z with mA := b } k { S with made := made' } := by
  have M' := (M.tag (t := 6) hn).sub0 s
  exact { M' with fM := ⟨vs, h, hc⟩, t6 := if_pos rfl }
theorem MS.newV {val' : Int → Option Int} {b : Addr} (M : MS w cvs l0 l κ Z k S) (s : Sub [] l l') (hn : New l b) (h : DI w l' b val' k) : MS w cvs l0 l' (tagU κ b 8) { Z with vA := b } k { S with val := val' } := by
  have M' := (M.tag (t := 8) hn).sub0 s
  exact { M' with fV := h, t8 := if_pos rfl }
/-- groups stands anew: its box is stored later -/
theorem MS.newG {groups' : List Int} {b : Addr} {vs : List Value} {l2 : Led} (M : MS w cvs l0 l κ Z k S) (s : Sub [] l l') (hn : New l b) (h : LL l' b vs) (hc : IntsAre vs groups') (e : CE l2 Z.cG (some (.ref b))) (s2 : Sub [Z.cG] l' l2) : MS w cvs l0 l2 (tagU κ b 7) { Z with gA := b } k { S with groups := groups' } := by
  have M' := (M.tag (t := 7) hn).sub0 s
  obtain ⟨ki, fH, fA, ⟨mv, m1, m2⟩, fE, ⟨gv, g1, g2⟩, fV, ⟨pv, p1, p2⟩, ⟨vo, fO⟩, ⟨vj, fJ⟩, t0, t1, t2, t3, t4, t5, t6, t7, t8, t9, t10, t11, t12⟩ := M'
  have tb : tagU κ b 7 b = 7 := if_pos rfl
  exact ⟨ki_sub ki s2, fH.sub s2 (tne t0 t10 (by decide)) (tne t1 t10 (by decide)), fA.sub s2 (tne t5 t10 (by decide)) (tne t2 t10 (by decide)) (tne t3 t10 (by decide)) (tne t4 t10 (by decide)), ⟨mv, m1.sub s2 (tne t6 t10 (by decide)), m2.sub s2⟩, e, ⟨vs, h.sub s2 (tne tb t10 (by decide)), hc⟩,
    fV.sub s2 (tne t8 t10 (by decide)), ⟨pv, p1.sub s2 (tne t9 t10 (by decide)), p2.imp fun _ _ z => z.sub s2 (low1 t10 (by decide))⟩, ⟨vo, fO.sub s2 (tne t11 t10 (by decide))⟩, ⟨vj, fJ.sub s2 (tne t12 t10 (by decide))⟩, t0, t1, t2, t3, t4, t5, t6, tb, t8, t9, t10, t11, t12⟩
end
end Mine
end
section
open PySem PySem.W PySem.Calls PyProof.Rows PyProof.V PySem.Spec
namespace Mine
section
variable {w : World} {A : Around} {g : Heap} {L : Addr} {m : Map} {l : Led} {n : Nat} {env : Env} {a b : Addr} {vs us : List Value}

theorem T_inL {ns : List Int} {i : Int} {t : Tok} {Φ : Value → Map → Led → Prop} (hl : LL l a vs) (hi : IntsAre vs ns) (h : Φ (.bool (ns.any (· == i))) m l) : Tri w A g L (compareOp .In (.int i t) (.ref a)) m l Φ :=
  fun s F N => in_list_ints (isList_of N hl) hi ⟨s.heap, s.toks, m, l, rfl, F, N, h⟩
theorem T_notInL {ns : List Int} {i : Int} {t : Tok} {Φ : Value → Map → Led → Prop} (hl : LL l a vs) (hi : IntsAre vs ns) (h : Φ (.bool (!(ns.any (· == i)))) m l) : Tri w A g L (compareOp .NotIn (.int i t) (.ref a)) m l Φ :=
  fun s F N => notin_list_ints (isList_of N hl) hi ⟨s.heap, s.toks, m, l, rfl, F, N, h⟩
theorem T_neNil {Φ : Value → Map → Led → Prop} (C : Ctx w n A env g L) (hl : LL l a vs) (hb : LL l b []) (h : Φ (.bool (decide (vs.length ≠ 0))) m l) : Tri w A g L (compareOp .NotEq (.ref a) (.ref b)) m l Φ := fun s F N => by
  have hu : A.units < cLine := by have := C.uni; omega
  cases vs with
  | nil =>
    refine cmp_ofNotEq (SeqAt.RcNeAt.lists (e := fun _ => true) (isList_of N hl) (isList_of N hb) rfl hu (fun j h1 => by simp at h1) P0 w _ _ ?_)
    exact ⟨s.heap, s.toks, m, l, rfl, F, N, h⟩
  | cons v r =>
    refine cmp_ofNotEq (SeqAt.RcNeAt.lists_lengths (isList_of N hl) (isList_of N hb) (by simp) hu P0 w _ _ ?_)
    exact ⟨s.heap, s.toks, m, l, rfl, F, N, by simpa using h⟩
theorem all_true : ∀ k : Nat, (!(List.range k).all fun _ => true) = false := fun k => by simp
theorem T_neCs {cs : List Cc} {Φ : Value → Map → Led → Prop} (C : Ctx w n A env g L) (hl : LL l a vs) (hc : Cels l vs cs) (hb : LL l b us) (hd : Cels l us cs) (h : Φ (.bool false) m l) : Tri w A g L (compareOp .NotEq (.ref a) (.ref b)) m l Φ := by
  refine Tri.led fun hF => fun s F N => ?_
  have hu : A.units < cLine := by have := C.uni; omega
  have e1 := hc.len
  have e2 := hd.len
  refine cmp_ofNotEq (SeqAt.RcNeAt.lists (e := fun _ => true) (isList_of N hl) (isList_of N hb) (by simp; omega) hu (fun j h1 h2 => ?_) P0 w _ _ ?_)
  · have h1' : j < vs.length := by simpa using h1
    have h2' : j < us.length := by simpa using h2
    have := eqAt_cel N hF (A := A.in1) (by have := C.uni; show A.units + 1 + 64 < _; omega) (hc.at (k := j) h1' (by omega)) (hd.at (k := j) h2' (by omega))
    simpa using this
  · rw [all_true]; exact ⟨s.heap, s.toks, m, l, rfl, F, N, h⟩
theorem ints_at {vs : List Value} {ns : List Int} (h : IntsAre vs ns) : ∀ {k : Nat} (h1 : k < vs.length) (h2 : k < ns.length), ∃ t, vs[k] = .int ns[k] t := by
  induction h with
  | nil => intro k h1; simp at h1
  | cons i t r ih => intro k h1 h2; cases k with
    | zero => exact ⟨t, rfl⟩
    | succ k => simpa using ih (k := k) (by simpa using h1) (by simpa using h2)
theorem T_neIs {ns : List Int} {Φ : Value → Map → Led → Prop} (C : Ctx w n A env g L) (hl : LL l a vs) (hc : IntsAre vs ns) (hb : LL l b us) (hd : IntsAre us ns) (h : Φ (.bool false) m l) : Tri w A g L (compareOp .NotEq (.ref a) (.ref b)) m l Φ := by
  intro s F N
  have hu : A.units < cLine := by have := C.uni; omega
  have e1 := hc.length
  have e2 := hd.length
  refine cmp_ofNotEq (SeqAt.RcNeAt.lists (e := fun _ => true) (isList_of N hl) (isList_of N hb) (by simp; omega) hu (fun j h1 h2 => ?_) P0 w _ _ ?_)
  · have h1' : j < vs.length := by simpa using h1
    have h2' : j < us.length := by simpa using h2
    obtain ⟨t, x1⟩ := ints_at hc (k := j) h1' (by omega)
    obtain ⟨u, x2⟩ := ints_at hd (k := j) h2' (by omega)
    have := SeqAt.EqAt.int_int (A := A.in1) (s := s) (ns[j]'(by omega)) t (ns[j]'(by omega)) u
    rw [← x1, ← x2] at this
    simpa using this
  · rw [all_true]; exact ⟨s.heap, s.toks, m, l, rfl, F, N, h⟩
theorem T_lastL {value slice : Expr} {v : Value} {t : Tok} {Φ : Value → Map → Led → Prop} (hl : LL l a (vs ++ [v])) (hz : vs.length < 100000) (h : Φ v m l)
    (hs : subscripted slice false (.ref a) (.int (-1) t) = operate [.ref a, .int (-1) t] (getItem (.ref a) (.int (-1) t)) := by with_unfolding_all rfl) (hg : ∀ r, letTemporaryGo value (.ref a) r = pure () := by intro _; with_unfolding_all rfl) :
    Tri w A g L (subscriptTail value slice (.ref a) (.int (-1) t)) m l Φ :=
  fun s F N => subscriptTail_builtin (isList_of N hl).typeIs slot_list_getitem.lookup (wpAny_getItem_list_neg (isList_of N hl) (by decide) (by rw [List.size_toArray, List.length_append]; simp; omega) (by decide) (by
      have e : (-1 + ((vs ++ [v]).toArray.size : Int)).toNat = vs.length := by rw [List.size_toArray, List.length_append]; simp; omega
      rw [e]; simp) ⟨s.heap, s.toks, m, l, rfl, F, N, h⟩) hs hg
theorem T_sliceA {value slice : Expr} {vl vu : Value} {lo hi : Option Int} {Φ : Value → Map → Led → Prop} (hl : LL l a vs) (hb : SL l b vl vu) (pl : IsPart vl lo) (pu : IsPart vu hi) (hz : vs.length ≤ sizeLine)
    (h : ∀ c l', LL l' c (slicePick vs.toArray lo hi none).toList → Sub [] l l' → New l c → Φ (.ref c) m l')
    (hs : subscripted slice false (.ref a) (.ref b) = operate [.ref b, .ref a] (getItem (.ref a) (.ref b)) := by with_unfolding_all rfl) : Tri w A g L (subscriptTail value slice (.ref a) (.ref b)) m l Φ :=
  fun s F N => tail_any (isList_of N hl).typeIs list_getitem_lookup
    (wpAny_getItem_list_slice (isList_of N hl) ⟨_, (N _ hb).1, rfl, rfl⟩ pl pu .none (by simp) ⟨_, _, m, _, rfl, F.push _, N.push F _, h _ _ ⟨0, by simp [lstO]⟩ (fun p hp _ => .tail _ hp) fun p hp => Nat.ne_of_lt (Heap.lt_size (N p hp).1)⟩ (by rw [List.size_toArray]; exact hz)) hs
theorem pick_take {vs : List Value} {k : Nat} : (slicePick vs.toArray none (some (k : Int)) none).toList = vs.take k := by
  rw [kms_pick_eq]
  show kms_pick vs none (some (k : Int)) = _
  have h : ¬ ((k : Int) < 0) := by omega
  simp only [kms_pick, kms_lo, kms_hi, h, if_false, List.drop_zero, Nat.sub_zero, Int.toNat_natCast]
  by_cases hk : k ≤ vs.length
  · rw [Nat.min_eq_left hk]
  · rw [Nat.min_eq_right (by omega), List.take_length, List.take_of_length_le (by omega)]
theorem pick_drop {vs : List Value} {k : Nat} : (slicePick vs.toArray (some (k : Int)) none none).toList = vs.drop k := by
  rw [kms_pick_eq]
  show kms_pick vs (some (k : Int)) none = _
  have h : ¬ ((k : Int) < 0) := by omega
  simp only [kms_pick, kms_lo, kms_hi, h, if_false, Int.toNat_natCast]
  by_cases hk : k ≤ vs.length
  · rw [Nat.min_eq_left hk, List.take_of_length_le (by simp)]
  · rw [Nat.min_eq_right (by omega), Nat.sub_self, List.take_zero, List.drop_eq_nil_of_le (by omega)]
theorem T_sum {ns : List Int} {Φ : Value → Map → Led → Prop} (C : Ctx w n A env g L) (hl : LL l a vs) (hi : IntsAre vs ns) (h : ∀ t, Φ (.int ns.sum t) m l) : Tri w A g L (call (.builtin "sum") [.ref a]) m l Φ :=
  fun s F N => sumK C.han F N (isList_of N hl) hi fun h' tk t' F' N' => ⟨h', tk, m, l, rfl, F', N', h _⟩
theorem T_min {x y : Int} {t u : Tok} {Φ : Value → Map → Led → Prop} (C : Ctx w n A env g L) (h : ∀ t, Φ (.int (if y < x then y else x) t) m l) : Tri w A g L (call (.builtin "min") [.int x t, .int y u]) m l Φ :=
  fun s F N => min_two_N C.han F N fun h' tk F' N' => ⟨h', tk, m, l, rfl, F', N', h _⟩
end
end Mine
end
section
open PySem PySem.W PySem.Calls PyProof.Rows PyProof.V PySem.Spec
namespace Mine

theorem fmod_bd {a b : Int} (hb : 0 < b) : 0 ≤ Int.fmod a b ∧ Int.fmod a b < b := by
  rw [Int.fmod_eq_emod_of_nonneg _ (by omega)]
  exact ⟨Int.emod_nonneg _ (by omega), Int.emod_lt_of_pos _ hb⟩
theorem pickH_ok {ns : List Int} {i : Nat} {c g lim : Int} (hi : i ≤ ns.length) (h0 : 0 ≤ g) (h1 : g < 2147483647) (hl : 0 < lim) :
    (pickH ns i c g lim).1 ≤ ns.length ∧ 0 ≤ (pickH ns i c g lim).2.2.1 ∧ (pickH ns i c g lim).2.2.1 < 2147483647 ∧ 0 ≤ (pickH ns i c g lim).2.2.2 ∧ (pickH ns i c g lim).2.2.2 < lim := by
  unfold pickH
  have f := fun a => fmod_bd (a := a) hl
  have f2 := fmod_bd (a := g * 48271) (b := 2147483647) (by decide)
  split
  · split
    · exact ⟨hi, f2.1, f2.2, (f _).1, (f _).2⟩
    · split
      · exact ⟨by dsimp only; omega, h0, h1, (f _).1, (f _).2⟩
      · exact ⟨by dsimp only; omega, h0, h1, (f _).1, (f _).2⟩
  · exact ⟨hi, h0, h1, (f _).1, (f _).2⟩

/-- the hand is in order -/
structure HI (ns : List Int) (i : Nat) (gd : Int) : Prop where
  i : i ≤ ns.length
  g0 : 0 ≤ gd
  g1 : gd < 2147483647
section
variable {w : World} {A : Around} {g : Heap} {L : Addr} {m : Map} {l l0 : Led} {n : Nat} {env : Env} {κ : Addr → Nat} {Z : Loc} {k : Nat} {S : LSt} {cvs : List Value} {ns : List Int}
theorem T_pickL {lim : Int} {t : Tok} {Φ : Value → Map → Led → Prop} (C : Ctx w 1 A env g L) (M : MS w cvs l0 l κ Z k S) (hI : IntsAre cvs ns) (hz : ns.length ≤ 63) (H : HI ns S.i S.gd) (hl : 0 < lim)
    (h : ∀ (d : Nat) t i' c' gd' l', (d : Int) < lim → MS w cvs l0 l' κ Z k { S with i := i', c := c', gd := gd' } → HI ns i' gd' → Sub [Z.hA] l l' → Φ (.int d t) m l') : Tri w A g L (call (.ref 335) [.ref Z.hA, .int lim t]) m l Φ := by
  refine T_spec C (pick_spec M.fH hI H.i hz H.g0 H.g1 hl) ?_
  rintro r l' ⟨⟨t8, rfl⟩, h'⟩
  obtain ⟨a1, a2, a3, a4, a5⟩ := pickH_ok (ns := ns) (i := S.i) (c := S.c) (g := S.gd) H.i H.g0 H.g1 hl
  obtain ⟨d, hd⟩ := Int.eq_ofNat_of_zero_le a4
  rw [hd] at a5 ⊢
  exact h d t8 _ _ _ l' a5 (M.setH h') ⟨a1, a2, a3⟩ h'.s
end

/-- the names of law's frame -/
structure NF (m : Map) (Z : Loc) (ab : Nat) (fr : Int) : Prop where
  areas : m (Str.ofString "areas") = some (.ref Z.a.ax)
  hand : m (Str.ofString "hand") = some (.ref Z.hA)
  made : m (Str.ofString "made") = some (.ref Z.mA)
  values : m (Str.ofString "values") = some (.ref Z.vA)
  points : m (Str.ofString "points") = some (.ref Z.pA)
  above : ∃ t, m (Str.ofString "above") = some (.int ab t)
  fresh : ∃ t, m (Str.ofString "fresh") = some (.int fr t)
/-- law between two turns, and within one -/
structure LW (w : World) (ns : List Int) (cvs : List Value) (L : Addr) (l0 : Led) (n : Nat) (m : Map) (l : Led) (κ : Addr → Nat) (Z : Loc) (hi : Nat) (hc gd : Int) (q : Snap) (j : List Cc) (ps : List Snap) (fr : Int) : Prop where
  ms : MS w cvs l0 l κ Z n ⟨hi, hc, gd, q.real j (hbOf ps) (bbOf ps), q.made, q.groups, q.val, ps⟩
  inv : Inv n q j ps fr
  hh : HI ns hi gd
  nf : NF m Z q.stack.length fr
  cG : Z.cG = L + 1
  cO : Z.cO = L + 1 + 1
  cJ : Z.cJ = L + 1 + 1 + 1
/-- what a turn keeps for its checks -/
structure Chk (m : Map) (l : Led) (T0 : Nat) (H0 B0 : Int) (tr : List Int) : Prop where
  td : ∃ t, m (Str.ofString "trailed") = some (.int T0 t)
  li : ∃ b t u, m (Str.ofString "limits") = some (.ref b) ∧ TT l b [.int H0 t, .int B0 u]
  ok : ∀ e ∈ tr.drop T0, e < H0 ∧ -1 - e < B0
theorem Inv.sz {n : Nat} {q : Snap} {j : List Cc} {ps : List Snap} {fr : Int} (I : Inv n q j ps fr) (hn : n ≤ 200) {h b : Int} : Sz (q.real j h b) := by
  obtain ⟨a, b, c, d, e, s1, s2, s3, s4, s5⟩ := I
  exact ⟨by show q.heap.length < _; omega, by show (q.stack ++ j).length < _; rw [List.length_append]; omega, by show q.trail.length < _; omega⟩

/-- tags that stand, of objects that stand -/
noncomputable def Tg (l : Led) (κ : Addr → Nat) (xs : List (Addr × Nat)) : Prop := ∀ p ∈ xs, κ p.1 = p.2 ∧ ∃ o, (p.1, o) ∈ l
theorem Tg.at {l : Led} {κ : Addr → Nat} {xs : List (Addr × Nat)} {x : Addr} {i : Nat} (h : Tg l κ xs) (hm : (x, i) ∈ xs) : κ x = i := (h _ hm).1
theorem Tg.ne {l : Led} {κ : Addr → Nat} {xs : List (Addr × Nat)} {b : Addr} (h : Tg l κ xs) (n : New l b) : ∀ p ∈ xs, p.1 ≠ b := fun p hp => let ⟨_, q⟩ := (h p hp).2; n _ q
theorem Tg.sub0 {l l' : Led} {κ : Addr → Nat} {xs : List (Addr × Nat)} (h : Tg l κ xs) (s : Sub [] l l') : Tg l' κ xs := fun p hp => ⟨(h p hp).1, let ⟨o, q⟩ := (h p hp).2; ⟨o, s _ q (.inr (by simp))⟩⟩
theorem Tg.sub1 {l l' : Led} {κ : Addr → Nat} {xs : List (Addr × Nat)} {c : Addr} (h : Tg l κ xs) (s : Sub [c] l l') (hc : ∃ o, (c, o) ∈ l') : Tg l' κ xs := fun p hp => ⟨(h p hp).1, by
  by_cases e : p.1 = c
  · rw [e]; exact hc
  · obtain ⟨o, q⟩ := (h p hp).2
    exact ⟨o, s _ q (.inr (by simpa using e))⟩⟩
theorem Tg.add {l : Led} {κ : Addr → Nat} {xs : List (Addr × Nat)} {b : Addr} {t : Nat} (h : Tg l κ xs) (n : ∀ p ∈ xs, p.1 ≠ b) (hb : ∃ o, (b, o) ∈ l) : Tg l (tagU κ b t) ((b, t) :: xs) := fun p hp => by
  rcases List.mem_cons.mp hp with rfl | hp
  · exact ⟨if_pos rfl, hb⟩
  · exact ⟨(if_neg (n p hp)).trans (h p hp).1, (h p hp).2⟩
theorem LL.in {l : Led} {a : Addr} {vs : List Value} (h : LL l a vs) : ∃ o, (a, o) ∈ l := let ⟨_, q⟩ := h; ⟨_, q⟩
theorem CE.in {l : Led} {a : Addr} {v : Option Value} (h : CE l a v) : ∃ o, (a, o) ∈ l := let ⟨o, q, _⟩ := h; ⟨o, q⟩
theorem LW.stay {w : World} {ns : List Int} {cvs : List Value} {L : Addr} {l0 : Led} {n : Nat} {m : Map} {l l' : Led} {κ : Addr → Nat} {Z : Loc} {hi : Nat} {hc gd : Int} {q : Snap} {j : List Cc} {ps : List Snap} {fr : Int}
    (h : LW w ns cvs L l0 n m l κ Z hi hc gd q j ps fr) (s : Sub [] (noIt l) l') : LW w ns cvs L [] n m l' κ Z hi hc gd q j ps fr := ⟨h.ms.no.sub0 s, h.inv, h.hh, h.nf, h.cG, h.cO, h.cJ⟩
theorem LW.start {w : World} {ns : List Int} {cvs : List Value} {L : Addr} {l0 : Led} {n : Nat} {m : Map} {l : Led} {κ : Addr → Nat} {Z : Loc} {hi : Nat} {hc gd : Int} {q : Snap} {j : List Cc} {ps : List Snap} {fr : Int}
    (h : LW w ns cvs L l0 n m l κ Z hi hc gd q j ps fr) : LW w ns cvs L l n m l κ Z hi hc gd q j ps fr := ⟨h.ms.start, h.inv, h.hh, h.nf, h.cG, h.cO, h.cJ⟩
noncomputable def κ0 (L : Nat) : Addr → Nat := fun x => if (x : Nat) = L + 1 then 10 else if (x : Nat) = L + 1 + 1 then 11 else 12
theorem κ0_1 (L : Nat) : κ0 L (L + 1 : Nat) = 10 := if_pos rfl
theorem κ0_2 (L : Nat) : κ0 L (L + 1 + 1 : Nat) = 11 := by
  have h : ¬ ((L + 1 + 1 : Nat) = L + 1) := by omega
  unfold κ0
  rw [if_neg h, if_pos rfl]
theorem κ0_3 (L : Nat) : κ0 L (L + 1 + 1 + 1 : Nat) = 12 := by
  have h : ¬ ((L + 1 + 1 + 1 : Nat) = L + 1) := by omega
  have h' : ¬ ((L + 1 + 1 + 1 : Nat) = L + 1 + 1) := by omega
  unfold κ0
  rw [if_neg h, if_neg h']

-- parts of law's text
noncomputable def thenB : Stmt → List Stmt
  | .If _ b _ _ => b
  | _ => []
noncomputable def elseB : Stmt → List Stmt
  | .If _ _ b _ => b
  | _ => []
noncomputable def forB : Stmt → List Stmt
  | .For _ _ b _ _ => b
  | _ => []
noncomputable def hd1 : List Stmt → List Stmt
  | a :: _ => [a]
  | [] => []
noncomputable def tl1 : List Stmt → List Stmt
  | _ :: r => r
  | [] => []
noncomputable def the1 : (Stmt → List Stmt) → List Stmt → List Stmt
  | f, a :: _ => f a
  | _, [] => []
noncomputable abbrev tl4 (b : List Stmt) : List Stmt := tl1 (tl1 (tl1 (tl1 b)))
/-- the body of law's loop -/
noncomputable abbrev turnOf (b : List Stmt) : List Stmt := the1 forB (tl1 (tl4 (tl4 b)))
/-- the deeds' chain -/
noncomputable abbrev chainOf (b : List Stmt) : List Stmt := tl4 (turnOf b)

/-- behind a deed -/
noncomputable def Mid (w : World) (ns : List Int) (cvs : List Value) (L : Addr) (l0 : Led) (n : Nat) (dd : Int) (T0 : Nat) (H0 B0 : Int) (m : Map) (l : Led) : Prop :=
  ∃ κ Z hi hc gd q j ps fr, LW w ns cvs L l0 n m l κ Z hi hc gd q j ps fr ∧ Chk m l T0 H0 B0 q.trail ∧ ∃ t, m (Str.ofString "deed") = some (.int dd t)
theorem drop_self {α : Type} (xs : List α) {P : α → Prop} : ∀ e ∈ xs.drop xs.length, P e := by simp
theorem Chk.sub {m m' : Map} {D : List Addr} {l l' : Led} {T0 : Nat} {H0 B0 : Int} {tr tr' : List Int} (h : Chk m l T0 H0 B0 tr) (s : Sub D l l') (e1 : m' (Str.ofString "trailed") = m (Str.ofString "trailed")) (e2 : m' (Str.ofString "limits") = m (Str.ofString "limits")) (ok : ∀ e ∈ tr'.drop T0, e < H0 ∧ -1 - e < B0) : Chk m' l' T0 H0 B0 tr' := by
  obtain ⟨⟨t, a⟩, ⟨b, t1, u1, c, d⟩, _⟩ := h
  exact ⟨⟨t, e1.trans a⟩, ⟨b, t1, u1, e2.trans c, d.sub s⟩, ok⟩
theorem Chk.step {m : Map} {D : List Addr} {l l' : Led} {T0 : Nat} {H0 B0 : Int} {tr : List Int} (h : Chk m l T0 H0 B0 tr) (s : Sub D l l') : Chk m l' T0 H0 B0 tr := h.sub s rfl rfl h.ok
theorem Chk.fin {m m' : Map} {l : Led} {T0 : Nat} {H0 B0 : Int} {tr tr' : List Int} (h : Chk m l T0 H0 B0 tr) (e1 : m' (Str.ofString "trailed") = m (Str.ofString "trailed")) (e2 : m' (Str.ofString "limits") = m (Str.ofString "limits")) (ok : ∀ e ∈ tr'.drop T0, e < H0 ∧ -1 - e < B0) : Chk m' l T0 H0 B0 tr' := h.sub (D := []) Sub.refl e1 e2 ok
end Mine
end
section
open PySem PySem.W PySem.Calls PyProof.Rows PyProof.V PySem.Spec
namespace Mine
theorem slice_ints_upto' {vs : List Value} {ns : List Int} (h : IntsAre vs ns) : IntsAre (vs.take 63) (ns.take 63) := by
  have := slice_ints_uptoW h (y := 63) (by decide)
  rw [show (63 : Int) = ((63 : Nat) : Int) from rfl, pick_take] at this
  exact this
section
variable {w : World} {A : Around} {g : Heap} {L : Addr} {m : Map} {l : Led} {n : Nat} {env : Env}
theorem T_sliceB {value slice : Expr} {a b : Addr} {vs : List Value} {vl vu : Value} {lo hi : Option Int} {Φ : Value → Map → Led → Prop} (hl : g.IsList a vs.toArray) (hb : SL l b vl vu) (pl : IsPart vl lo) (pu : IsPart vu hi) (hz : vs.length ≤ sizeLine)
    (h : ∀ c l', LL l' c (slicePick vs.toArray lo hi none).toList → Sub [] l l' → New l c → Φ (.ref c) m l')
    (hs : subscripted slice false (.ref a) (.ref b) = operate [.ref b, .ref a] (getItem (.ref a) (.ref b)) := by with_unfolding_all rfl)
    (ht : ∀ r, letTemporaryGo value (.ref a) r = pure () := by intro _; with_unfolding_all rfl) : Tri w A g L (subscriptTail value slice (.ref a) (.ref b)) m l Φ :=
  fun s F N => by
    have hl' : s.heap.IsList a vs.toArray := hl.at fun o e => F.keep _ _ e
    exact subscriptTail_ops hl'.typeIs list_getitem_lookup
      (wpAny_getItem_list_slice hl' ⟨_, (N _ hb).1, rfl, rfl⟩ pl pu .none (by simp) ⟨_, _, m, _, rfl, F.push _, N.push F _, h _ _ ⟨0, by simp [lstO]⟩ (fun p hp _ => .tail _ hp) fun p hp => Nat.ne_of_lt (Heap.lt_size (N p hp).1)⟩ (by rw [List.size_toArray]; exact hz)) hs ht
end
theorem body_of {w : World} {f : Addr} {P : Prop} {oc : Value} {od : Option Addr} {name qual : Str} {params : Arguments} {body : List Stmt} {scope : Scope} {dV kV doc pm cdv ct : Value} {an : Option Addr} {osl : Array (Option Value)}
    {oc' : Value} {od' : Option Addr} {name' qual' : Str} {params' : Arguments} {body' : List Stmt} {scope' : Scope} {dV' kV' doc' pm' cdv' ct' : Value} {an' : Option Addr} {osl' : Array (Option Value)}
    (ho : (hd.heap_39 w.params).lookup f = some ⟨oc, od, .func (fnOf name qual params body scope dV kV doc pm an cdv ct), osl⟩)
    (e : (hd.heap_39 w.params).lookup f = some ⟨oc', od', .func (fnOf name' qual' params' body' scope' dV' kV' doc' pm' an' cdv' ct'), osl'⟩) (h : qual' = qual → body' = body → scope' = scope → P) : P := by
  rw [e] at ho
  simp only [Option.some.injEq, Obj.mk.injEq, Data.func.injEq, fnOf, FuncData.mk.injEq, FuncBody.stmts.injEq] at ho
  obtain ⟨_, _, ⟨_, hq, _, hb, hsc, _⟩, _⟩ := ho
  exact h hq hb hsc

section
variable {w : World} {A : Around} {g : Heap} {L : Addr} {m : Map} {l : Led} {n : Nat} {env : Env}
theorem T_exprR {e : Expr} {pos : Pos} {Φ : Flow → Map → Led → Prop} (h : Tri w A g L (eval e env) m l (fun _ m' l' => Φ .next m' l'))
    (hi : interactive env = false := by rfl) (hs : swapsWith e none pos.line env = pure false := by rfl) : Tri w A g L (exec (.Expr e pos) env) m l Φ :=
  fun s F N => PySem.wpAny_Expr_any (hi := hi) (hs := hs) (h.go F N fun v h' tk' m' l' F' N' p => ⟨h', tk', m', l', rfl, F', N', p⟩)
theorem Ite_b {b : Bool} {P Q : Prop} (h1 : b = true → P) (h2 : b = false → Q) : if b = true then P else Q := by
  cases b
  · simp; exact h2 rfl
  · simp; exact h1 rfl
theorem fin_next {t : Sem Flow} {P : Map → Led → Prop} {X : Flow → Map → Led → Prop} (h : Tri w A g L t m l (fun f m' l' => f = .next ∧ P m' l')) (k : ∀ m' l', P m' l' → X .next m' l') : Tri w A g L t m l X :=
  h.mono fun _ m' l' ⟨e, z⟩ => by subst e; exact k m' l' z
theorem seq_end {env : Env} {Φ : Flow → Map → Led → Prop} (h : Φ .next m l) : SeqP w A g L env [] Φ .next m l := T_nil h
end
end Mine
end
section
open PySem PySem.W PySem.Calls PyProof.Rows PyProof.V PySem.Spec
namespace Mine
theorem fillK_deed0 : PySem.Challenge.rw_no0163_01.prog = PySem.Challenge.rw_no0163_01.prog ∧ (∀ w : World, (hd.heap_39 w.params) = hd.heap_39 w.params) := by
  k_fill
  exact ⟨rfl, fun _ => rfl⟩

theorem deed0 {w : World} {oc : Value} {od : Option Addr} {name qual : Str} {params : Arguments} {body : List Stmt} {scope : Scope} {dV kV doc pm cdv ct : Value} {an : Option Addr} {osl : Array (Option Value)}
    (ho : (hd.heap_39 w.params).lookup 352 = some ⟨oc, od, .func (fnOf name qual params body scope dV kV doc pm an cdv ct), osl⟩)
    {A : Around} {g : Heap} {L f : Addr} {cdv' : Value} {m : Map} {l l0 : Led} {tb : List Stmt} {n : Nat} {dd : Int} {κ : Addr → Nat} {Z : Loc} {hi : Nat} {hc gd : Int} {q : Snap} {j : List Cc} {ps : List Snap} {fr : Int} {ns : List Int} {cvs : List Value} (C : Ctx w 8 A (envOfC qual scope L f cdv') g L)
    (hI : IntsAre cvs ns) (hns : ns.length ≤ 63) (hn : n ≤ 26) (W : LW w ns cvs L l0 n m l κ Z hi hc gd q j ps fr) (K : Chk m l q.trail.length (hbOf ps) (bbOf ps) q.trail) (hd : ∃ t, m (Str.ofString "deed") = some (.int dd t))
    (htb : the1 thenB (chainOf body) = tb) : Tri w A g L (execs tb (envOfC qual scope L f cdv')) m l (fun f m' l' => f = .next ∧ Mid w ns cvs L l0 (n + 1) dd q.trail.length (hbOf ps) (bbOf ps) m' l') := by
  refine body_of ho (by k_is) ?_
  intro hq hb hsc
  subst hq hb hsc
  simp only [chainOf, turnOf, tl4, tl1, the1, forB, thenB, elseB] at htb
  subst htb
  have C1 : Ctx w 1 A _ g L := C.down (by omega)
  have C2 : Ctx w 2 A _ g L := C.down (by omega)
  have C3 : Ctx w 3 A _ g L := C.down (by omega)
  obtain ⟨M, I, H, NN, eG, eO, eJ⟩ := W
  obtain ⟨nf1, nf2, nf3, nf4, nf5, ⟨ta, nf6⟩, ⟨tf, nf7⟩⟩ := NN
  obtain ⟨td, hd⟩ := hd
  have SZ := I.sz (h := hbOf ps) (b := bbOf ps) (by omega)
  have hml : q.made.length ≤ 26 := by have := I.s4; omega
  obtain ⟨mvs, hm, hmc⟩ := M.fM
  have H0 := M.fA
  repeat' (first | walk_at "m" | (with_reducible refine T_appM hm ?_) | walk_at "a")
  refine T_spec C2 (newvar_spec H0 SZ) ?_
  rintro r l1 ⟨hr, H1, s1⟩
  have M1 := M.setA H1 s1
  obtain ⟨mvs1, hm1, hmc1⟩ := M1.fM
  repeat' (first | walk_at "m" | walk_at "a")
  refine T_append hm1 (by rw [hmc1.len, sizeLine_eq]; show q.made.length ≤ _; omega) fun l2 hm2 s2 => ?_
  have M2 := M1.setM (made' := q.made ++ [(0, (q.heap.length : Int))]) ⟨_, hm2, (hmc1.app (.cons hr .nil)).sub s2⟩ s2
  repeat' (first | walk_at "m" | walk_at "a")
  refine T_nameE C M2.fE ?_ (by rw [eG]; rfl)
  obtain ⟨gvs, hg, hgi⟩ := M2.fG
  refine T_appM hg ?_
  repeat' (first | walk_at "m" | walk_at "a")
  refine T_append hg (by rw [hgi.length, sizeLine_eq]; show q.groups.length ≤ _; rw [I.gc.ln]; omega) fun l3 hg3 s3 => ?_
  have M3 := M2.setG (groups' := q.groups ++ [fr]) ⟨_, hg3, hgi.append (.cons _ _ .nil)⟩ s3
  repeat' (first | walk_at "m" | walk_at "a")
  have K3 := ((K.step s1).step s2).step s3
  exact ⟨rfl, _, _, _, _, _, _, _, _, _, ⟨M3.up (Nat.le_succ n), I.newH, H, ⟨nf1, nf2, nf3, nf4, nf5, ⟨_, nf6⟩, ⟨_, rfl⟩⟩, eG, eO, eJ⟩, K3.fin rfl rfl K.ok, _, hd⟩
end Mine
end
section
open PySem PySem.W PySem.Calls PyProof.Rows PyProof.V PySem.Spec
namespace Mine
theorem fillK_deed1 : PySem.Challenge.rw_no0163_01.prog = PySem.Challenge.rw_no0163_01.prog ∧ (∀ w : World, (hd.heap_39 w.params) = hd.heap_39 w.params) := by
  k_fill
  exact ⟨rfl, fun _ => rfl⟩

theorem deed1 {w : World} {oc : Value} {od : Option Addr} {name qual : Str} {params : Arguments} {body : List Stmt} {scope : Scope} {dV kV doc pm cdv ct : Value} {an : Option Addr} {osl : Array (Option Value)}
    (ho : (hd.heap_39 w.params).lookup 352 = some ⟨oc, od, .func (fnOf name qual params body scope dV kV doc pm an cdv ct), osl⟩)
    {A : Around} {g : Heap} {L f : Addr} {cdv' : Value} {m : Map} {l l0 : Led} {tb : List Stmt} {n : Nat} {dd : Int} {κ : Addr → Nat} {Z : Loc} {hi : Nat} {hc gd : Int} {q : Snap} {j : List Cc} {ps : List Snap} {fr : Int} {ns : List Int} {cvs : List Value} (C : Ctx w 8 A (envOfC qual scope L f cdv') g L)
    (hI : IntsAre cvs ns) (hns : ns.length ≤ 63) (hn : n ≤ 26) (W : LW w ns cvs L l0 n m l κ Z hi hc gd q j ps fr) (K : Chk m l q.trail.length (hbOf ps) (bbOf ps) q.trail) (hd : ∃ t, m (Str.ofString "deed") = some (.int dd t))
    (htb : the1 thenB (the1 elseB (chainOf body)) = tb) : Tri w A g L (execs tb (envOfC qual scope L f cdv')) m l (fun f m' l' => f = .next ∧ Mid w ns cvs L l0 (n + 1) dd q.trail.length (hbOf ps) (bbOf ps) m' l') := by
  refine body_of ho (by k_is) ?_
  intro hq hb hsc
  subst hq hb hsc
  simp only [chainOf, turnOf, tl4, tl1, the1, forB, thenB, elseB] at htb
  subst htb
  have C1 : Ctx w 1 A _ g L := C.down (by omega)
  have C2 : Ctx w 2 A _ g L := C.down (by omega)
  have C3 : Ctx w 3 A _ g L := C.down (by omega)
  obtain ⟨M, I, H, NN, eG, eO, eJ⟩ := W
  obtain ⟨nf1, nf2, nf3, nf4, nf5, ⟨ta, nf6⟩, ⟨tf, nf7⟩⟩ := NN
  obtain ⟨td, hd⟩ := hd
  have SZ := I.sz (h := hbOf ps) (b := bbOf ps) (by omega)
  have hml : q.made.length ≤ 26 := by have := I.s4; omega
  have H0 := M.fA
  repeat' (first | walk_at "m" | walk_at "a")
  refine C_new ?_
  rintro v l1 hv s1 _
  have M1 := M.sub0 s1
  have H1 := M1.fA
  repeat' (first | walk_at "m" | walk_at "a")
  refine T_spec C1 (put_spec H1 SZ hv (i := q.stack.length) (by simp)) ?_
  rintro _ l2 ⟨rfl, H2, s2⟩
  have M2 := M1.setA H2 s2
  repeat' (first | walk_at "m" | walk_at "a")
  obtain ⟨mvs, hm, hmc⟩ := M2.fM
  refine T_appM hm ?_
  repeat' (first | walk_at "m" | walk_at "a")
  refine C_new ?_
  rintro v3 l3 hv3 s3 _
  have M3 := M2.sub0 s3
  repeat' (first | walk_at "m" | walk_at "a")
  refine T_append (hm.sub s3 (by simp)) (by rw [hmc.len, sizeLine_eq]; show q.made.length ≤ _; omega) fun l4 hm4 s4 => ?_
  have M4 := M3.setM (made' := q.made ++ [(1, (q.stack.length : Int))]) ⟨_, hm4, ((hmc.sub s3).app (.cons hv3 .nil)).sub s4⟩ s4
  repeat' (first | walk_at "m" | walk_at "a")
  refine T_nameE C M4.fE ?_ (by rw [eG]; rfl)
  obtain ⟨gvs, hg, hgi⟩ := M4.fG
  refine T_appM hg ?_
  repeat' (first | walk_at "m" | walk_at "a")
  refine T_append hg (by rw [hgi.length, sizeLine_eq]; show q.groups.length ≤ _; rw [I.gc.ln]; omega) fun l5 hg5 s5 => ?_
  have M5 := M4.setG (groups' := q.groups ++ [fr]) ⟨_, hg5, hgi.append (.cons _ _ .nil)⟩ s5
  repeat' (first | walk_at "m" | walk_at "a")
  have K5 := ((((K.step s1).step s2).step s3).step s4).step s5
  have e := put_eq (st := q.stack) (j := j)
  have M6 : MS w cvs l0 l5 κ Z (n + 1) ⟨hi, hc, gd, Snap.real (Snap.mk q.heap (q.stack ++ [(1, (q.stack.length : Int))]) q.trail (q.made ++ [(1, (q.stack.length : Int))]) (q.groups ++ [fr]) q.val) j.tail (hbOf ps) (bbOf ps), q.made ++ [(1, (q.stack.length : Int))], q.groups ++ [fr], q.val, ps⟩ := by
    have M5' := M5.up (Nat.le_succ n)
    show MS w cvs l0 l5 κ Z (n + 1) ⟨hi, hc, gd, ⟨q.heap, (q.stack ++ [(1, (q.stack.length : Int))]) ++ j.tail, q.trail, hbOf ps, bbOf ps⟩, q.made ++ [(1, (q.stack.length : Int))], q.groups ++ [fr], q.val, ps⟩
    rw [← e]
    exact M5'
  have ea : ((q.stack.length : Int) + 1) = (((q.stack ++ [((1 : Int), (q.stack.length : Int))]).length : Nat) : Int) := by simp
  exact ⟨rfl, _, _, _, _, _, _, _, _, _, ⟨M6, I.newS, H, ⟨nf1, nf2, nf3, nf4, nf5, ⟨_, congrArg (fun x => some (Value.int x _)) ea⟩, ⟨_, rfl⟩⟩, eG, eO, eJ⟩, K5.fin rfl rfl K.ok, _, hd⟩
end Mine
end
section
open PySem PySem.W PySem.Calls PyProof.Rows PyProof.V PySem.Spec
namespace Mine
theorem fillK_deed2 : PySem.Challenge.rw_no0163_01.prog = PySem.Challenge.rw_no0163_01.prog ∧ (∀ w : World, (hd.heap_39 w.params) = hd.heap_39 w.params) := by
  k_fill
  exact ⟨rfl, fun _ => rfl⟩

theorem ints_of : ∀ {ys : List Value} {ns : List Int}, ys.length = ns.length → (∀ i, i < ns.length → ∃ t, ys[i]? = some (.int (ns.getD i 0) t)) → IntsAre ys ns
  | [], [], _, _ => .nil
  | [], _ :: _, h, _ => by simp at h
  | _ :: _, [], h, _ => by simp at h
  | y :: ys, n :: ns, h, k => by
    obtain ⟨t, e⟩ := k 0 (by simp)
    have e' : y = .int n t := by simpa using e
    rw [e']
    refine .cons _ _ (ints_of (by simpa using h) fun i hi => ?_)
    obtain ⟨u, e2⟩ := k (i + 1) (by simpa using hi)
    exact ⟨u, by simpa using e2⟩
theorem Inv.merge {n : Nat} {q : Snap} {j : List Cc} {ps : List Snap} {fr : Int} (I : Inv n q j ps fr) {i k : Nat} (hi : i < q.made.length) (hk : k < q.made.length) (vi : q.val (q.groups.getD i 0) = none) (vk : q.val (q.groups.getD k 0) = none)
    (ti : (dr q.sig (q.made.getD i (5, 0))).1 = 0 ∨ (dr q.sig (q.made.getD i (5, 0))).1 = 1) (tk : (dr q.sig (q.made.getD k (5, 0))).1 = 0 ∨ (dr q.sig (q.made.getD k (5, 0))).1 = 1) :
    ∃ q', bindP (q.real j (hbOf ps) (bbOf ps)) (dr q.sig (q.made.getD i (5, 0))) (dr q.sig (q.made.getD k (5, 0))) = q'.real j (hbOf ps) (bbOf ps) ∧ q'.made = q.made ∧ q'.groups = q.groups.map (γm (q.groups.getD i 0) (q.groups.getD k 0)) ∧ q'.val = q.val ∧
      q'.stack.length = q.stack.length ∧ Inv (n + 1) q' j ps fr ∧ ∀ e ∈ q'.trail.drop q.trail.length, e < hbOf ps ∧ -1 - e < bbOf ps := by
  obtain ⟨a1, a2, _⟩ := I.gc.see hi
  obtain ⟨b1, b2, _⟩ := I.gc.see hk
  by_cases heq : dr q.sig (q.made.getD i (5, 0)) = dr q.sig (q.made.getD k (5, 0))
  · refine ⟨q, ?_, rfl, (I.gc.merge0 hi hk vi vk heq).symm, rfl, rfl, I.up (Nat.le_succ n), drop_self _⟩
    show (if _ then _ else _) = _
    rw [if_pos heq]
  · obtain ⟨x, y, B, hxy, hP⟩ := pair_bindable a1 ti a2 b1 tk b2 heq
    have G := I.gc.merge (hb := hbOf ps) (bb := bbOf ps) hi hk vi vk B hxy
    refine ⟨Snap.mk (bindQ q (hbOf ps) (bbOf ps) x y).heap (bindQ q (hbOf ps) (bbOf ps) x y).stack (bindQ q (hbOf ps) (bbOf ps) x y).trail q.made (q.groups.map (γm (q.groups.getD i 0) (q.groups.getD k 0))) q.val, ?_, rfl, rfl, rfl, bindQ_sizes.2.1, I.bind B G rfl rfl rfl rfl, bind_trail B (hbOf_nn ps) (bbOf_nn ps)⟩
    rw [hP]
    exact bindS_real B.ok B.tag
theorem Inv.setv {n : Nat} {q : Snap} {j : List Cc} {ps : List Snap} {fr : Int} (I : Inv n q j ps fr) {i : Nat} {v : Int} (hi : i < q.made.length) (vi : q.val (q.groups.getD i 0) = none) (ti : (dr q.sig (q.made.getD i (5, 0))).1 = 0 ∨ (dr q.sig (q.made.getD i (5, 0))).1 = 1) :
    ∃ q', bindS (q.real j (hbOf ps) (bbOf ps)) (dr q.sig (q.made.getD i (5, 0))) (5, v) = q'.real j (hbOf ps) (bbOf ps) ∧ q'.made = q.made ∧ q'.groups = q.groups ∧ q'.val = (fun k => if k = q.groups.getD i 0 then some v else q.val k) ∧
      q'.stack.length = q.stack.length ∧ Inv (n + 1) q' j ps fr ∧ ∀ e ∈ q'.trail.drop q.trail.length, e < hbOf ps ∧ -1 - e < bbOf ps := by
  obtain ⟨a1, a2, _⟩ := I.gc.see hi
  have B := bindable_const (v := v) a1 ti a2
  have G := I.gc.setv (hb := hbOf ps) (bb := bbOf ps) (v := v) hi vi
  exact ⟨Snap.mk (bindQ q (hbOf ps) (bbOf ps) (dr q.sig (q.made.getD i (5, 0))) (5, v)).heap (bindQ q (hbOf ps) (bbOf ps) (dr q.sig (q.made.getD i (5, 0))) (5, v)).stack (bindQ q (hbOf ps) (bbOf ps) (dr q.sig (q.made.getD i (5, 0))) (5, v)).trail q.made q.groups (fun k => if k = q.groups.getD i 0 then some v else q.val k), bindS_real a1 ti, rfl, rfl, rfl, bindQ_sizes.2.1, I.bind B G rfl rfl rfl rfl, bind_trail B (hbOf_nn ps) (bbOf_nn ps)⟩
theorem CE.inc {l l' : Led} {c : Addr} {v : Option Value} (h : CE l c v) (s : ∀ p ∈ l, p ∈ l') : CE l' c v := let ⟨o, a, b⟩ := h; ⟨o, s _ a, b⟩
theorem LL.inc {l l' : Led} {c : Addr} {vs : List Value} (h : LL l c vs) (s : ∀ p ∈ l, p ∈ l') : LL l' c vs := h.imp fun _ q => s _ q
theorem deed2 {w : World} {oc : Value} {od : Option Addr} {name qual : Str} {params : Arguments} {body : List Stmt} {scope : Scope} {dV kV doc pm cdv ct : Value} {an : Option Addr} {osl : Array (Option Value)}
    (ho : (hd.heap_39 w.params).lookup 352 = some ⟨oc, od, .func (fnOf name qual params body scope dV kV doc pm an cdv ct), osl⟩)
    {A : Around} {g : Heap} {L f : Addr} {cdv' : Value} {m : Map} {l l0 : Led} {tb : List Stmt} {n : Nat} {dd : Int} {κ : Addr → Nat} {Z : Loc} {hi : Nat} {hc gd : Int} {q : Snap} {j : List Cc} {ps : List Snap} {fr : Int} {ns : List Int} {cvs : List Value} (C : Ctx w 8 A (envOfC qual scope L f cdv') g L)
    (hI : IntsAre cvs ns) (hns : ns.length ≤ 63) (hn : n ≤ 26) (W : LW w ns cvs L l0 n m l κ Z hi hc gd q j ps fr) (K : Chk m l q.trail.length (hbOf ps) (bbOf ps) q.trail) (hd : ∃ t, m (Str.ofString "deed") = some (.int dd t))
    (hne : 0 < q.made.length)
    (htb : the1 thenB (the1 elseB (the1 elseB (chainOf body))) = tb) : Tri w A g L (execs tb (envOfC qual scope L f cdv')) m l (fun f m' l' => f = .next ∧ Mid w ns cvs L l0 (n + 1) dd q.trail.length (hbOf ps) (bbOf ps) m' l') := by
  refine body_of ho (by k_is) ?_
  intro hq hb hsc
  subst hq hb hsc
  simp only [chainOf, turnOf, tl4, tl1, the1, forB, thenB, elseB] at htb
  subst htb
  have C1 : Ctx w 1 A _ g L := C.down (by omega)
  have C2 : Ctx w 2 A _ g L := C.down (by omega)
  have C3 : Ctx w 3 A _ g L := C.down (by omega)
  obtain ⟨M, I, H, NN, eG, eO, eJ⟩ := W
  obtain ⟨nf1, nf2, nf3, nf4, nf5, ⟨ta, nf6⟩, ⟨tf, nf7⟩⟩ := NN
  obtain ⟨td, hd⟩ := hd
  have SZ := I.sz (h := hbOf ps) (b := bbOf ps) (by omega)
  have hml : q.made.length ≤ 26 := by have := I.s4; omega
  obtain ⟨mvs, hm, hmc⟩ := M.fM
  repeat' (first | walk_at "m" | walk_at "a")
  refine T_lenC hm hmc (by show q.made.length < _; omega) fun t1 => ?_
  repeat' (first | walk_at "m" | walk_at "a")
  refine T_pickL C1 M hI hns H (by show (0 : Int) < (q.made.length : Nat); omega) fun one t2 hi1 hc1 gd1 l1 h1 M1 H1 s1 => ?_
  have h1' : one < q.made.length := by have : (one : Int) < (q.made.length : Nat) := h1; omega
  obtain ⟨vo, hO⟩ := M1.fO
  refine T_storeE C hO (fun l2 hO2 s2 => ?_) (by rw [eO]; rfl) (by rfl)
  have M2 := M1.setO hO2 s2
  obtain ⟨mvs2, hm2, hmc2⟩ := M2.fM
  repeat' (first | walk_at "m" | walk_at "a")
  refine T_lenC hm2 hmc2 (by show q.made.length < _; omega) fun t3 => ?_
  repeat' (first | walk_at "m" | walk_at "a")
  refine T_pickL C1 M2 hI hns H1 (by show (0 : Int) < (q.made.length : Nat); omega) fun two t4 hi3 hc3 gd3 l3 h3 M3 H3 s3 => ?_
  have h2' : two < q.made.length := by have : (two : Int) < (q.made.length : Nat) := h3; omega
  have hO3 := hO2.sub s3 (tne M2.t11 M2.t0 (by decide))
  obtain ⟨mvs3, hm3, hmc3⟩ := M3.fM
  have G3 := M3.fA
  clear M M1 M2 hm hmc hm2 hmc2 hO hO2
  have okm1 : OkC q.sig (q.made.getD one (5, 0)) := I.gc.md _ (getD_mem h1')
  have okm2 : OkC q.sig (q.made.getD two (5, 0)) := I.gc.md _ (getD_mem h2')
  repeat' (first | walk_at "m" | walk_at "a")
  refine T_nameE C hO3 ?_ (by rw [eO]; rfl)
  refine T_itemCN hm3 hmc3 h1' (by show q.made.length < _; omega) fun v1 hv1 => ?_
  repeat' (first | walk_at "m" | walk_at "a")
  refine T_spec C1 (deref_spec G3 SZ (real_down I.gc.sh) hv1 okm1) ?_
  rintro r1 _ ⟨rfl, hr1⟩
  rw [show dr _ _ = _ from real_dr I.gc.sh okm1] at hr1
  repeat' (first | walk_at "m" | walk_at "a")
  refine T_itemCN hm3 hmc3 h2' (by show q.made.length < _; omega) fun v2 hv2 => ?_
  repeat' (first | walk_at "m" | walk_at "a")
  refine T_spec C1 (deref_spec G3 SZ (real_down I.gc.sh) hv2 okm2) ?_
  rintro r2 _ ⟨rfl, hr2⟩
  rw [show dr _ _ = _ from real_dr I.gc.sh okm2] at hr2
  obtain ⟨ok1, rt1, sv1⟩ := I.gc.see h1'
  obtain ⟨ok2, rt2, sv2⟩ := I.gc.see h2'
  have u1 := unb_spec (w := w) G3 SZ hr1 (real_ok ok1)
  have u2 := unb_spec (w := w) G3 SZ hr2 (real_ok ok2)
  have ut : ∀ {c : Cc}, OkC q.sig c → (c.1 = 0 ∨ c.1 = 1) → look q.sig c = c → decide ((c.1 = 0 ∨ c.1 = 1) ∧ look (q.real j (hbOf ps) (bbOf ps)) c = c) = true := fun ok tg rt => decide_eq_true ⟨tg, (real_look ok).trans rt⟩
  have uf : ∀ {v : Int}, decide ((((5 : Int), v).1 = 0 ∨ ((5 : Int), v).1 = 1) ∧ look (q.real j (hbOf ps) (bbOf ps)) (5, v) = (5, v)) = false := fun {v} => decide_eq_false fun z => by rcases z.1 with w | w <;> simp at w
  have hgl : q.groups.length = q.made.length := I.gc.ln
  have K3 := ((K.step s1).step s2).step s3
  have K3ok := K.ok
  repeat' (first | walk_at "m" | walk_at "a")
  refine T_spec C1 u1 ?_
  rintro _ _ ⟨rfl, rfl⟩
  rcases sv1 with ⟨tg1, vn1⟩ | ⟨x1, vs1, e1⟩
  · rw [show decide _ = true from ut ok1 tg1 rt1]
    repeat' (first | walk_at "m" | walk_at "a")
    refine T_spec C1 u2 ?_
    rintro _ _ ⟨rfl, rfl⟩
    rcases sv2 with ⟨tg2, vn2⟩ | ⟨x2, vs2, e2⟩
    · -- both are free
      rw [show decide _ = true from ut ok2 tg2 rt2]
      repeat' (first | walk_at "m" | walk_at "a")
      refine T_spec C2 (pair_spec G3 SZ hr1 hr2 (real_ok ok1) (real_ok ok2) tg1 tg2) ?_
      rintro _ l5 ⟨rfl, G5, s5⟩
      obtain ⟨q', e1, e2, e3, e4, e5, I', e6⟩ := I.merge h1' h2' vn1 vn2 tg1 tg2
      rw [show bindP _ _ _ = _ from e1] at G5
      have M5 := M3.setA G5 s5
      have hO5 := hO3.sub s5 (tne3 M3.t11 M3.t2 M3.t3 M3.t4 (by decide) (by decide) (by decide))
      obtain ⟨gvs5, hg5, hgi5⟩ := M5.fG
      obtain ⟨vj, hJ⟩ := M5.fJ
      repeat' (first | walk_at "m" | walk_at "a")
      refine T_nameE C M5.fE ?_ (by rw [eG]; rfl)
      repeat' (first | walk_at "m" | walk_at "a")
      refine T_itemIN hg5 hgi5 (by show two < q.groups.length; omega) (by show q.groups.length < _; omega) fun t7 => ?_
      refine T_storeE C hJ (fun l6 hJ6 s6 => ?_) (by rw [eJ]; rfl) (by rfl)
      have M6 := M5.setJ hJ6 s6
      have hO6 := hO5.sub s6 (tne M5.t11 M5.t12 (by decide))
      obtain ⟨gvs, hg, hgi⟩ := M6.fG
      have hgi' : IntsAre gvs q.groups := hgi
      repeat' (first | walk_at "m" | walk_at "a")
      refine T_compE C ?_ (by rfl) (by decide) rfl (by decide) (by rfl) (by intro _; rfl)
      refine T_nameE C M6.fE ?_ (by rw [eG]; rfl)
      refine ⟨rfl, Z.gA, gvs, (fun i v y => ∃ t, y = .int (γm (q.groups.getD one 0) (q.groups.getD two 0) (q.groups.getD i 0)) t), rfl, hg, by rw [sizeLine_eq, hgi'.length]; omega, ?_, ?_⟩
      · intro i v hi lf Ca oC m₂ hs hC hn hx
        have hi' : i < q.groups.length := by rw [← hgi'.length]; exact (List.getElem?_eq_some_iff.mp hi).1
        obtain ⟨tv, hv⟩ := ints_at hgi' (k := i) (by rw [hgi'.length]; exact hi') hi'
        rw [(List.getElem?_eq_some_iff.mp hi).2] at hv
        have hgd : q.groups[i] = q.groups.getD i 0 := by simp [List.getD, hi']
        rw [hgd] at hv
        subst hv
        have fG := M6.fE.inc hs
        have fO := hO6.inc hs
        have fJ := hJ6.inc hs
        have fL := hg.inc hs
        repeat' (first | walk_at "m")
        refine T_nameX hC hn hx ?_
        repeat' (first | walk_at "m")
        refine T_nameXE fJ ?_ (by rw [eJ]; rfl)
        repeat' (first | walk_at "m")
        · rename_i hq
          refine T_nameXE fG ?_ (by rw [eG]; rfl)
          refine T_nameXE fO ?_ (by rw [eO]; rfl)
          refine T_itemIN fL hgi' (by omega) (by omega) fun t8 => ?_
          exact ⟨rfl, rfl, t8, by rw [γm, if_pos hq]⟩
        · rename_i hq
          refine T_nameX hC hn hx ?_
          exact ⟨rfl, rfl, tv, by rw [γm, if_neg hq]⟩
      · intro ys D l7 hys hD s7 n7
        refine T_storeE C (M6.fE.sub s7 (by simp)) (fun l8 hG8 s8 => ?_) (by rw [eG]; rfl) (by rfl)
        have hyi : IntsAre ys (q.groups.map (γm (q.groups.getD one 0) (q.groups.getD two 0))) := by
          refine ints_of (by rw [hys.1, hgi'.length, List.length_map]) fun i hi => ?_
          have hi' : i < q.groups.length := by simpa using hi
          obtain ⟨v, y, z1, z2, t9, z3⟩ := hys.2 i (by rw [hgi'.length]; exact hi')
          refine ⟨t9, ?_⟩
          rw [z2, z3]
          simp [List.getD, hi']
        have M8 := M6.newG s7 n7 hD hyi hG8 s8
        repeat' (first | walk_at "m" | walk_at "a")
        have K8 := (((K3.step s5).step s6).step s7).step s8
        have M9 : MS w cvs l0 l8 (tagU κ D 7) { Z with gA := D } n ⟨hi3, hc3, gd3, q'.real j (hbOf ps) (bbOf ps), q'.made, q'.groups, q'.val, ps⟩ := by
          rw [e2, e3, e4]; exact M8
        exact ⟨rfl, _, _, _, _, _, _, _, _, _, ⟨M9.up (Nat.le_succ n), I', H3, ⟨nf1, nf2, nf3, nf4, nf5, ⟨_, by rw [e5]; exact nf6⟩, ⟨_, nf7⟩⟩, eG, eO, eJ⟩, K8.fin rfl rfl e6, _, hd⟩
    · rw [e2] at hr2 ⊢
      rw [show decide _ = false from uf]
      repeat' (first | walk_at "m" | walk_at "a")
      refine T_spec C1 u1 ?_
      rintro _ _ ⟨rfl, rfl⟩
      rw [show decide _ = true from ut ok1 tg1 rt1]
      repeat' (first | walk_at "m" | walk_at "a")
      refine T_spec C1 (bind_spec G3 SZ hr1 hr2 (real_ok ok1) tg1) ?_
      rintro _ l5 ⟨rfl, G5, s5⟩
      obtain ⟨q', e1', e2', e3', e4', e5', I', e6'⟩ := I.setv (v := x2) h1' vn1 tg1
      rw [show bindS _ _ _ = _ from e1'] at G5
      have M5 := M3.setA G5 s5
      have hO5 := hO3.sub s5 (tne3 M3.t11 M3.t2 M3.t3 M3.t4 (by decide) (by decide) (by decide))
      obtain ⟨gvs5, hg5, hgi5⟩ := M5.fG
      have hgi5' : IntsAre gvs5 q.groups := hgi5
      have hv5 := M5.fV
      repeat' (first | walk_at "m" | walk_at "a")
      refine T_nameE C M5.fE ?_ (by rw [eG]; rfl)
      repeat' (first | walk_at "m" | walk_at "a")
      refine T_itemIN hg5 hgi5' (by omega) (by omega) fun t6 => ?_
      refine D_item hv5 vs2 (fun t7 => ?_)
      repeat' (first | walk_at "m" | walk_at "a")
      refine T_nameE C M5.fE ?_ (by rw [eG]; rfl)
      repeat' (first | walk_at "m" | walk_at "a")
      refine T_nameE C hO5 ?_ (by rw [eO]; rfl)
      refine T_itemIN hg5 hgi5' (by omega) (by omega) fun t6 => ?_
      refine D_set hv5 (by omega) fun l6 hv6 s6 => ?_
      have M6 := M5.setV (Nat.le_succ n) hv6 s6
      repeat' (first | walk_at "m" | walk_at "a")
      have K6 := (K3.step s5).step s6
      have M7 : MS w cvs l0 l6 κ Z (n + 1) ⟨hi3, hc3, gd3, q'.real j (hbOf ps) (bbOf ps), q'.made, q'.groups, q'.val, ps⟩ := by
        rw [e2', e3', e4']; exact M6
      exact ⟨rfl, _, _, _, _, _, _, _, _, _, ⟨M7, I', H3, ⟨nf1, nf2, nf3, nf4, nf5, ⟨_, by rw [e5']; exact nf6⟩, ⟨_, nf7⟩⟩, eG, eO, eJ⟩, K6.fin rfl rfl e6', _, hd⟩
  · rw [e1] at hr1 ⊢
    rw [show decide _ = false from uf]
    repeat' (first | walk_at "m" | walk_at "a")
    refine T_spec C1 u1 ?_
    rintro _ _ ⟨rfl, rfl⟩
    rw [e1, show decide _ = false from uf]
    repeat' (first | walk_at "m" | walk_at "a")
    refine T_spec C1 u2 ?_
    rintro _ _ ⟨rfl, rfl⟩
    rcases sv2 with ⟨tg2, vn2⟩ | ⟨x2, vs2, e2⟩
    · rw [show decide _ = true from ut ok2 tg2 rt2]
      repeat' (first | walk_at "m" | walk_at "a")
      refine T_spec C1 (bind_spec G3 SZ hr2 hr1 (real_ok ok2) tg2) ?_
      rintro _ l5 ⟨rfl, G5, s5⟩
      obtain ⟨q', e1', e2', e3', e4', e5', I', e6'⟩ := I.setv (v := x1) h2' vn2 tg2
      rw [show bindS _ _ _ = _ from e1'] at G5
      have M5 := M3.setA G5 s5
      have hO5 := hO3.sub s5 (tne3 M3.t11 M3.t2 M3.t3 M3.t4 (by decide) (by decide) (by decide))
      obtain ⟨gvs5, hg5, hgi5⟩ := M5.fG
      have hgi5' : IntsAre gvs5 q.groups := hgi5
      have hv5 := M5.fV
      repeat' (first | walk_at "m" | walk_at "a")
      refine T_nameE C M5.fE ?_ (by rw [eG]; rfl)
      repeat' (first | walk_at "m" | walk_at "a")
      refine T_nameE C hO5 ?_ (by rw [eO]; rfl)
      refine T_itemIN hg5 hgi5' (by omega) (by omega) fun t6 => ?_
      refine D_item hv5 vs1 (fun t7 => ?_)
      repeat' (first | walk_at "m" | walk_at "a")
      refine T_nameE C M5.fE ?_ (by rw [eG]; rfl)
      repeat' (first | walk_at "m" | walk_at "a")
      refine T_itemIN hg5 hgi5' (by omega) (by omega) fun t6 => ?_
      refine D_set hv5 (by omega) fun l6 hv6 s6 => ?_
      have M6 := M5.setV (Nat.le_succ n) hv6 s6
      repeat' (first | walk_at "m" | walk_at "a")
      have K6 := (K3.step s5).step s6
      have M7 : MS w cvs l0 l6 κ Z (n + 1) ⟨hi3, hc3, gd3, q'.real j (hbOf ps) (bbOf ps), q'.made, q'.groups, q'.val, ps⟩ := by
        rw [e2', e3', e4']; exact M6
      exact ⟨rfl, _, _, _, _, _, _, _, _, _, ⟨M7, I', H3, ⟨nf1, nf2, nf3, nf4, nf5, ⟨_, by rw [e5']; exact nf6⟩, ⟨_, nf7⟩⟩, eG, eO, eJ⟩, K6.fin rfl rfl e6', _, hd⟩
    · rw [e2, show decide _ = false from uf]
      repeat' (first | walk_at "m" | walk_at "a")
      exact ⟨rfl, _, _, _, _, _, _, _, _, _, ⟨M3.up (Nat.le_succ n), I.up (Nat.le_succ n), H3, ⟨nf1, nf2, nf3, nf4, nf5, ⟨_, nf6⟩, ⟨_, nf7⟩⟩, eG, eO, eJ⟩, K3.fin rfl rfl K3ok, _, hd⟩
end Mine
end
section
open PySem PySem.W PySem.Calls PyProof.Rows PyProof.V PySem.Spec
namespace Mine
theorem fillK_deed3 : PySem.Challenge.rw_no0163_01.prog = PySem.Challenge.rw_no0163_01.prog ∧ (∀ w : World, (hd.heap_39 w.params) = hd.heap_39 w.params) := by
  k_fill
  exact ⟨rfl, fun _ => rfl⟩

theorem deed3 {w : World} {oc : Value} {od : Option Addr} {name qual : Str} {params : Arguments} {body : List Stmt} {scope : Scope} {dV kV doc pm cdv ct : Value} {an : Option Addr} {osl : Array (Option Value)}
    (ho : (hd.heap_39 w.params).lookup 352 = some ⟨oc, od, .func (fnOf name qual params body scope dV kV doc pm an cdv ct), osl⟩)
    {A : Around} {g : Heap} {L f : Addr} {cdv' : Value} {m : Map} {l l0 : Led} {tb : List Stmt} {n : Nat} {dd : Int} {κ : Addr → Nat} {Z : Loc} {hi : Nat} {hc gd : Int} {q : Snap} {j : List Cc} {ps : List Snap} {fr : Int} {ns : List Int} {cvs : List Value} (C : Ctx w 8 A (envOfC qual scope L f cdv') g L)
    (hI : IntsAre cvs ns) (hns : ns.length ≤ 63) (hn : n ≤ 26) (W : LW w ns cvs L l0 n m l κ Z hi hc gd q j ps fr) (K : Chk m l q.trail.length (hbOf ps) (bbOf ps) q.trail) (hd : ∃ t, m (Str.ofString "deed") = some (.int dd t))
    (hne : 0 < q.made.length)
    (htb : the1 thenB (the1 elseB (the1 elseB (the1 elseB (chainOf body)))) = tb) : Tri w A g L (execs tb (envOfC qual scope L f cdv')) m l (fun f m' l' => f = .next ∧ Mid w ns cvs L l0 (n + 1) dd q.trail.length (hbOf ps) (bbOf ps) m' l') := by
  refine body_of ho (by k_is) ?_
  intro hq hb hsc
  subst hq hb hsc
  simp only [chainOf, turnOf, tl4, tl1, the1, forB, thenB, elseB] at htb
  subst htb
  have C1 : Ctx w 1 A _ g L := C.down (by omega)
  have C2 : Ctx w 2 A _ g L := C.down (by omega)
  have C3 : Ctx w 3 A _ g L := C.down (by omega)
  obtain ⟨M, I, H, NN, eG, eO, eJ⟩ := W
  obtain ⟨nf1, nf2, nf3, nf4, nf5, ⟨ta, nf6⟩, ⟨tf, nf7⟩⟩ := NN
  obtain ⟨td, hd⟩ := hd
  have SZ := I.sz (h := hbOf ps) (b := bbOf ps) (by omega)
  have hml : q.made.length ≤ 26 := by have := I.s4; omega
  obtain ⟨mvs, hm, hmc⟩ := M.fM
  repeat' (first | walk_at "m" | walk_at "a")
  refine T_lenC hm hmc (by show q.made.length < _; omega) fun t1 => ?_
  repeat' (first | walk_at "m" | walk_at "a")
  refine T_pickL C1 M hI hns H (by show (0 : Int) < (q.made.length : Nat); omega) fun one t2 hi1 hc1 gd1 l1 h1 M1 H1 s1 => ?_
  have h1' : one < q.made.length := by have : (one : Int) < (q.made.length : Nat) := h1; omega
  obtain ⟨vo, hO⟩ := M1.fO
  refine T_storeE C hO (fun l2 hO2 s2 => ?_) (by rw [eO]; rfl) (by rfl)
  have M2 := M1.setO hO2 s2
  obtain ⟨mvs2, hm2, hmc2⟩ := M2.fM
  have G2 := M2.fA
  repeat' (first | walk_at "m" | walk_at "a")
  refine T_nameE C hO2 ?_ (by rw [eO]; rfl)
  refine T_itemCN hm2 hmc2 h1' (by show q.made.length < _; omega) fun v hv => ?_
  repeat' (first | walk_at "m" | walk_at "a")
  refine T_spec C1 (deref_spec G2 SZ (real_down I.gc.sh) hv (I.gc.md _ (getD_mem h1'))) ?_
  rintro r _ ⟨rfl, hr⟩
  rw [real_dr I.gc.sh (I.gc.md _ (getD_mem h1'))] at hr
  repeat' (first | walk_at "m" | walk_at "a")
  refine T_pickL C1 M2 hI hns H1 (by decide) fun val t3 hi3 hc3 gd3 l3 h3 M3 H3 s3 => ?_
  repeat' (first | walk_at "m" | walk_at "a")
  have hO3 := hO2.sub s3 (tne M2.t11 M2.t0 (by decide))
  have M3' := M3
  refine T_nameE C M3.fE ?_ (by rw [eG]; rfl)
  obtain ⟨gvs, hg, hgi⟩ := M3.fG
  repeat' (first | walk_at "m")
  refine T_nameE C hO3 ?_ (by rw [eO]; rfl)
  have hgl : q.groups.length = q.made.length := I.gc.ln
  refine T_itemIN hg hgi (by show one < q.groups.length; omega) (by show q.groups.length < _; omega) fun t4 => ?_
  repeat' (first | walk_at "m")
  have hv3 := M3.fV
  have hgm : q.groups.getD one 0 ∈ q.groups := getD_mem (by omega)
  obtain ⟨ok, rt, sv⟩ := I.gc.see h1'
  rcases sv with ⟨tg, vn⟩ | ⟨v0, vs0, _⟩
  · refine D_notInN hv3 vn ?_
    repeat' (first | walk_at "m")
    have B := bindable_const (v := (val : Int) - 2) ok tg rt
    have G3 := M3.fA
    have hr3 := hr.sub s3
    repeat' (first | walk_at "m" | walk_at "a")
    refine C_new ?_
    rintro x l4 hx s4 _
    have M4 := M3.sub0 s4
    have G4 := M4.fA
    repeat' (first | walk_at "m" | walk_at "a")
    refine T_spec C1 (bind_spec G4 SZ (hr3.sub s4) hx (real_ok ok) tg) ?_
    rintro _ l5 ⟨rfl, G5, s5⟩
    have M5 := M4.setA G5 s5
    have hO5 := (hO3.sub s4 (by simp)).sub s5 (tne3 M4.t11 M4.t2 M4.t3 M4.t4 (by decide) (by decide) (by decide))
    repeat' (first | walk_at "m" | walk_at "a")
    refine T_nameE C M5.fE ?_ (by rw [eG]; rfl)
    obtain ⟨gvs5, hg5, hgi5⟩ := M5.fG
    repeat' (first | walk_at "m" | walk_at "a")
    refine T_nameE C hO5 ?_ (by rw [eO]; rfl)
    refine T_itemIN hg5 hgi5 (by show one < q.groups.length; omega) (by show q.groups.length < _; omega) fun t5 => ?_
    repeat' (first | walk_at "m" | walk_at "a")
    refine D_set M5.fV (by omega) fun l6 hv6 s6 => ?_
    have M6 := M5.setV (Nat.le_succ n) hv6 s6
    repeat' (first | walk_at "m" | walk_at "a")
    have K6 := (((((K.step s1).step s2).step s3).step s4).step s5).step s6
    have GG := I.gc.setv (hb := hbOf ps) (bb := bbOf ps) (v := (val : Int) - 2) h1' vn
    have I6 := I.bind B GG rfl rfl rfl rfl
    have M7 : MS w cvs l0 l6 κ Z (n + 1) ⟨hi3, hc3, gd3, Snap.real (Snap.mk (bindQ q (hbOf ps) (bbOf ps) (dr q.sig (q.made.getD one (5, 0))) (5, (val : Int) - 2)).heap (bindQ q (hbOf ps) (bbOf ps) (dr q.sig (q.made.getD one (5, 0))) (5, (val : Int) - 2)).stack (bindQ q (hbOf ps) (bbOf ps) (dr q.sig (q.made.getD one (5, 0))) (5, (val : Int) - 2)).trail q.made q.groups (fun k => if k = q.groups.getD one 0 then some ((val : Int) - 2) else q.val k)) j (hbOf ps) (bbOf ps),
        q.made, q.groups, (fun k => if k = q.groups.getD one 0 then some ((val : Int) - 2) else q.val k), ps⟩ := by
      have e := bindS_real (j := j) (hb := hbOf ps) (bb := bbOf ps) (c' := (5, (val : Int) - 2)) ok tg
      have e' : Snap.real (Snap.mk (bindQ q (hbOf ps) (bbOf ps) (dr q.sig (q.made.getD one (5, 0))) (5, (val : Int) - 2)).heap (bindQ q (hbOf ps) (bbOf ps) (dr q.sig (q.made.getD one (5, 0))) (5, (val : Int) - 2)).stack (bindQ q (hbOf ps) (bbOf ps) (dr q.sig (q.made.getD one (5, 0))) (5, (val : Int) - 2)).trail q.made q.groups (fun k => if k = q.groups.getD one 0 then some ((val : Int) - 2) else q.val k)) j (hbOf ps) (bbOf ps) = bindS (q.real j (hbOf ps) (bbOf ps)) (dr q.sig (q.made.getD one (5, 0))) (5, (val : Int) - 2) := e.symm
      rw [e']
      exact M6
    have hab : q.stack.length = (bindQ q (hbOf ps) (bbOf ps) (dr q.sig (q.made.getD one (5, 0))) (5, (val : Int) - 2)).stack.length := bindQ_sizes.2.1.symm
    exact ⟨rfl, _, _, _, _, _, _, _, _, _, ⟨M7, I6, H3, ⟨nf1, nf2, nf3, nf4, nf5, ⟨_, by rw [← hab]; exact nf6⟩, ⟨_, nf7⟩⟩, eG, eO, eJ⟩, K6.fin rfl rfl (bind_trail B (hbOf_nn ps) (bbOf_nn ps)), _, hd⟩
  · refine D_notInS hv3 vs0 ?_
    repeat' (first | walk_at "m")
    have K3 := ((K.step s1).step s2).step s3
    exact ⟨rfl, _, _, _, _, _, _, _, _, _, ⟨M3.up (Nat.le_succ n), I.up (Nat.le_succ n), H3, ⟨nf1, nf2, nf3, nf4, nf5, ⟨_, nf6⟩, ⟨_, nf7⟩⟩, eG, eO, eJ⟩, K3.fin rfl rfl K.ok, _, hd⟩
end Mine
end
section
open PySem PySem.W PySem.Calls PyProof.Rows PyProof.V PySem.Spec
namespace Mine
theorem fillK_deed4 : PySem.Challenge.rw_no0163_01.prog = PySem.Challenge.rw_no0163_01.prog ∧ (∀ w : World, (hd.heap_39 w.params) = hd.heap_39 w.params) := by
  k_fill
  exact ⟨rfl, fun _ => rfl⟩

theorem tag50 {κ : Addr → Nat} {x b : Addr} (h : 50 ≤ κ x) : 50 ≤ tagU κ b 50 x := by
  show 50 ≤ if x = b then 50 else κ x
  split
  · omega
  · exact h
theorem tag50s {κ : Addr → Nat} {b : Addr} : 50 ≤ tagU κ b 50 b := by
  show 50 ≤ if b = b then 50 else κ b
  rw [if_pos rfl]; omega
theorem deed4 {w : World} {oc : Value} {od : Option Addr} {name qual : Str} {params : Arguments} {body : List Stmt} {scope : Scope} {dV kV doc pm cdv ct : Value} {an : Option Addr} {osl : Array (Option Value)}
    (ho : (hd.heap_39 w.params).lookup 352 = some ⟨oc, od, .func (fnOf name qual params body scope dV kV doc pm an cdv ct), osl⟩)
    {A : Around} {g : Heap} {L f : Addr} {cdv' : Value} {m : Map} {l l0 : Led} {tb : List Stmt} {n : Nat} {dd : Int} {κ : Addr → Nat} {Z : Loc} {hi : Nat} {hc gd : Int} {q : Snap} {j : List Cc} {ps : List Snap} {fr : Int} {ns : List Int} {cvs : List Value} (C : Ctx w 8 A (envOfC qual scope L f cdv') g L)
    (hI : IntsAre cvs ns) (hns : ns.length ≤ 63) (hn : n ≤ 26) (W : LW w ns cvs L l0 n m l κ Z hi hc gd q j ps fr) (K : Chk m l q.trail.length (hbOf ps) (bbOf ps) q.trail) (hd : ∃ t, m (Str.ofString "deed") = some (.int dd t))
    (htb : the1 thenB (the1 elseB (the1 elseB (the1 elseB (the1 elseB (chainOf body))))) = tb) : Tri w A g L (execs tb (envOfC qual scope L f cdv')) m l (fun f m' l' => f = .next ∧ Mid w ns cvs L l0 (n + 1) dd q.trail.length (hbOf ps) (bbOf ps) m' l') := by
  refine body_of ho (by k_is) ?_
  intro hq hb hsc
  subst hq hb hsc
  simp only [chainOf, turnOf, tl4, tl1, the1, forB, thenB, elseB] at htb
  subst htb
  have C1 : Ctx w 1 A _ g L := C.down (by omega)
  have C2 : Ctx w 2 A _ g L := C.down (by omega)
  have C3 : Ctx w 3 A _ g L := C.down (by omega)
  obtain ⟨M, I, H, NN, eG, eO, eJ⟩ := W
  obtain ⟨nf1, nf2, nf3, nf4, nf5, ⟨ta, nf6⟩, ⟨tf, nf7⟩⟩ := NN
  obtain ⟨td, hd⟩ := hd
  have SZ := I.sz (h := hbOf ps) (b := bbOf ps) (by omega)
  have hml : q.made.length ≤ 26 := by have := I.s4; omega
  obtain ⟨pvs, hp, hpr⟩ := M.fP
  have G0 := M.fA
  repeat' (first | walk_at "m" | walk_at "a")
  refine T_appM hp ?_
  repeat' (first | walk_at "m" | walk_at "a")
  obtain ⟨hvs, hh, hhc⟩ := G0.hp
  refine T_listOf hh (by rw [hhc.len, sizeLine_eq]; have := SZ.h; exact Nat.le_trans (Nat.le_of_lt this) (by decide)) fun bh l1 hb1 s1 n1 => ?_
  have M1 := (M.tag (t := 50) n1).sub0 s1
  have G1 := M1.fA
  have z1 : 50 ≤ tagU κ bh 50 bh := tag50s
  generalize tagU κ bh 50 = κ1 at M1 z1
  repeat' (first | walk_at "m" | walk_at "a")
  refine T_slice ?_
  refine T_part0 ?_
  refine T_part ?_
  repeat' (first | walk_at "m")
  intro sl l2 hsl s2 n2
  have M2 := M1.sub0 s2
  obtain ⟨svs, hs, hsc⟩ := M2.fA.sp
  refine T_sliceA hs hsl .none (.int _ _) (by rw [hsc.len, sizeLine_eq]; have := SZ.s; exact Nat.le_trans (Nat.le_of_lt this) (by decide)) fun bs l3 hb3 s3 n3 => ?_
  rw [pick_take] at hb3
  have hbc3 : Cels l3 (svs.take q.stack.length) q.stack := by
    have := (hsc.sub s3).take q.stack.length
    have e : ((q.stack ++ j).take q.stack.length) = q.stack := by simp
    have e2 : ({ i := hi, c := hc, gd := gd, σ := q.real j (hbOf ps) (bbOf ps), made := q.made, groups := q.groups, val := q.val, ps := ps } : LSt).σ.stack = q.stack ++ j := rfl
    rw [e2, e] at this
    exact this
  have M3 := (M2.tag (t := 50) n3).sub0 s3
  have z2 : 50 ≤ tagU κ1 bs 50 bh := tag50 z1
  have z3 : 50 ≤ tagU κ1 bs 50 bs := tag50s
  generalize tagU κ1 bs 50 = κ2 at M3 z2 z3
  have G3 := M3.fA
  repeat' (first | walk_at "m" | walk_at "a")
  obtain ⟨tvs, ht, htc⟩ := G3.tp
  refine T_listOf ht (by rw [htc.length, sizeLine_eq]; have := SZ.t; exact Nat.le_trans (Nat.le_of_lt this) (by decide)) fun bt l4 hb4 s4 n4 => ?_
  have M4 := (M3.tag (t := 50) n4).sub0 s4
  have z4 : 50 ≤ tagU κ2 bt 50 bh := tag50 z2
  have z5 : 50 ≤ tagU κ2 bt 50 bs := tag50 z3
  have z6 : 50 ≤ tagU κ2 bt 50 bt := tag50s
  generalize tagU κ2 bt 50 = κ3 at M4 z4 z5 z6
  obtain ⟨mvs, hm, hmc⟩ := M4.fM
  repeat' (first | walk_at "m" | walk_at "a")
  refine T_lenC hm hmc (by show q.made.length < _; omega) fun t1 => ?_
  repeat' (first | walk_at "m" | walk_at "a")
  refine T_nameE C M4.fE ?_ (by rw [eG]; rfl)
  repeat' (first | walk_at "m" | walk_at "a")
  obtain ⟨gvs, hg, hgi⟩ := M4.fG
  have hgl : q.groups.length ≤ 26 := by rw [I.gc.ln]; exact hml
  refine T_listOf hg (by rw [hgi.length, sizeLine_eq]; show q.groups.length ≤ _; omega) fun bg l5 hb5 s5 n5 => ?_
  have M5 := (M4.tag (t := 50) n5).sub0 s5
  have y1 : 50 ≤ tagU κ3 bg 50 bh := tag50 z4
  have y2 : 50 ≤ tagU κ3 bg 50 bs := tag50 z5
  have y3 : 50 ≤ tagU κ3 bg 50 bt := tag50 z6
  have y4 : 50 ≤ tagU κ3 bg 50 bg := tag50s
  generalize tagU κ3 bg 50 = κ4 at M5 y1 y2 y3 y4
  repeat' (first | walk_at "m" | walk_at "a")
  refine D_copy C M5.fV (by omega) fun bv l6 hb6 s6 n6 => ?_
  have M6 := (M5.tag (t := 50) n6).sub0 s6
  have x1 : 50 ≤ tagU κ4 bv 50 bh := tag50 y1
  have x2 : 50 ≤ tagU κ4 bv 50 bs := tag50 y2
  have x3 : 50 ≤ tagU κ4 bv 50 bt := tag50 y3
  have x4 : 50 ≤ tagU κ4 bv 50 bg := tag50 y4
  have x5 : 50 ≤ tagU κ4 bv 50 bv := tag50s
  generalize tagU κ4 bv 50 = κ5 at M6 x1 x2 x3 x4 x5
  have G6 := M6.fA
  repeat' (first | walk_at "m" | walk_at "a")
  refine T_spec C1 (mark_spec G6 SZ) ?_
  rintro _ _ ⟨rfl, t2, rfl⟩
  repeat' (first | walk_at "m" | walk_at "a")
  refine T_newTuple (by rw [sizeLine_eq]; simp) fun b l7 hb7 s7 n7 => ?_
  have M7 := M6.sub0 s7
  obtain ⟨pvs7, hp7, hpr7⟩ := M7.fP
  repeat' (first | walk_at "m" | walk_at "a")
  refine T_append hp7 (by rw [hpr7.len, sizeLine_eq]; have := I.s5; show ps.length ≤ _; omega) fun l8 hp8 s8 => ?_
  have lo9 := low1 M7.t9 (by decide : (9 : Nat) < 50)
  have P7 : Pt w l7 κ5 n (.ref b) q := ⟨b, bh, bs, bt, bg, bv, _, _, _, _, _, _, rfl, hb7,
    (((((hb1.sub s2 (by simp)).sub s3 (by simp)).sub s4 (by simp)).sub s5 (by simp)).sub s6 (by simp)).sub s7 (by simp), (((((((hhc.sub s1).sub s2).sub s3).sub s4).sub s5).sub s6).sub s7),
    (((hb3.sub s4 (by simp)).sub s5 (by simp)).sub s6 (by simp)).sub s7 (by simp), (((hbc3.sub s4).sub s5).sub s6).sub s7,
    ((hb4.sub s5 (by simp)).sub s6 (by simp)).sub s7 (by simp), htc, (hb5.sub s6 (by simp)).sub s7 (by simp), hgi, hb6.sub s7 (by simp), x1, x2, x3, x4, x5⟩
  have M8 := M7.setP (ps' := q :: ps) ⟨_, hp8, .snoc (hpr7.imp fun _ _ z => z.sub s8 lo9) (P7.sub s8 lo9)⟩ s8
  have G8 := M8.fA
  repeat' (first | walk_at "m" | walk_at "a")
  refine A_hlen G8 SZ.h fun t3 => ?_
  repeat' (first | walk_at "m" | walk_at "a")
  refine A_sethb C G8 fun l9 G9 s9 => ?_
  have M9 := M8.setB G9 s9
  repeat' (first | walk_at "m" | walk_at "a")
  refine A_setbb C G9 fun l10 G10 s10 => ?_
  have M10 := M9.setB G10 s10
  repeat' (first | walk_at "m" | walk_at "a")
  have K10 := (((((((((K.step s1).step s2).step s3).step s4).step s5).step s6).step s7).step s8).step s9).step s10
  exact ⟨rfl, _, _, _, _, _, _, _, _, _, ⟨M10.up (Nat.le_succ n), I.choice, H, ⟨nf1, nf2, nf3, nf4, nf5, ⟨_, nf6⟩, ⟨_, nf7⟩⟩, eG, eO, eJ⟩, K10.fin rfl rfl K.ok, _, hd⟩
end Mine
end
section
open PySem PySem.W PySem.Calls PyProof.Rows PyProof.V PySem.Spec
namespace Mine
theorem fillK_deed5 : PySem.Challenge.rw_no0163_01.prog = PySem.Challenge.rw_no0163_01.prog ∧ (∀ w : World, (hd.heap_39 w.params) = hd.heap_39 w.params) := by
  k_fill
  exact ⟨rfl, fun _ => rfl⟩

theorem deed5 {w : World} {oc : Value} {od : Option Addr} {name qual : Str} {params : Arguments} {body : List Stmt} {scope : Scope} {dV kV doc pm cdv ct : Value} {an : Option Addr} {osl : Array (Option Value)}
    (ho : (hd.heap_39 w.params).lookup 352 = some ⟨oc, od, .func (fnOf name qual params body scope dV kV doc pm an cdv ct), osl⟩)
    {A : Around} {g : Heap} {L f : Addr} {cdv' : Value} {m : Map} {l l0 : Led} {tb : List Stmt} {n : Nat} {dd : Int} {κ : Addr → Nat} {Z : Loc} {hi : Nat} {hc gd : Int} {q : Snap} {j : List Cc} {ps : List Snap} {fr : Int} {ns : List Int} {cvs : List Value} (C : Ctx w 8 A (envOfC qual scope L f cdv') g L)
    (hI : IntsAre cvs ns) (hns : ns.length ≤ 63) (hn : n ≤ 26) (W : LW w ns cvs L l0 n m l κ Z hi hc gd q j ps fr) (K : Chk m l q.trail.length (hbOf ps) (bbOf ps) q.trail) (hd : ∃ t, m (Str.ofString "deed") = some (.int dd t))
    (hne : ps ≠ [])
    (htb : the1 thenB (the1 elseB (the1 elseB (the1 elseB (the1 elseB (the1 elseB (chainOf body)))))) = tb) : Tri w A g L (execs tb (envOfC qual scope L f cdv')) m l (fun f m' l' => f = .next ∧ Mid w ns cvs L l0 (n + 1) dd q.trail.length (hbOf ps) (bbOf ps) m' l') := by
  refine body_of ho (by k_is) ?_
  intro hq hb hsc
  subst hq hb hsc
  simp only [chainOf, turnOf, tl4, tl1, the1, forB, thenB, elseB] at htb
  subst htb
  have C1 : Ctx w 1 A _ g L := C.down (by omega)
  have C2 : Ctx w 2 A _ g L := C.down (by omega)
  have C3 : Ctx w 3 A _ g L := C.down (by omega)
  obtain ⟨M, I, H, NN, eG, eO, eJ⟩ := W
  obtain ⟨nf1, nf2, nf3, nf4, nf5, ⟨ta, nf6⟩, ⟨tf, nf7⟩⟩ := NN
  obtain ⟨td, hd⟩ := hd
  have SZ := I.sz (h := hbOf ps) (b := bbOf ps) (by omega)
  have hml : q.made.length ≤ 26 := by have := I.s4; omega
  cases ps with
  | nil => exact absurd rfl hne
  | cons p ps' =>
  obtain ⟨pvs, hp, hpr⟩ := M.fP
  have hpr' : PtsR w l κ n pvs (p :: ps') := hpr
  cases hpr' with
  | @snoc vs0 _ pv _ hp0 P =>
  have hlen0 : vs0.length ≤ 30 := by rw [hp0.len]; have := I.s5; simp at this; omega
  have G0 := M.fA
  obtain ⟨td', j', b1, b2, b3, b4, b5, b6, b7, b8, b9, b10, b11, b12, I'⟩ := I.ret (h := hbOf (p :: ps')) (b := bbOf (p :: ps'))
  obtain ⟨b, bh, bs, bt, bg, bv, tm, tt, vh, vs, vt, vg, rfl, q0, c1, c2, c3, c4, c5, c6, c7, c8, c9, k1, k2, k3, k4, k5⟩ := P
  repeat' (first | walk_at "m" | walk_at "a")
  refine T_lastL hp (by omega) ?_
  repeat' (first | walk_at "m" | walk_at "a")
  refine T_itemT q0 (by decide) (by decide) (j := 6) rfl rfl ?_
  repeat' (first | walk_at "m" | walk_at "a")
  have ht0 : ({ i := hi, c := hc, gd := gd, σ := q.real j (hbOf (p :: ps')) (bbOf (p :: ps')), made := q.made, groups := q.groups, val := q.val, ps := p :: ps' } : LSt).σ.trail = p.trail ++ td' := b1
  refine T_spec C2 (undo_spec G0 SZ ht0 b2) ?_
  rintro _ l1 ⟨rfl, G1, s1⟩
  have M1 := M.setA G1 s1
  have lo1 : Low κ Z.a.D := fun d hd => by
    simp only [Adr.D, List.mem_cons, List.not_mem_nil, or_false] at hd
    have := M.t2; have := M.t3; have := M.t4
    rcases hd with rfl | rfl | rfl <;> omega
  have q1 := q0.sub s1
  have c1a := c1.sub s1 (lo1.no k1)
  have c2a := c2.sub s1
  have pz : p.heap.length ≤ 30 ∧ p.stack.length ≤ 30 ∧ p.made.length ≤ 30 ∧ p.trail.length ≤ 30 := by
    have := I'.s1; have := I'.s2; have := I'.s3; have := I'.s4; omega
  obtain ⟨pz1, pz2, pz3, pz4⟩ := pz
  repeat' (first | walk_at "m" | walk_at "a" | ((with_reducible refine T_itemT q1 (by decide) (by decide) (j := 0) rfl rfl ?_ ?hs); (case hs => with_unfolding_all rfl)))
  refine T_lenC c1a c2a (by omega) fun t1 => ?_
  repeat' (first | walk_at "m" | walk_at "a")
  have SZ1 : Sz { undoL (q.real j (hbOf (p :: ps')) (bbOf (p :: ps'))) td' with trail := p.trail } := ⟨by show (undoL _ td').heap.length < _; rw [b6]; have := I.s1; omega, by show (undoL _ td').stack.length < _; rw [b7]; have := I.s2; omega, by show p.trail.length < _; omega⟩
  refine T_spec C1 (trim_spec G1 SZ1 (i := p.heap.length) b5) ?_
  rintro _ l2 ⟨rfl, G2, s2⟩
  have M2 := M1.setA G2 s2
  have eσ : ({ ({ undoL (q.real j (hbOf (p :: ps')) (bbOf (p :: ps'))) td' with trail := p.trail } : Sig) with heap := ({ undoL (q.real j (hbOf (p :: ps')) (bbOf (p :: ps'))) td' with trail := p.trail } : Sig).heap.take p.heap.length } : Sig) = p.real j' (hbOf (p :: ps')) (bbOf (p :: ps')) := by
    show Sig.mk _ _ _ _ _ = Sig.mk _ _ _ _ _
    rw [b3, b4, b9, b10]
  have M2' : MS w cvs l0 l2 κ Z n ⟨hi, hc, gd, p.real j' (hbOf (p :: ps')) (bbOf (p :: ps')), q.made, q.groups, q.val, p :: ps'⟩ := by
    rw [← eσ]; exact M2
  clear M2 G2
  have G2 := M2'.fA
  have SZ2 := I'.sz (h := hbOf (p :: ps')) (b := bbOf (p :: ps')) (by omega)
  have q2 := q1.sub s2
  have c1b := c1a.sub s2 (lo1.no k1)
  have c2b := c2a.sub s2
  have c3b := (c3.sub s1 (lo1.no k2)).sub s2 (lo1.no k2)
  have c4b := (c4.sub s1).sub s2
  have c5b := (c5.sub s1 (lo1.no k3)).sub s2 (lo1.no k3)
  have c7b := (c7.sub s1 (lo1.no k4)).sub s2 (lo1.no k4)
  have c9b := (c9.sub s1 (lo1.no k5)).sub s2 (lo1.no k5)
  clear c1 c2 c3 c4 c5 c7 c9 c1a c2a q0 q1 M M1 G0 G1
  repeat' (first | walk_at "m" | walk_at "a" | ((with_reducible refine T_itemT q2 (by decide) (by decide) (j := 1) rfl rfl ?_ ?hs); (case hs => with_unfolding_all rfl)))
  refine T_lenC c3b c4b (by omega) fun t2 => ?_
  repeat' (first | walk_at "m" | walk_at "a" | ((with_reducible refine T_itemT q2 (by decide) (by decide) (j := 0) rfl rfl ?_ ?hs); (case hs => with_unfolding_all rfl)))
  obtain ⟨hvs, hh, hhc⟩ := G2.hp
  refine T_neCs C hh hhc c1b c2b ?_
  repeat' (first | walk_at "m" | walk_at "a")
  refine T_slice ?_
  refine T_part0 ?_
  refine T_part ?_
  repeat' (first | walk_at "m")
  intro sl l3 hsl s3 n3
  have M3 := M2'.sub0 s3
  obtain ⟨svs, hs, hsc⟩ := M3.fA.sp
  refine T_sliceA hs hsl .none (.int _ _) (by rw [hsc.len, sizeLine_eq]; have := SZ2.s; exact Nat.le_trans (Nat.le_of_lt this) (by decide)) fun bs2 l4 hb4 s4 n4 => ?_
  rw [pick_take] at hb4
  have hbc4 : Cels l4 (svs.take p.stack.length) p.stack := by
    have := (hsc.sub s4).take p.stack.length
    have e : ((p.stack ++ j').take p.stack.length) = p.stack := by simp
    have e2 : ({ i := hi, c := hc, gd := gd, σ := p.real j' (hbOf (p :: ps')) (bbOf (p :: ps')), made := q.made, groups := q.groups, val := q.val, ps := p :: ps' } : LSt).σ.stack = p.stack ++ j' := rfl
    rw [e2, e] at this
    exact this
  have M4 := M3.sub0 s4
  have s24 := s3.trans s4
  have q4 := q2.sub s24
  repeat' (first | walk_at "m" | walk_at "a" | ((with_reducible refine T_itemT q4 (by decide) (by decide) (j := 1) rfl rfl ?_ ?hs); (case hs => with_unfolding_all rfl)))
  refine T_neCs C hb4 hbc4 (c3b.sub s24 (by simp)) (c4b.sub s24) ?_
  have G4 := M4.fA
  repeat' (first | walk_at "m" | walk_at "a" | ((with_reducible refine T_itemT q4 (by decide) (by decide) (j := 2) rfl rfl ?_ ?hs); (case hs => with_unfolding_all rfl)))
  obtain ⟨tvs, ht, htc⟩ := G4.tp
  refine T_neIs C ht htc (c5b.sub s24 (by simp)) c6 ?_
  repeat' (first | walk_at "m" | walk_at "a")
  refine T_slice ?_
  refine T_part0 ?_
  refine T_part ?_
  repeat' (first | walk_at "m" | ((with_reducible refine T_itemT q4 (by decide) (by decide) (j := 3) rfl rfl ?_ ?hs); (case hs => with_unfolding_all rfl)))
  intro sl2 l5 hsl2 s5 n5
  have M5 := M4.sub0 s5
  obtain ⟨mvs, hm, hmc⟩ := M5.fM
  refine T_sliceA hm hsl2 .none (.int _ _) (by rw [hmc.len, sizeLine_eq]; show q.made.length ≤ _; omega) fun mA' l6 hb6 s6 n6 => ?_
  rw [pick_take] at hb6
  have hbc6 : Cels l6 (mvs.take p.made.length) p.made := by
    have := (hmc.sub s6).take p.made.length
    have e2 : ({ i := hi, c := hc, gd := gd, σ := p.real j' (hbOf (p :: ps')) (bbOf (p :: ps')), made := q.made, groups := q.groups, val := q.val, ps := p :: ps' } : LSt).made = q.made := rfl
    rw [e2, b11] at this
    exact this
  have M6 := M5.newM s6 n6 hb6 hbc6
  have q6 := (q4.sub s5).sub s6
  have s26 := (s24.trans s5).trans s6
  repeat' (first | walk_at "m" | walk_at "a" | ((with_reducible refine T_itemT q6 (by decide) (by decide) (j := 4) rfl rfl ?_ ?hs); (case hs => with_unfolding_all rfl)))
  have hgl : p.groups.length ≤ 30 := by rw [I'.gc.ln]; exact pz3
  refine T_listOf (c7b.sub s26 (by simp)) (by rw [c8.length, sizeLine_eq]; omega) fun gA' l7 hb7 s7 n7 => ?_
  refine T_storeE C (M6.fE.sub s7 (by simp)) (fun l8 hG8 s8 => ?_) (by show _ = some Z.cG; rw [eG]; rfl) (by rfl)
  have M8 := M6.newG s7 n7 hb7 c8 hG8 s8
  have q8 := (q6.sub s7).sub s8
  have cG50 : bv ∉ [Z.cG] := (low1 M2'.t10 (by decide)).no k5
  have c9d := ((c9b.sub s26 (by simp)).sub s7 (by simp)).sub s8 cG50
  repeat' (first | walk_at "m" | walk_at "a" | ((with_reducible refine T_itemT q8 (by decide) (by decide) (j := 5) rfl rfl ?_ ?hs); (case hs => with_unfolding_all rfl)))
  refine D_copy C c9d (by omega) fun vA' l9 hv9 s9 n9 => ?_
  have M9 := M8.newV s9 n9 hv9
  repeat' (first | walk_at "m" | walk_at "a")
  have K9 := ((((((((K.step s1).step s2).step s3).step s4).step s5).step s6).step s7).step s8).step s9
  have okt : ∀ e ∈ p.trail.drop q.trail.length, e < hbOf (p :: ps') ∧ -1 - e < bbOf (p :: ps') := by
    have : p.trail.length ≤ q.trail.length := by rw [b1]; simp
    rw [List.drop_eq_nil_of_le this]
    intro e he; cases he
  exact ⟨rfl, _, _, _, _, _, _, _, _, _, ⟨M9.up (Nat.le_succ n), I'.up (Nat.le_succ n), H, ⟨nf1, nf2, rfl, rfl, nf5, ⟨_, rfl⟩, ⟨_, nf7⟩⟩, eG, eO, eJ⟩, K9.fin rfl rfl okt, _, hd⟩
end Mine
end
section
open PySem PySem.W PySem.Calls PyProof.Rows PyProof.V PySem.Spec
namespace Mine
theorem fillK_deed6 : PySem.Challenge.rw_no0163_01.prog = PySem.Challenge.rw_no0163_01.prog ∧ (∀ w : World, (hd.heap_39 w.params) = hd.heap_39 w.params) := by
  k_fill
  exact ⟨rfl, fun _ => rfl⟩

theorem deed6 {w : World} {oc : Value} {od : Option Addr} {name qual : Str} {params : Arguments} {body : List Stmt} {scope : Scope} {dV kV doc pm cdv ct : Value} {an : Option Addr} {osl : Array (Option Value)}
    (ho : (hd.heap_39 w.params).lookup 352 = some ⟨oc, od, .func (fnOf name qual params body scope dV kV doc pm an cdv ct), osl⟩)
    {A : Around} {g : Heap} {L f : Addr} {cdv' : Value} {m : Map} {l l0 : Led} {tb : List Stmt} {n : Nat} {dd : Int} {κ : Addr → Nat} {Z : Loc} {hi : Nat} {hc gd : Int} {q : Snap} {j : List Cc} {ps : List Snap} {fr : Int} {ns : List Int} {cvs : List Value} (C : Ctx w 8 A (envOfC qual scope L f cdv') g L)
    (hI : IntsAre cvs ns) (hns : ns.length ≤ 63) (hn : n ≤ 26) (W : LW w ns cvs L l0 n m l κ Z hi hc gd q j ps fr) (K : Chk m l q.trail.length (hbOf ps) (bbOf ps) q.trail) (hd : ∃ t, m (Str.ofString "deed") = some (.int dd t))
    (hne : 0 < q.made.length)
    (htb : the1 thenB (the1 elseB (the1 elseB (the1 elseB (the1 elseB (the1 elseB (the1 elseB (chainOf body))))))) = tb) : Tri w A g L (execs tb (envOfC qual scope L f cdv')) m l (fun f m' l' => f = .next ∧ Mid w ns cvs L l0 (n + 1) dd q.trail.length (hbOf ps) (bbOf ps) m' l') := by
  refine body_of ho (by k_is) ?_
  intro hq hb hsc
  subst hq hb hsc
  simp only [chainOf, turnOf, tl4, tl1, the1, forB, thenB, elseB] at htb
  subst htb
  have C1 : Ctx w 1 A _ g L := C.down (by omega)
  have C2 : Ctx w 2 A _ g L := C.down (by omega)
  have C3 : Ctx w 3 A _ g L := C.down (by omega)
  obtain ⟨M, I, H, NN, eG, eO, eJ⟩ := W
  obtain ⟨nf1, nf2, nf3, nf4, nf5, ⟨ta, nf6⟩, ⟨tf, nf7⟩⟩ := NN
  obtain ⟨td, hd⟩ := hd
  have SZ := I.sz (h := hbOf ps) (b := bbOf ps) (by omega)
  have hml : q.made.length ≤ 26 := by have := I.s4; omega
  obtain ⟨mvs, hm, hmc⟩ := M.fM
  repeat' (first | walk_at "m" | walk_at "a")
  refine T_lenC hm hmc (by show q.made.length < _; omega) fun t1 => ?_
  repeat' (first | walk_at "m" | walk_at "a")
  refine T_pickL C1 M hI hns H (by show (0 : Int) < (q.made.length : Nat); omega) fun one t2 hi1 hc1 gd1 l1 h1 M1 H1 s1 => ?_
  have h1' : one < q.made.length := by have : (one : Int) < (q.made.length : Nat) := h1; omega
  obtain ⟨vo, hO⟩ := M1.fO
  refine T_storeE C hO (fun l2 hO2 s2 => ?_) (by rw [eO]; rfl) (by rfl)
  have M2 := M1.setO hO2 s2
  obtain ⟨mvs2, hm2, hmc2⟩ := M2.fM
  have G2 := M2.fA
  repeat' (first | walk_at "m" | walk_at "a")
  refine T_nameE C hO2 ?_ (by rw [eO]; rfl)
  refine T_itemCN hm2 hmc2 h1' (by show q.made.length < _; omega) fun v hv => ?_
  repeat' (first | walk_at "m" | walk_at "a")
  have okm : OkC q.sig (q.made.getD one (5, 0)) := I.gc.md _ (getD_mem h1')
  obtain ⟨ok, rt, sv⟩ := I.gc.see h1'
  have edr : dr (q.real j (hbOf ps) (bbOf ps)) (q.made.getD one (5, 0)) = dr q.sig (q.made.getD one (5, 0)) := real_dr I.gc.sh okm
  refine T_spec C3 (glob_spec G2 SZ (by show q.heap.length + 1 < _; have := I.s1; omega) (real_down I.gc.sh) hv okm (by rw [show dr _ _ = _ from edr]; exact real_ok ok)) ?_
  intro r l3 hr
  rw [show dr _ _ = _ from edr] at hr
  by_cases h0 : (dr q.sig (q.made.getD one (5, 0))).1 = 1
  · rw [if_pos h0] at hr
    obtain ⟨hr1, G3, s3⟩ := hr
    obtain ⟨q', e1, e2, e3, e4, I', e5, e6⟩ := I.glob h1' h0
    have M3 := M2.setA G3 s3
    have M3' : MS w cvs l0 l3 κ Z n ⟨hi1, hc1, gd1, q'.real j (hbOf ps) (bbOf ps), q'.made, q'.groups, q'.val, ps⟩ := by
      rw [← e1, e2, e3, e4]; exact M3
    clear M3 G3
    have G3 := M3'.fA
    have hO3 := hO2.sub s3 (tne3 M2.t11 M2.t2 M2.t3 M2.t4 (by decide) (by decide) (by decide))
    obtain ⟨mvs3, hm3, hmc3⟩ := M3'.fM
    have h3' : one < q'.made.length := by rw [e2]; exact h1'
    have SZ' := I'.sz (h := hbOf ps) (b := bbOf ps) (by omega)
    have okm' : OkC q'.sig (q'.made.getD one (5, 0)) := I'.gc.md _ (getD_mem h3')
    have edr' : dr (q'.real j (hbOf ps) (bbOf ps)) (q'.made.getD one (5, 0)) = (0, (q.heap.length : Int)) := by
      rw [real_dr I'.gc.sh okm', e2]; exact e5
    repeat' (first | walk_at "m" | walk_at "a")
    · rename_i hx; simp at hx
    refine T_nameE C hO3 ?_ (by rw [eO]; rfl)
    refine T_itemCN hm3 hmc3 h3' (by show q'.made.length < _; rw [e2]; omega) fun v4 hv4 => ?_
    repeat' (first | walk_at "m" | walk_at "a")
    refine T_spec C1 (deref_spec G3 SZ' (real_down I'.gc.sh) hv4 okm') ?_
    rintro r5 _ ⟨rfl, hr5⟩
    rw [show dr _ _ = _ from edr'] at hr5
    refine C_ne C hr1 hr5 ?_
    repeat' (first | walk_at "m" | walk_at "a")
    · rename_i hx; exact absurd rfl hx
    have K3 := ((K.step s1).step s2).step s3
    have hst : q.stack.length = q'.stack.length := by
      have z := congrArg (fun s : Sig => s.stack.length) e1
      have hn0 : ¬ ((dr q.sig (q.made.getD one (5, 0))).1 = 0) := by omega
      simp only [bindS, hn0, if_false, List.length_set, List.length_append, Snap.real] at z
      omega
    exact ⟨rfl, _, _, _, _, _, _, _, _, _, ⟨M3'.up (Nat.le_succ n), I', H1, ⟨nf1, nf2, nf3, nf4, nf5, ⟨_, by rw [← hst]; exact nf6⟩, ⟨_, nf7⟩⟩, eG, eO, eJ⟩, K3.fin rfl rfl e6, _, hd⟩
  · rw [if_neg h0] at hr
    obtain ⟨rfl, hr1⟩ := hr
    repeat' (first | walk_at "m" | walk_at "a")
    · exact absurd (by assumption) h0
    refine T_nameE C hO2 ?_ (by rw [eO]; rfl)
    refine T_itemCN hm2 hmc2 h1' (by show q.made.length < _; omega) fun v4 hv4 => ?_
    repeat' (first | walk_at "m" | walk_at "a")
    refine T_spec C1 (deref_spec G2 SZ (real_down I.gc.sh) hv4 okm) ?_
    rintro r5 _ ⟨rfl, hr5⟩
    rw [show dr _ _ = _ from edr] at hr5
    refine C_ne C hr1 hr5 ?_
    repeat' (first | walk_at "m" | walk_at "a")
    · rename_i hx; exact absurd rfl hx
    have K3 := (K.step s1).step s2
    exact ⟨rfl, _, _, _, _, _, _, _, _, _, ⟨M2.up (Nat.le_succ n), I.up (Nat.le_succ n), H1, ⟨nf1, nf2, nf3, nf4, nf5, ⟨_, nf6⟩, ⟨_, nf7⟩⟩, eG, eO, eJ⟩, K3.fin rfl rfl K.ok, _, hd⟩
end Mine
end
section
open PySem PySem.W PySem.Calls PyProof.Rows PyProof.V PySem.Spec
namespace Mine
theorem fillK_turn : PySem.Challenge.rw_no0163_01.prog = PySem.Challenge.rw_no0163_01.prog ∧ (∀ w : World, (hd.heap_39 w.params) = hd.heap_39 w.params) := by
  k_fill
  exact ⟨rfl, fun _ => rfl⟩

local macro_rules | `(tactic| walk_at "t") => `(tactic| first
  | with_reducible refine T_truthyB ?_
  | with_reducible refine SeqP.next ?_
  | with_reducible refine and_none ?_
  | with_reducible refine and_int ?_
  | with_reducible refine SeqP.ret ?_
  | with_reducible refine RetP.ret ?_
  | with_reducible refine RetP.next ?_
  | with_reducible refine T_nil ?_
  | ((with_reducible refine T_assign ?_ ?hs); (case hs => rfl))
  | ((with_reducible refine T_assignS ?_ ?hs); (case hs => rfl))
  | ((with_reducible refine T_assignA ?_ ?hs); (case hs => rfl))
  | ((with_reducible refine T_expr ?_ ?hi ?hs); (case hi => rfl); (case hs => rfl))
  | with_reducible refine T_if ?_
  | with_reducible refine T_ret ?_
  | with_reducible refine T_ret0 ?_
  | with_reducible refine T_aug ?_
  | ((with_reducible refine T_cmpI ?_ ?hs); (case hs => with_unfolding_all rfl))
  | ((with_reducible refine T_cmp ?_ ?hs); (case hs => with_unfolding_all rfl))
  | with_reducible refine T_and ?_
  | with_reducible refine T_and0 ?_
  | with_reducible refine T_or ?_
  | with_reducible refine T_or0 ?_
  | with_reducible refine T_notI ?_
  | ((with_reducible refine' T_name ?C ?hv ?_ ?hl ?hd); (case C => assumption); (case hl => rfl); (case hd => decide); (case hv => first | rfl | assumption))
  | ((with_reducible refine' T_nameL ?C ?hv ?_ ?hl); (case C => assumption); (case hl => rfl); (case hv => first | rfl | assumption))
  | ((with_reducible refine' T_nameK ?C ?he ?_ ?hl ?hd); (case C => assumption); (case hl => rfl); (case hd => decide); (case he => k_is))
  | ((with_reducible refine' T_nameB ?C ?he ?hv ?hn ?_ ?hl ?hd); (case C => assumption); (case hl => rfl); (case hd => decide); (case he => k_is); (case hv => boot_by_name); (case hn => decide))
  | (with_reducible refine T_int (fun _ => ?_))
  | with_reducible refine T_true ?_
  | with_reducible refine T_sub ?_
  | ((with_reducible refine T_attr ?_ ?he); (case he => with_unfolding_all rfl))
  | with_reducible refine T_bin ?_
  | with_reducible refine T_un ?_
  | with_reducible refine T_ifexp ?_
  | with_reducible refine T_tuple ?_
  | with_reducible refine T_list ?_
  | with_reducible refine T_truthyB ?_
  | with_reducible refine Ite_t ?_
  | with_reducible refine Ite_f ?_
  | with_reducible refine Ite_d (fun _ => ?_) (fun _ => ?_)
  | with_reducible refine Ite_n (fun _ => ?_) (fun _ => ?_)
  | with_reducible refine T_eqI ?_
  | with_reducible refine T_neI ?_
  | with_reducible refine T_ltI ?_
  | with_reducible refine T_leI ?_
  | with_reducible refine T_gtI ?_
  | with_reducible refine T_geI ?_
  | (with_reducible refine T_add (fun _ => ?_))
  | (with_reducible refine T_iadd (fun _ => ?_))
  | (with_reducible refine T_subI (fun _ => ?_))
  | (with_reducible refine T_neg (fun _ => ?_))
  | ((with_reducible refine' T_meth ?_ ?he); rotate_left; (case he => rfl))
  | ((with_reducible refine T_call ?_ ?he); (case he => rfl))
  | ((with_reducible refine T_callBf ?_ ?he ?hp); (case he => rfl); (case hp => rfl))
  | ((with_reducible refine T_callBm ?_ ?he ?hp); (case he => rfl); (case hp => rfl))
  | with_reducible refine T_callB0m ?_
  | ((with_reducible refine' T_callKf ?C ?hk ?_ ?he ?hp); (case C => assumption); (case hk => k_is); (case he => rfl); (case hp => rfl))
  | ((with_reducible refine' T_callKm ?C ?hk ?_ ?he ?hp); (case C => assumption); (case hk => k_is); (case he => rfl); (case hp => rfl))
  | ((with_reducible refine' T_callK0f ?C ?hk ?_); (case C => assumption); (case hk => k_is))
  | ((with_reducible refine' T_callK0m ?C ?hk ?_); (case C => assumption); (case hk => k_is))
  | ((with_reducible refine T_callT ?_ ?he ?hp); (case he => rfl); (case hp => rfl))
  | ((with_reducible refine T_items ?_ ?he); (case he => rfl))
  | with_reducible refine T_items0 ?_
  | ((with_reducible refine' T_store ?C ?_ ?hl); (case C => assumption); (case hl => rfl))
  | ((with_reducible refine T_plainI ?_ ?he); (case he => rfl)))

theorem law_turn {w : World} {oc : Value} {od : Option Addr} {name qual : Str} {params : Arguments} {body : List Stmt} {scope : Scope} {dV kV doc pm cdv ct : Value} {an : Option Addr} {osl : Array (Option Value)}
    (ho : (hd.heap_39 w.params).lookup 352 = some ⟨oc, od, .func (fnOf name qual params body scope dV kV doc pm an cdv ct), osl⟩)
    {A : Around} {g : Heap} {L f : Addr} {cdv' : Value} {m : Map} {l : Led} {tb : List Stmt} {n : Nat} {κ : Addr → Nat} {Z : Loc} {hi : Nat} {hc gd : Int} {q : Snap} {j : List Cc} {ps : List Snap} {fr : Int} {ns : List Int} {cvs : List Value} (C : Ctx w 8 A (envOfC qual scope L f cdv') g L)
    (hI : IntsAre cvs ns) (hns : ns.length ≤ 63) (hn : n ≤ 25) (W : LW w ns cvs L l n m l κ Z hi hc gd q j ps fr)
    (htb : turnOf body = tb) : Tri w A g L (execs tb (envOfC qual scope L f cdv')) m l (fun fl m' l' => fl = .next ∧ (∃ κ Z hi hc gd q j ps fr, LW w ns cvs L [] (n + 1) m' l' κ Z hi hc gd q j ps fr) ∧ ∀ p ∈ l, isIt p.2 = true → p ∈ l') := by
  refine body_of ho (by k_is) ?_
  intro hq hb hsc
  subst hq hb hsc
  simp only [turnOf, tl4, tl1, the1, forB] at htb
  subst htb
  have C1 : Ctx w 1 A _ g L := C.down (by omega)
  have C2 : Ctx w 2 A _ g L := C.down (by omega)
  obtain ⟨M, I, H, NN, eG, eO, eJ⟩ := W
  obtain ⟨nf1, nf2, nf3, nf4, nf5, ⟨ta, nf6⟩, ⟨tf, nf7⟩⟩ := NN
  have SZ := I.sz (h := hbOf ps) (b := bbOf ps) (by omega)
  have hml : q.made.length ≤ 26 := by have := I.s4; omega
  repeat' (first | walk_at "m")
  refine T_pickL C1 M hI hns H (by decide) fun d0 t0 hi1 hc1 gd1 l1 hd0 M1 H1 s1 => ?_
  have hd0' : d0 ≤ 8 := by omega
  have G1 := M1.fA
  repeat' (first | walk_at "m" | walk_at "a")
  refine A_tlen G1 SZ.t fun t1 => ?_
  repeat' (first | walk_at "m" | walk_at "a")
  refine C_new ?_
  rintro _ l2 ⟨b2, t2, u2, rfl, q2⟩ s2 _
  have M2 := M1.sub0 s2
  walk_at "m"
  walk_at "m"
  -- the deed
  refine T_cons (Tri.mono (Φ := fun fl m' l' => fl = .next ∧ ∃ dd : Nat, dd ≤ 8 ∧ (q.made.length = 0 → dd = 0 ∨ dd = 1 ∨ dd = 4 ∨ dd = 5 ∨ dd = 6) ∧ LW w ns cvs L l n m' l' κ Z hi1 hc1 gd1 q j ps fr ∧ Chk m' l' q.trail.length (hbOf ps) (bbOf ps) q.trail ∧ ∃ t, m' (Str.ofString "deed") = some (.int dd t)) ?_ ?_)
  · obtain ⟨mvs, hm, hmc⟩ := M2.fM
    have eml : ({ i := hi1, c := hc1, gd := gd1, σ := q.real j (hbOf ps) (bbOf ps), made := q.made, groups := q.groups, val := q.val, ps := ps } : LSt).made.length = q.made.length := rfl
    have hmz : q.made.length < 100000 := by omega
    repeat' (first | walk_at "m" | ((with_reducible refine T_lenC hm hmc ?hz (fun _ => ?_)); (case hz => exact hmz)))
    · refine T_newList (by rw [sizeLine_eq]; simp) fun b4 l4 h4 s4 n4 => ?_
      have M4 := M2.sub0 s4
      refine T_notInL h4 (.cons _ _ (.cons _ _ (.cons _ _ .nil))) ?_
      walk_at "m"
      refine Ite_b (fun hin => ?_) (fun hin => ?_)
      · walk_at "m"
        repeat' (first | walk_at "m")
        refine T_mod (by decide) fun t6 => ?_
        repeat' (first | walk_at "m")
        have em : Int.fmod (d0 : Int) 2 = ((d0 % 2 : Nat) : Int) := by
          rw [Int.fmod_eq_emod_of_nonneg _ (by decide)]; rfl
        rw [em]
        exact ⟨rfl, d0 % 2, by omega, by omega, ⟨M4, I, H1, ⟨nf1, nf2, nf3, nf4, nf5, ⟨_, nf6⟩, ⟨_, nf7⟩⟩, eG, eO, eJ⟩, ⟨⟨_, rfl⟩, ⟨b2, t2, u2, rfl, q2.sub s4⟩, drop_self _⟩, ⟨_, rfl⟩⟩
      · repeat' (first | walk_at "m")
        refine ⟨rfl, d0, hd0', ?_, ⟨M4, I, H1, ⟨nf1, nf2, nf3, nf4, nf5, ⟨_, nf6⟩, ⟨_, nf7⟩⟩, eG, eO, eJ⟩, ⟨⟨_, rfl⟩, ⟨b2, t2, u2, rfl, q2.sub s4⟩, drop_self _⟩, ⟨_, rfl⟩⟩
        intro _
        simp at hin
        omega
    · refine ⟨rfl, d0, hd0', fun e => ?_, ⟨M2, I, H1, ⟨nf1, nf2, nf3, nf4, nf5, ⟨_, nf6⟩, ⟨_, nf7⟩⟩, eG, eO, eJ⟩, ⟨⟨_, rfl⟩, ⟨b2, t2, u2, rfl, q2⟩, drop_self _⟩, ⟨_, rfl⟩⟩
      have e' : ((q.made.length : Nat) : Int) = 0 := by omega
      exact absurd e' (by assumption)
  rintro _ m3 l3 ⟨rfl, dd, hdd, hdc, W3, K3, td, hd3⟩
  refine SeqP.next ?_
  refine T_cons (Tri.mono (Φ := fun fl m' l' => fl = .next ∧ Mid w ns cvs L l (n + 1) dd q.trail.length (hbOf ps) (bbOf ps) m' l') ?_ ?_)
  · have W3' := W3
    obtain ⟨M3, I3, H3, ⟨g1, g2, g3, g4, g5, ⟨tb, g6⟩, ⟨tg, g7⟩⟩, _, _, _⟩ := W3
    have keep : ∀ l', Sub [] l3 l' → Mid w ns cvs L l (n + 1) dd q.trail.length (hbOf ps) (bbOf ps) m3 l' := fun l' s => ⟨_, _, _, _, _, _, _, _, _, ⟨(M3.sub0 s).up (Nat.le_succ n), I3.up (Nat.le_succ n), H3, ⟨g1, g2, g3, g4, g5, ⟨_, g6⟩, ⟨_, g7⟩⟩, eG, eO, eJ⟩, (K3.step s).fin rfl rfl K3.ok, _, hd3⟩
    repeat' (first | walk_at "t")
    · exact deed0 ho C hI hns (by omega) W3' K3 ⟨_, hd3⟩ rfl
    walk_at "m"
    repeat' (first | walk_at "t")
    · refine fin_next (deed1 ho C hI hns (by omega) W3' K3 ⟨_, hd3⟩ rfl) fun _ _ z => seq_end ⟨rfl, z⟩
    · refine fin_next (deed1 ho C hI hns (by omega) W3' K3 ⟨_, hd3⟩ rfl) fun _ _ z => seq_end ⟨rfl, z⟩
    walk_at "m"
    repeat' (first | walk_at "t")
    · refine fin_next (deed2 ho C hI hns (by omega) W3' K3 ⟨_, hd3⟩ (by omega) rfl) fun _ _ z => seq_end (seq_end ⟨rfl, z⟩)
    · refine fin_next (deed2 ho C hI hns (by omega) W3' K3 ⟨_, hd3⟩ (by omega) rfl) fun _ _ z => seq_end (seq_end ⟨rfl, z⟩)
    walk_at "m"
    repeat' (first | walk_at "t")
    · refine fin_next (deed3 ho C hI hns (by omega) W3' K3 ⟨_, hd3⟩ (by omega) rfl) fun _ _ z => seq_end (seq_end (seq_end ⟨rfl, z⟩))
    walk_at "m"
    repeat' (first | walk_at "t")
    · refine fin_next (deed4 ho C hI hns (by omega) W3' K3 ⟨_, hd3⟩ rfl) fun _ _ z => seq_end (seq_end (seq_end (seq_end ⟨rfl, z⟩)))
    walk_at "m"
    repeat' (first | walk_at "t")
    · refine T_newList (by rw [sizeLine_eq]; simp) fun b4 l4 h4 s4 n4 => ?_
      have M4 := M3.sub0 s4
      obtain ⟨pvs, hp, hpr⟩ := M4.fP
      refine T_neNil C hp h4 ?_
      repeat' (first | walk_at "t")
      · have hps : ps ≠ [] := fun e => by
          have := hpr.len
          have e2 : ({ i := hi1, c := hc1, gd := gd1, σ := q.real j (hbOf ps) (bbOf ps), made := q.made, groups := q.groups, val := q.val, ps := ps } : LSt).ps = [] := e
          rw [e2] at this
          exact absurd this (by assumption)
        refine fin_next (deed5 ho C hI hns (by omega) ⟨M4, I3, H3, ⟨g1, g2, g3, g4, g5, ⟨_, g6⟩, ⟨_, g7⟩⟩, eG, eO, eJ⟩ (K3.step s4) ⟨_, hd3⟩ hps rfl) fun _ _ z => seq_end (seq_end (seq_end (seq_end (seq_end ⟨rfl, z⟩))))
      walk_at "m"
      repeat' (first | walk_at "t")
      · exfalso; omega
      repeat' (first | walk_at "m")
      exact ⟨rfl, keep _ s4⟩
    walk_at "m"
    obtain ⟨mvs, hm, hmc⟩ := M3.fM
    have hmz : q.made.length < 100000 := by omega
    repeat' (first | walk_at "t" | ((with_reducible refine T_lenC hm hmc ?hz (fun _ => ?_)); (case hz => exact hmz)))
    · have hpos : (0 : Int) < (q.made.length : Nat) := by assumption
      refine fin_next (deed6 ho C hI hns (by omega) W3' K3 ⟨_, hd3⟩ (by omega) rfl) fun _ _ z => seq_end (seq_end (seq_end (seq_end (seq_end (seq_end ⟨rfl, z⟩)))))
    · repeat' (first | walk_at "m")
      exact ⟨rfl, keep _ Sub.refl⟩
    · repeat' (first | walk_at "m")
      exact ⟨rfl, keep _ Sub.refl⟩
  rintro _ m4 l4 ⟨rfl, κ4, Z4, hi4, hc4, gd4, q4, j4, ps4, fr4, W4, K4, td4, hd4⟩
  refine SeqP.next ?_
  refine T_cons (Tri.mono (Φ := fun fl m' l' => fl = .next ∧ Mid w ns cvs L l (n + 1) dd q.trail.length (hbOf ps) (bbOf ps) m' l') ?_ ?_)
  · obtain ⟨M4, I4, H4, ⟨g1, g2, g3, g4, g5, ⟨tb, g6⟩, ⟨tg, g7⟩⟩, fG, fO, fJ⟩ := W4
    have keep : ∀ l' hi' hc' gd', MS w cvs l l' κ4 Z4 (n + 1) ⟨hi', hc', gd', q4.real j4 (hbOf ps4) (bbOf ps4), q4.made, q4.groups, q4.val, ps4⟩ → HI ns hi' gd' → Chk m4 l' q.trail.length (hbOf ps) (bbOf ps) q4.trail → Mid w ns cvs L l (n + 1) dd q.trail.length (hbOf ps) (bbOf ps) m4 l' :=
      fun l' hi' hc' gd' M H K => ⟨_, _, _, _, _, _, _, _, _, ⟨M, I4, H, ⟨g1, g2, g3, g4, g5, ⟨_, g6⟩, ⟨_, g7⟩⟩, fG, fO, fJ⟩, K, _, hd4⟩
    repeat' (first | walk_at "t")
    refine T_newList (by rw [sizeLine_eq]; simp) fun b6 l6 h6 s6 n6 => ?_
    have M6 := M4.sub0 s6
    have K6 := K4.step s6
    refine T_inL h6 (.cons _ _ (.cons _ _ .nil)) ?_
    walk_at "t"
    refine Ite_b (fun hin => ?_) (fun hin => ?_)
    · repeat' (first | walk_at "t")
      refine T_newList (by rw [sizeLine_eq]; simp) fun b7 l7 h7 s7 n7 => ?_
      have M7 := M6.sub0 s7
      have K7 := K6.step s7
      obtain ⟨pvs, hp, hpr⟩ := M7.fP
      refine T_neNil C hp h7 ?_
      repeat' (first | walk_at "t")
      · refine T_pickL C1 M7 hI hns H4 (by decide) fun d8 t8 hi8 hc8 gd8 l8 hd8 M8 H8 s8 => ?_
        have K8 := K7.step s8
        repeat' (first | walk_at "t")
        · obtain ⟨pvs8, hp8, hpr8⟩ := M8.fP
          have hpr8' : PtsR w l8 κ4 (n + 1) pvs8 ps4 := hpr8
          cases hpr8' with
          | nil => have := hpr.len; exact absurd this (by assumption)
          | @snoc vs0 ps' pv p hp0 P =>
          have hlen0 : vs0.length ≤ 30 := by rw [hp0.len]; have := I4.s5; simp at this; omega
          walk_at "m"
          refine T_exprR ?_
          repeat' (first | walk_at "t")
          refine T_popM hp8 ?_
          repeat' (first | walk_at "t")
          refine T_pop hp8 (by rw [sizeLine_eq]; omega) fun l9 hp9 s9 => ?_
          have M9 := M8.setP (ps' := ps') ⟨_, hp9, hp0.imp fun _ _ z => z.sub s9 (low1 M8.t9 (by decide))⟩ s9
          have K9 := K8.step s9
          have G9 := M9.fA
          obtain ⟨pvs9, hp9', hpr9⟩ := M9.fP
          have fin4 : ∀ {l' : Led} {S' : LSt}, MS w cvs l l' κ4 Z4 (n + 1) S' → S' = ⟨hi8, hc8, gd8, q4.real j4 (hbOf ps') (bbOf ps'), q4.made, q4.groups, q4.val, ps'⟩ → Chk m4 l' q.trail.length (hbOf ps) (bbOf ps) q4.trail → Mid w ns cvs L l (n + 1) dd q.trail.length (hbOf ps) (bbOf ps) m4 l' :=
            fun M e K => by subst e; exact ⟨_, _, _, _, _, _, _, _, _, ⟨M, I4.pop, H8, ⟨g1, g2, g3, g4, g5, ⟨_, g6⟩, ⟨_, g7⟩⟩, fG, fO, fJ⟩, K, _, hd4⟩
          cases hp0 with
          | nil =>
            repeat' (first | walk_at "m")
            refine T_newList (by rw [sizeLine_eq]; simp) fun b10 l10 h10 s10 n10 => ?_
            have M10 := M9.sub0 s10
            have K10 := K9.step s10
            refine T_neNil C (hp9.sub s10 (by simp)) h10 ?_
            repeat' (first | walk_at "t")
            · exact absurd (rfl : ([] : List Value).length = 0) (by assumption)
            refine A_sethb C M10.fA fun l11 G11 s11 => ?_
            have M11 := M10.setB G11 s11
            have K11 := K10.step s11
            have hp11 := (hp9.sub s10 (by simp)).sub s11 (tne M10.t9 M10.t5 (by decide))
            repeat' (first | walk_at "m")
            refine T_newList (by rw [sizeLine_eq]; simp) fun b12 l12 h12 s12 n12 => ?_
            have M12 := M11.sub0 s12
            have K12 := K11.step s12
            refine T_neNil C (hp11.sub s12 (by simp)) h12 ?_
            repeat' (first | walk_at "t")
            · exact absurd (rfl : ([] : List Value).length = 0) (by assumption)
            refine A_setbb C M12.fA fun l13 G13 s13 => ?_
            have M13 := M12.setB G13 s13
            have K13 := K12.step s13
            repeat' (first | walk_at "m")
            exact ⟨rfl, fin4 M13 rfl K13⟩
          | @snoc vs1 ps2 pv2 p2 hp1 P2 =>
            have hlen1 : vs1.length ≤ 30 := by simp at hlen0; omega
            obtain ⟨b, bh, bs, bt, bg, bv, tm, tt, vh, vs, vt, vg, rfl, q0, c1, c2, c3, c4, _, _, _, _, _, k1, k2, _⟩ := P2
            have pz : p2.heap.length ≤ 30 ∧ p2.stack.length ≤ 30 := by
              have r := I4.rc p2 (.tail _ (.head _))
              obtain ⟨_, r⟩ := r
              have := r.h; have := r.s; have := I4.s1; have := I4.s2; omega
            obtain ⟨pz1, pz2⟩ := pz
            have lo9 := low1 M8.t9 (by decide : (9 : Nat) < 50)
            have lo5 := low1 M8.t5 (by decide : (5 : Nat) < 50)
            repeat' (first | walk_at "m")
            refine T_newList (by rw [sizeLine_eq]; simp) fun b10 l10 h10 s10 n10 => ?_
            have M10 := M9.sub0 s10
            have K10 := K9.step s10
            have hp10 := hp9.sub s10 (by simp)
            have q10 := (q0.sub s9).sub s10
            refine T_neNil C hp10 h10 ?_
            repeat' (first | walk_at "t")
            rotate_left
            · exfalso
              have hx : ¬ ((vs1 ++ [Value.ref b]).length ≠ 0) := by assumption
              simp at hx
            refine T_lastL hp10 (by omega) ?_
            repeat' (first | walk_at "t" | ((with_reducible refine T_itemT q10 (by decide) (by decide) (j := 0) rfl rfl ?_ ?hs); (case hs => with_unfolding_all rfl)))
            refine T_lenC ((c1.sub s9 (lo9.no k1)).sub s10 (by simp)) ((c2.sub s9).sub s10) (by omega) fun t12 => ?_
            repeat' (first | walk_at "t")
            refine A_sethb C M10.fA fun l11 G11 s11 => ?_
            have M11 := M10.setB G11 s11
            have K11 := K10.step s11
            have hp11 := hp10.sub s11 (tne M10.t9 M10.t5 (by decide))
            repeat' (first | walk_at "m")
            refine T_newList (by rw [sizeLine_eq]; simp) fun b12 l12 h12 s12 n12 => ?_
            have M12 := M11.sub0 s12
            have K12 := K11.step s12
            have hp12 := hp11.sub s12 (by simp)
            have q12 := (q10.sub s11).sub s12
            refine T_neNil C hp12 h12 ?_
            repeat' (first | walk_at "t")
            rotate_left
            · exfalso
              have hx : ¬ ((vs1 ++ [Value.ref b]).length ≠ 0) := by assumption
              simp at hx
            refine T_lastL hp12 (by omega) ?_
            repeat' (first | walk_at "t" | ((with_reducible refine T_itemT q12 (by decide) (by decide) (j := 1) rfl rfl ?_ ?hs); (case hs => with_unfolding_all rfl)))
            refine T_lenC ((((c3.sub s9 (lo9.no k2)).sub s10 (by simp)).sub s11 (lo5.no k2)).sub s12 (by simp)) ((((c4.sub s9).sub s10).sub s11).sub s12) (by omega) fun t13 => ?_
            repeat' (first | walk_at "t")
            refine A_setbb C M12.fA fun l13 G13 s13 => ?_
            have M13 := M12.setB G13 s13
            have K13 := K12.step s13
            repeat' (first | walk_at "m")
            exact ⟨rfl, fin4 M13 rfl K13⟩
        · repeat' (first | walk_at "m")
          exact ⟨rfl, keep _ _ _ _ M8 H8 K8⟩
      · repeat' (first | walk_at "m")
        exact ⟨rfl, keep _ _ _ _ M7 H4 K7⟩
    · repeat' (first | walk_at "m")
      exact ⟨rfl, keep _ _ _ _ M6 H4 K6⟩
  rintro _ m5 l5 ⟨rfl, κ5, Z5, hi5, hc5, gd5, q5, j5, ps5, fr5, W5, K5, td5, hd5⟩
  refine SeqP.next ?_
  obtain ⟨M5, I5, H5, ⟨g1, g2, g3, g4, g5, ⟨tb5, g6⟩, ⟨tg5, g7⟩⟩, fG, fO, fJ⟩ := W5
  obtain ⟨⟨tt5, k1⟩, ⟨bl, tl1', tl2', k2, k3⟩, k4⟩ := K5
  have G5 := M5.fA
  have SZ5 := I5.sz (h := hbOf ps5) (b := bbOf ps5) (by omega)
  walk_at "m"
  refine T_for C ?_
  repeat' (first | walk_at "t" | walk_at "a")
  refine T_slice ?_
  refine T_part ?_
  repeat' (first | walk_at "t" | walk_at "a")
  refine T_part0 ?_
  intro sl l6 hsl s6 n6
  have M6 := M5.sub0 s6
  obtain ⟨tvs, ht, htc⟩ := M6.fA.tp
  have htc' : IntsAre tvs q5.trail := htc
  refine T_sliceA ht hsl (.int _ _) .none (by rw [htc'.length, sizeLine_eq]; have := I5.s3; omega) fun b7 l7 h7 s7 n7 => ?_
  have hti : IntsAre (tvs.drop q.trail.length) (q5.trail.drop q.trail.length) := by
    have := slice_ints_fromW htc' (x := (q.trail.length : Nat)) (by omega)
    rw [pick_drop] at this
    exact this
  rw [pick_drop] at h7
  intro s F N
  have S57 : Sub [] l5 l7 := s6.trans s7
  refine iter_lst C h7 (fun i m' l' => (∀ x, x ≠ Str.ofString "entry" → m' x = m5 x) ∧ Sub [] l7 l') (fun i m l₁ l' h1 h2 => ⟨h2.1, h1.old h2.2⟩) ⟨fun _ _ => rfl, Sub.refl⟩ ?_ ?_ s F N
  · rintro i v m8 l8 hiv ⟨e8, S8⟩
    have hi' : i < (tvs.drop q.trail.length).length := (List.getElem?_eq_some_iff.mp hiv).1
    have hi2 : i < (q5.trail.drop q.trail.length).length := by rw [← hti.length]; exact hi'
    obtain ⟨te, hv⟩ := ints_at hti (k := i) hi' hi2
    rw [(List.getElem?_eq_some_iff.mp hiv).2] at hv
    subst hv
    obtain ⟨o1, o2⟩ := k4 _ (List.getElem_mem hi2)
    generalize (q5.trail.drop q.trail.length)[i] = e at o1 o2
    have k2' : m8 (Str.ofString "limits") = some (.ref bl) := (e8 _ (by decide)).trans k2
    have k3' := k3.sub (S57.trans S8)
    repeat' (first | walk_at "m" | ((with_reducible refine T_itemT k3' (by decide) (by decide) (j := 0) rfl rfl ?_ ?hs); (case hs => with_unfolding_all rfl)) | ((with_reducible refine T_itemT k3' (by decide) (by decide) (j := 1) rfl rfl ?_ ?hs); (case hs => with_unfolding_all rfl)))
    all_goals first
      | (exfalso; omega)
      | exact ⟨⟨fun x hx => by show (if x = _ then _ else m8 x) = m5 x; rw [if_neg hx]; exact e8 x hx, S8⟩, fun p hp _ => hp⟩
  · rintro m8 l8 ⟨e8, S8⟩
    have M8 := (M6.sub0 s7).sub0 S8
    have g1' : m8 (Str.ofString "areas") = some (.ref Z5.a.ax) := (e8 _ (by decide)).trans g1
    have g2' : m8 (Str.ofString "hand") = some (.ref Z5.hA) := (e8 _ (by decide)).trans g2
    have g3' : m8 (Str.ofString "made") = some (.ref Z5.mA) := (e8 _ (by decide)).trans g3
    have g4' : m8 (Str.ofString "values") = some (.ref Z5.vA) := (e8 _ (by decide)).trans g4
    have g5' : m8 (Str.ofString "points") = some (.ref Z5.pA) := (e8 _ (by decide)).trans g5
    have g6' : m8 (Str.ofString "above") = some (.int q5.stack.length tb5) := (e8 _ (by decide)).trans g6
    have g7' : m8 (Str.ofString "fresh") = some (.int fr5 tg5) := (e8 _ (by decide)).trans g7
    have G8 := M8.fA
    repeat' (first | walk_at "m")
    refine T_spec C1 (sound_spec G8 SZ5 I5.gc.sound) ?_
    rintro _ l9 ⟨rfl, G9, s9⟩
    have M9 := M8.sub0 s9
    obtain ⟨mvs, hm, hmc⟩ := M9.fM
    obtain ⟨gvs, hg, hgi⟩ := M9.fG
    repeat' (first | walk_at "m")
    refine Ite_F rfl ?_
    repeat' (first | walk_at "m")
    refine T_nameE C M9.fE ?_ (by rw [fG]; rfl)
    repeat' (first | walk_at "m")
    refine T_spec C2 (agree_spec M9.fA SZ5 (real_down I5.gc.sh) hm hmc hg hgi M9.fV I5.gc.md (by show q5.made.length < _; have := I5.s4; omega) I5.gc.agree) ?_
    rintro _ l10 ⟨rfl, s10⟩
    have M10 := M9.sub0 s10
    repeat' (first | walk_at "m")
    refine Ite_F rfl ?_
    repeat' (first | walk_at "m")
    exact ⟨rfl, ⟨_, _, _, _, _, _, _, _, _, ⟨{ M10 with ki := fun p hp => by cases hp }, I5, H5, ⟨g1', g2', g3', g4', g5', ⟨_, g6'⟩, ⟨_, g7'⟩⟩, fG, fO, fJ⟩⟩, M10.ki⟩
end Mine
end
section
open PySem PySem.W PySem.Calls PyProof.Rows PyProof.V PySem.Spec
namespace Mine
theorem fillK_law : PySem.Challenge.rw_no0163_01.prog = PySem.Challenge.rw_no0163_01.prog ∧ (∀ w : World, (hd.heap_39 w.params) = hd.heap_39 w.params) := by
  k_fill
  exact ⟨rfl, fun _ => rfl⟩

theorem law_walk {w : World} {oc : Value} {od : Option Addr} {name qual : Str} {params : Arguments} {body : List Stmt} {scope : Scope} {dV kV doc pm cdv ct : Value} {an : Option Addr} {osl : Array (Option Value)}
    (ho : (hd.heap_39 w.params).lookup 352 = some ⟨oc, od, .func (fnOf name qual params body scope dV kV doc pm an cdv ct), osl⟩)
    {A : Around} {g : Heap} {L f : Addr} {cdv' : Value} {m : Map} {l : Led} {sA : Addr} {svs : List Value} {sns : List Int} (C : Ctx w 8 A (envOfC qual scope L f cdv') g L)
    (hs : m (Str.ofString "script") = some (.ref sA)) (hsl : g.IsList sA svs.toArray) (hsi : IntsAre svs sns) (hz : sns.length ≤ 63) (hG : CE l (L + 1) none) (hO : CE l (L + 1 + 1) none) (hJ : CE l (L + 1 + 1 + 1) none) :
    Tri w A g L (execs body (envOfC qual scope L f cdv')) m l (fun fl _ _ => fl = .ret (.bool true)) := by
  refine body_of ho (by k_is) ?_
  intro hq hb hsc
  subst hq hb hsc
  have C1 : Ctx w 1 A _ g L := C.down (by omega)
  walk_at "m"
  walk_at "m"
  walk_at "m"
  walk_at "m"
  refine T_slice ?_
  refine T_part0 ?_
  refine T_part ?_
  walk_at "m"
  intro sl l1 hsl1 s1 n1
  refine T_sliceB hsl hsl1 .none (.int _ _) (by rw [sizeLine_eq, hsi.length]; omega) fun cA l2 hc2 s2 n2 => ?_
  have hc2' : LL l2 cA (svs.take 63) := by rw [← pick_take]; exact hc2
  clear hc2
  have hI : IntsAre (svs.take 63) (sns.take 63) := slice_ints_upto' hsi
  have hns : (sns.take 63).length ≤ 63 := by simp; omega
  generalize sns.take 63 = ns at *
  generalize svs.take 63 = cvs at *
  repeat' (first | walk_at "m")
  refine T_sum C hc2' hI fun t2 => ?_
  repeat' (first | walk_at "m")
  have n1 : (100003 : Int) ≠ 0 := by decide
  refine T_mod n1 fun t3 => ?_
  have fb := fmod_bd (a := ns.sum) (b := 100003) (by decide)
  repeat' (first | walk_at "m" | ((with_reducible refine T_mul ?hm (fun _ => ?_)); (case hm => exact mul_small (by omega) (by omega) (by omega) (by omega))))
  refine T_newList (by rw [sizeLine_eq]; simp) fun hA l3 hh3 s3 n3 => ?_
  have hc3 := hc2'.sub s3 (by simp)
  have hH : HandOk l3 l3 hA cA cvs ((0 : Nat) : Int) 0 (ns.sum.fmod 100003 * 7) := ⟨⟨_, _, _, hh3⟩, hc3, Sub.refl, (n3.neL hc2')⟩
  repeat' (first | walk_at "m")
  refine T_symbols (C.down (by omega)) fun x l4 s4 => ?_
  repeat' (first | walk_at "m")
  refine T_cells (C.down (by omega)) fun a l5 hA5 s5 n5x n5d n5 => ?_
  repeat' (first | walk_at "m")
  refine T_newList (by rw [sizeLine_eq]; simp) fun mA l6 hm6 s6 n6 => ?_
  repeat' (first | walk_at "m")
  refine T_newList (by rw [sizeLine_eq]; simp) fun gA l7 hg7 s7 n7 => ?_
  have S07 : Sub [] l l7 := s1.trans (s2.trans (s3.trans (s4.trans (s5.trans (s6.trans s7)))))
  refine T_storeE C (hG.sub S07 (by simp)) (fun l8 hG8 s8 => ?_) (by rfl) (by rfl)
  repeat' (first | walk_at "m")
  refine D_new C fun vA l9 hv9 s9 n9 => ?_
  repeat' (first | walk_at "m")
  refine T_newList (by rw [sizeLine_eq]; simp) fun pA l10 hp10 s10 n10 => ?_
  -- the tags
  have t0 : Tg l (κ0 L) [(L + 1, 10), (L + 1 + 1, 11), (L + 1 + 1 + 1, 12)] := by
    intro p hp
    simp only [List.mem_cons, List.not_mem_nil, or_false] at hp
    rcases hp with rfl | rfl | rfl
    · exact ⟨κ0_1 L, hG.in⟩
    · exact ⟨κ0_2 L, hO.in⟩
    · exact ⟨κ0_3 L, hJ.in⟩
  have S02 : Sub [] l l2 := s1.trans s2
  have t1 := Tg.add (t := 1) (t0.sub0 S02) (t0.ne (n2.sub s1)) hc2'.in
  have t2 := Tg.add (t := 0) (t1.sub0 s3) (t1.ne n3) hh3.in
  have t3 := (t2.sub0 s4)
  have N5 : ∀ b ∈ a.D, New l4 b := n5
  have t4 := Tg.add (t := 2) (t3.sub0 s5) (t3.ne (N5 a.hA (by simp [Adr.D]))) (let ⟨_, h, _⟩ := hA5.hp; h.in)
  have t5 := Tg.add (t := 3) t4 (by
    intro p hp
    rcases List.mem_cons.mp hp with rfl | hp
    · exact hA5.n1
    · exact t3.ne (N5 a.sA (by simp [Adr.D])) p hp) (let ⟨_, h, _⟩ := hA5.sp; h.in)
  have t6 := Tg.add (t := 4) t5 (by
    intro p hp
    rcases List.mem_cons.mp hp with rfl | hp
    · exact hA5.n3
    rcases List.mem_cons.mp hp with rfl | hp
    · exact hA5.n2
    · exact t3.ne (N5 a.tA (by simp [Adr.D])) p hp) (let ⟨_, h, _⟩ := hA5.tp; h.in)
  have n4d : a.dx ≠ a.hA ∧ a.dx ≠ a.sA ∧ a.dx ≠ a.tA := by simpa [Adr.D] using hA5.n4
  have t7 := Tg.add (t := 5) t6 (by
    intro p hp
    rcases List.mem_cons.mp hp with rfl | hp
    · exact n4d.2.2.symm
    rcases List.mem_cons.mp hp with rfl | hp
    · exact n4d.2.1.symm
    rcases List.mem_cons.mp hp with rfl | hp
    · exact n4d.1.symm
    · exact t3.ne n5d p hp) (let ⟨_, _, h, _⟩ := hA5.di; ⟨_, h⟩)
  have t8 := Tg.add (t := 6) (t7.sub0 s6) (t7.ne n6) hm6.in
  have t9 := Tg.add (t := 7) (t8.sub0 s7) (t8.ne n7) hg7.in
  have t10 := t9.sub1 s8 hG8.in
  have t11 := Tg.add (t := 8) (t10.sub0 s9) (t10.ne n9) hv9.in
  have t12 := Tg.add (t := 9) (t11.sub0 s10) (t11.ne n10) hp10.in
  have S58 : Sub [L + 1] l5 l10 := (s6.mono (by simp)).trans ((s7.mono (by simp)).trans (s8.trans ((s9.mono (by simp)).trans (s10.mono (by simp)))))
  have S67 : Sub [L + 1] l6 l10 := (s7.mono (by simp)).trans (s8.trans ((s9.mono (by simp)).trans (s10.mono (by simp))))
  have S78 : Sub [L + 1] l7 l10 := s8.trans ((s9.mono (by simp)).trans (s10.mono (by simp)))
  have S8 : Sub [] l8 l10 := s9.trans s10
  have S3 : Sub [L + 1] l3 l10 := (s4.mono (by simp)).trans ((s5.mono (by simp)).trans S58)
  have k10 := t12.at (x := L + 1) (i := 10) (by simp)
  have k11 := t12.at (x := L + 1 + 1) (i := 11) (by simp)
  have k12 := t12.at (x := L + 1 + 1 + 1) (i := 12) (by simp)
  have k1 := t12.at (x := cA) (i := 1) (by simp)
  have k0 := t12.at (x := hA) (i := 0) (by simp)
  have k2 := t12.at (x := a.hA) (i := 2) (by simp)
  have k3 := t12.at (x := a.sA) (i := 3) (by simp)
  have k4 := t12.at (x := a.tA) (i := 4) (by simp)
  have k5 := t12.at (x := a.dx) (i := 5) (by simp)
  have k6 := t12.at (x := mA) (i := 6) (by simp)
  have k7 := t12.at (x := gA) (i := 7) (by simp)
  have k8 := t12.at (x := vA) (i := 8) (by simp)
  have k9 := t12.at (x := pA) (i := 9) (by simp)
  have M0 : MS w cvs [] l10 _ ⟨a, hA, cA, mA, gA, vA, pA, L + 1, L + 1 + 1, L + 1 + 1 + 1⟩ 0 ⟨0, 0, ns.sum.fmod 100003 * 7, snap0.real [] (hbOf []) (bbOf []), [], [], fun _ => none, []⟩ := {
    ki := fun p hp => by cases hp
    fH := hH.sub S3 (tne k0 k10 (by decide)) (tne k1 k10 (by decide))
    fA := hA5.sub S58 (tne k5 k10 (by decide)) (tne k2 k10 (by decide)) (tne k3 k10 (by decide)) (tne k4 k10 (by decide))
    fM := ⟨[], hm6.sub S67 (tne k6 k10 (by decide)), .nil⟩
    fE := hG8.sub S8 (by simp)
    fG := ⟨[], hg7.sub S78 (tne k7 k10 (by decide)), .nil⟩
    fV := hv9.sub s10 (by simp)
    fP := ⟨[], hp10, .nil⟩
    fO := ⟨none, (hO.sub S07 (by simp)).sub S78 (tne k11 k10 (by decide))⟩
    fJ := ⟨none, (hJ.sub S07 (by simp)).sub S78 (tne k12 k10 (by decide))⟩
    t0 := k0, t1 := k1, t2 := k2, t3 := k3, t4 := k4, t5 := k5, t6 := k6, t7 := k7, t8 := k8, t9 := k9, t10 := k10, t11 := k11, t12 := k12 }
  repeat' (first | walk_at "m")
  have hgd : HI ns 0 (ns.sum.fmod 100003 * 7) := ⟨Nat.zero_le _, by omega, by omega⟩
  refine T_for C ?_
  repeat' (first | walk_at "m")
  have hc10 := M0.fH.b
  refine T_lenI hc10 hI (by omega) fun t20 => ?_
  repeat' (first | walk_at "m" | ((with_reducible refine T_mul ?hm (fun _ => ?_)); (case hm => exact mul_small (by omega) (by omega) (by omega) (by omega))))
  refine T_min C fun t21 => ?_
  obtain ⟨N, hN⟩ : ∃ N : Nat, (if 3 + 2 * ((ns.length : Nat) : Int) < 26 then 3 + 2 * ((ns.length : Nat) : Int) else 26) = (N : Int) := Int.eq_ofNat_of_zero_le (by split <;> omega)
  have hN26 : N ≤ 26 := by split at hN <;> omega
  rw [hN]
  repeat' (first | walk_at "m")
  refine T_range fun r l11 t1' t2' t3' hr s11 n11 => ?_
  intro s F N'
  refine iter_range C hr (by omega) (fun n m l => ∃ κ Z hi hc gd q j ps fr, LW w ns cvs L [] n m l κ Z hi hc gd q j ps fr) (fun n m l₁ l' h1 h2 => ?_) ?_ ?_ ?_ s F N'
  · obtain ⟨κ, Z, hi, hc, gd, q, j, ps, fr, h⟩ := h2
    exact ⟨κ, Z, hi, hc, gd, q, j, ps, fr, h.stay h1.no⟩
  · exact ⟨_, _, 0, 0, _, snap0, [], [], 0, M0.sub0 s11, Inv.init, hgd, ⟨rfl, rfl, rfl, rfl, rfl, ⟨_, rfl⟩, ⟨_, rfl⟩⟩, rfl, rfl, rfl⟩
  · clear M0 hc10 hgd t12 k0 k1 k2 k3 k4 k5 k6 k7 k8 k9 k10 k11 k12 S58 S67 S78 S8 S3 t11 t10 t9 t8 t7 t6 t5 t4 t3 t2 t1 t0 N5 n4d hp10 n10 s10 hv9 n9 s9 hG8 s8 S07 hg7 n7 s7 hm6 n6 s6 hA5 n5 n5x n5d s5 s4 hH hc3 hh3 n3 s3 S02 hG hO hJ hc2' s2 s1 hsl1 hsl hs hr s11 n11 N' F fb hsi hz
    rintro n m l hn ⟨κ, Z, hi, hc, gd, q, j, ps, fr, W⟩ t0
    replace W := W.start
    refine (law_turn (Z := Z) (m := fun y => if y = Str.ofString "_" then some (.int (n : Nat) t0) else m y) ho C hI hns (by omega) ⟨W.ms, W.inv, W.hh, ⟨W.nf.areas, W.nf.hand, W.nf.made, W.nf.values, W.nf.points, W.nf.above, W.nf.fresh⟩, W.cG, W.cO, W.cJ⟩ rfl).mono ?_
    rintro fl m' l' ⟨rfl, hJ, hk⟩
    exact ⟨hJ, hk⟩
  · rintro m l -
    repeat' (first | walk_at "m")
    rfl
end Mine
end
end
end
open PySem PySem.W PySem.Calls PyProof.Rows PyProof.V PySem.Spec
namespace Mine
theorem law_top {w : World} {oc : Value} {od : Option Addr} {name qual : Str} {params : Arguments} {body : List Stmt} {scope : Scope} {dV kV doc pm cdv ct : Value} {an : Option Addr} {osl : Array (Option Value)}
    (ho : (hd.heap_39 w.params).lookup 352 = some ⟨oc, od, .func (fnOf name qual params body scope dV kV doc pm an cdv ct), osl⟩)
    {g : Heap} {L f : Addr} {cdv' : Value} {m : Map} {l : Led} {sA : Addr} {svs : List Value} {sns : List Int} {s : Shared} {mean : ExcName → Option Value} {mg mb : Str → Option Value}
    (B : Below callerA g [] g) (T : Top hd.view_39 loose0 mean mg mb g) (X : (hd.heap_39 w.params).In g) (hk : scope.kind = .function) (hgen : scope.isGenerator = false) (hco : scope.isCoroutine = false)
    (F : Fr g L s.heap m) (N : News g L s.heap l)
    (hs : m (Str.ofString "script") = some (.ref sA)) (hsl : g.IsList sA svs.toArray) (hsi : IntsAre svs sns) (hz : sns.length ≤ 63) (hG : CE l (L + 1) none) (hO : CE l (L + 1 + 1) none) (hJ : CE l (L + 1 + 1 + 1) none)
    {Q : Flow → Shared → Prop} {E : Value → Shared → Prop} (k : ∀ h' tk' m', Fr g L h' m' → Q (.ret (.bool true)) { s with heap := h', toks := tk' }) :
    wpAny (model P0 w) (callerA.deeper (envOfC qual scope L f cdv')) (execs body (envOfC qual scope L f cdv')) Q E s := by
  have C : Ctx w 8 (callerA.deeper (envOfC qual scope L f cdv')) (envOfC qual scope L f cdv') g L := {
    below := ⟨callerA, g, [], B, Around.frames_deeper B.stack⟩
    top := ⟨mean, mg, mb, T⟩
    fr := rfl
    loc := rfl
    kind := hk
    gen := hgen
    co := hco
    bu := rfl
    gl := rfl
    X := X
    han := rfl
    dep := by show 1 + claimMargin + 1 + (8 + 110) < recursionLimit; decide
    uni := by show 4 + 3 + (8 * 8 + 200) < cLine; decide }
  refine (law_walk ho C hs hsl hsi hz hG hO hJ).go F N fun fl h' tk' m' l' F' N' e => ?_
  subst e
  exact k _ _ _ F'
end Mine
theorem PySem.Challenge.cw_no0163_01_holds : PySem.Challenge.rw_no0163_01.Holds := by
  w_on
  refine holds_law Mine.hd.said fun said => ?_
  refine PySem.W.holds_open (q := Mine.hd.view_39) (loose := Mine.hd.looseN) (Xt := Mine.hd.xt) (XP := XL Mine.hd.view_39 Mine.hd.lits) (Yf := Hook.obs (kHook Mine.hd.heap_39 Mine.hd.addrs Mine.hd.addrs_eq)) (Ya := Hook.val (kHook Mine.hd.heap_39 Mine.hd.addrs Mine.hd.addrs_eq)) (YP := Hook.says (kHook Mine.hd.heap_39 Mine.hd.addrs Mine.hd.addrs_eq)) (N := 4540) Mine.hd.left (Hook.of (kHook Mine.hd.heap_39 Mine.hd.addrs Mine.hd.addrs_eq)) (Hook.keeps (kHook Mine.hd.heap_39 Mine.hd.addrs Mine.hd.addrs_eq))
    (fun s e => xl_of s (Bool.and_eq_true_iff.mp e).1) XL.keeps (by rfl) (by rfl) (by rfl) (fun s e => recFacts_of (Bool.and_eq_true_iff.mp e).2) (by rfl) said (by decide +kernel) ⟨rfl, rfl, rfl, rfl, rfl, by decide +kernel⟩ ?hw ?hc
  case hw => w_witness2
  case hc =>
    k_fill
    intro w s₀ s₁ mg mb G Y fa o pm cd doc dV kV ho hd hcd hD hmg hg args vals as hpre hlay hrd hwl hlo
    have KX := kIn_of Y
    refine Ground.open G ?_
    intro T B D TE TW
    have TA := at_of_top T
    try (obtain ⟨_, _, he, B0⟩ := based_of_top T rfl hmg ho hd; have he' : cd = _ := he; subst he'; clear he)
    clear hmg
    wrow_args hpre hlay hrd hwl hlo
    all_goals (
      refine enter_call ?_
      w_top on
      try refine codeAny_mono ?_ (fun _ _ g => GoodW.toG g)
      have K0 := below_caller (Top.heap T)
      w_call any ho hd hcd hD T F
      clear hd TA
      k_drop
      skip)
    all_goals try k_fold
    rename Fr _ _ _ _ => F1
    rename News _ _ _ _ => N1
    rename Top _ _ _ _ _ _ => T1
    rename Below _ _ _ _ => B1
    rename IntsAre _ _ => I1
    rename Heap.IsList _ _ _ => L1
    rename Frag.In _ _ => X1
    rename CellsAre _ _ _ => Y1
    rename (_ = #[]) => g1
    rename (¬ (_ < _)) => z1
    obtain ⟨o1, o2, o3, e0, d1, d2, d3⟩ := CellsAre.three Y1
    cases e0
    refine Mine.law_top (by k_is) B1 T1 X1 rfl rfl rfl F1 N1 (by rfl) L1 I1 (by omega) ⟨_, List.Mem.tail _ (List.Mem.tail _ (List.Mem.head _)), d3⟩ ⟨_, List.Mem.tail _ (List.Mem.head _), d2⟩ ⟨_, List.Mem.head _, d1⟩ fun h' tk' m' F' => ?_
    refine goodW_bool F' g1 (raisesW_false ?_) ?_
    · wrow_none_raised
    · wrow_post
