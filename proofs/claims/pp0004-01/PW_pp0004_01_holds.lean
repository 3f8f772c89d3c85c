import PyProof.Rows.All
import Wide.All
import OpenK.AllK
import Wide.FinOn
import PySem.Challenge.RW_pp0004_01
open PySem PySem.W PyProof.Rows PySem.Calls PySem.Spec
set_option Elab.async false
set_option rowWalk.seconds 0
local macro_rules | `(tactic| walk_at $s:str) => `(tactic| k_extra $s)
-- Hd
section
namespace Mine.hd
set_option maxRecDepth 100000
set_option maxHeartbeats 0
/-- a statement of the row's text, by its place; its parts are read off the row by unification, nothing of it is typed here -/
noncomputable abbrev stAt (i : Nat) : Option Stmt := PySem.Challenge.pw_pp0004_01.main.body[i]?
noncomputable abbrev stIn (i j : Nat) : Option Stmt := match stAt i with
  | some (.ClassDef _ _ _ b _ _ _ _ _ _ _) => b[j]?
  | _ => none
def withFn {n ps b ds r tps sc tc nm pos} {st : Option Stmt} (f : Arguments → List Stmt → Scope → Obj) (_ : st = some (.FunctionDef n ps b ds r tps sc tc nm pos)) : Obj := f ps b sc
noncomputable abbrev PG0 : PySem.Program := PySem.Challenge.rw_pp0004_01.row.toRowW.prog
noncomputable def o2 (P : Params) : Obj := (⟨.none, none, (.dict #[⟨(PyData.keyHash P (.ofString "type.__subclasses__.Exception.0")), (.str (.ofString "type.__subclasses__.Exception.0") 214), (.int 31 0)⟩, ⟨(PyData.keyHash P (.ofString "type.__subclasses__.Exception.n")), (.str (.ofString "type.__subclasses__.Exception.n") 215), (.int 1 0)⟩] 2), #[]⟩ : Obj)
noncomputable def o3 (P : Params) : Obj := (⟨(.type "dict"), none, (.dict #[⟨(PyData.keyHash P (.ofString "__name__")), (.str (.ofString "__name__") 165), (.str (.ofString "law_pp0004_01") 589)⟩, ⟨(PyData.keyHash P (.ofString "__doc__")), (.str (.ofString "__doc__") 166), .none⟩, ⟨(PyData.keyHash P (.ofString "__package__")), (.str (.ofString "__package__") 167), .none⟩, ⟨(PyData.keyHash P (.ofString "__loader__")), (.str (.ofString "__loader__") 168), (.builtin "__main__.__loader__#opaque")⟩, ⟨(PyData.keyHash P (.ofString "__spec__")), (.str (.ofString "__spec__") 169), .none⟩, ⟨(PyData.keyHash P (.ofString "__annotations__")), (.str (.ofString "__annotations__") 170), (.ref 6)⟩, ⟨(PyData.keyHash P (.ofString "__builtins__")), (.str (.ofString "__builtins__") 171), (.ref 4)⟩, ⟨(PyData.keyHash P (.ofString "__file__")), (.str (.ofString "__file__") 173), (.str (.ofString "/claim/cut.py") 172)⟩, ⟨(PyData.keyHash P (.ofString "__cached__")), (.str (.ofString "__cached__") 174), .none⟩, ⟨(PyData.keyHash P (.ofString "AdaError")), (.str (.ofString "AdaError") 217), (.ref 31)⟩, ⟨(PyData.keyHash P (.ofString "AdaRaise")), (.str (.ofString "AdaRaise") 246), (.ref 51)⟩, ⟨(PyData.keyHash P (.ofString "OTHERS")), (.str (.ofString "OTHERS") 250), (.str (.ofString "others") 249)⟩, ⟨(PyData.keyHash P (.ofString "raise_constraint")), (.str (.ofString "raise_constraint") 257), (.ref 60)⟩, ⟨(PyData.keyHash P (.ofString "Unset")), (.str (.ofString "Unset") 287), (.ref 77)⟩, ⟨(PyData.keyHash P (.ofString "ArrayValue")), (.str (.ofString "ArrayValue") 318), (.ref 98)⟩, ⟨(PyData.keyHash P (.ofString "RecordValue")), (.str (.ofString "RecordValue") 349), (.ref 119)⟩, ⟨(PyData.keyHash P (.ofString "need_set")), (.str (.ofString "need_set") 356), (.ref 130)⟩, ⟨(PyData.keyHash P (.ofString "copy_value")), (.str (.ofString "copy_value") 362), (.ref 135)⟩, ⟨(PyData.keyHash P (.ofString "covers_choice")), (.str (.ofString "covers_choice") 374), (.ref 142)⟩, ⟨(PyData.keyHash P (.ofString "chosen_alternative")), (.str (.ofString "chosen_alternative") 384), (.ref 149)⟩, ⟨(PyData.keyHash P (.ofString "variant_parts")), (.str (.ofString "variant_parts") 395), (.ref 156)⟩, ⟨(PyData.keyHash P (.ofString "present_parts")), (.str (.ofString "present_parts") 404), (.ref 163)⟩, ⟨(PyData.keyHash P (.ofString "variant_names")), (.str (.ofString "variant_names") 410), (.ref 168)⟩, ⟨(PyData.keyHash P (.ofString "part_names")), (.str (.ofString "part_names") 416), (.ref 173)⟩, ⟨(PyData.keyHash P (.ofString "aggregate_record")), (.str (.ofString "aggregate_record") 429), (.ref 180)⟩, ⟨(PyData.keyHash P (.ofString "extended_record")), (.str (.ofString "extended_record") 441), (.ref 187)⟩, ⟨(PyData.keyHash P (.ofString "Type")), (.str (.ofString "Type") 496), (.ref 204)⟩, ⟨(PyData.keyHash P (.ofString "Subtype")), (.str (.ofString "Subtype") 527), (.ref 225)⟩, ⟨(PyData.keyHash P (.ofString "base_bounds")), (.str (.ofString "base_bounds") 534), (.ref 236)⟩, ⟨(PyData.keyHash P (.ofString "int_type")), (.str (.ofString "int_type") 544), (.ref 243)⟩, ⟨(PyData.keyHash P (.ofString "record_type")), (.str (.ofString "record_type") 555), (.ref 250)⟩, ⟨(PyData.keyHash P (.ofString "derived_type")), (.str (.ofString "derived_type") 564), (.ref 257)⟩, ⟨(PyData.keyHash P (.ofString "numbered")), (.str (.ofString "numbered") 572), (.ref 264)⟩, ⟨(PyData.keyHash P (.ofString "whole_subtype")), (.str (.ofString "whole_subtype") 579), (.ref 271)⟩, ⟨(PyData.keyHash P (.ofString "integer_type")), (.str (.ofString "integer_type") 588), (.ref 278)⟩, ⟨(PyData.keyHash P (.ofString "_law_pool")), (.str (.ofString "_law_pool") 596), (.ref 285)⟩, ⟨(PyData.keyHash P (.ofString "_law_tell")), (.str (.ofString "_law_tell") 604), (.ref 292)⟩, ⟨(PyData.keyHash P (.ofString "_law_rows")), (.str (.ofString "_law_rows") 610), (.ref 297)⟩, ⟨(PyData.keyHash P (.ofString "_law_grown")), (.str (.ofString "_law_grown") 621), (.ref 304)⟩, ⟨(PyData.keyHash P (.ofString "_law_worth")), (.str (.ofString "_law_worth") 629), (.ref 311)⟩, ⟨(PyData.keyHash P (.ofString "_law_flat")), (.str (.ofString "_law_flat") 639), (.ref 318)⟩, ⟨(PyData.keyHash P (.ofString "law")), (.str (.ofString "law") 645), (.ref 323)⟩] 42), #[]⟩ : Obj)
noncomputable def o11 (P : Params) : Obj := (⟨(.type "tuple"), none, (.seq #[] 0), #[]⟩ : Obj)
noncomputable def o12 (P : Params) : Obj := (⟨.none, none, (.fields #[(.int 2 0), (.int 0 0), (.ref 20), (.int 7 0), (.int 0 0), (.ref 40), (.int 16 0), (.int 0 0), (.ref 59), (.int 19 0), (.int 0 0), (.ref 66), (.int 23 0), (.int 0 0), (.ref 87), (.int 28 0), (.int 0 0), (.ref 108), (.int 33 0), (.int 0 0), (.ref 129), (.int 37 0), (.int 0 0), (.ref 134), (.int 47 0), (.int 0 0), (.ref 141), (.int 54 0), (.int 0 0), (.ref 148), (.int 60 0), (.int 0 0), (.ref 155), (.int 68 0), (.int 0 0), (.ref 162), (.int 73 0), (.int 0 0), (.ref 167), (.int 84 0), (.int 0 0), (.ref 172), (.int 87 0), (.int 0 0), (.ref 179), (.int 101 0), (.int 0 0), (.ref 186), (.int 111 0), (.int 0 0), (.ref 193), (.int 138 0), (.int 0 0), (.ref 214), (.int 143 0), (.int 0 0), (.ref 235), (.int 145 0), (.int 0 0), (.ref 242), (.int 150 0), (.int 0 0), (.ref 249), (.int 157 0), (.int 0 0), (.ref 256), (.int 177 0), (.int 0 0), (.ref 263), (.int 180 0), (.int 0 0), (.ref 270), (.int 182 0), (.int 0 0), (.ref 277), (.int 186 0), (.int 0 0), (.ref 284), (.int 188 0), (.int 0 0), (.ref 291), (.int 191 0), (.int 0 0), (.ref 296), (.int 193 0), (.int 0 0), (.ref 303), (.int 197 0), (.int 0 0), (.ref 310), (.int 200 0), (.int 0 0), (.ref 317), (.int 206 0), (.int 0 0), (.ref 322)]), #[]⟩ : Obj)
noncomputable def o13 (P : Params) : Obj := (⟨(.type "code"), none, (.fields #[(.str (.ofString "<module>") 182), (.str (.ofString "<module>") 183), (.str (.ofString "/claim/cut.py") 184), (.int 1 0), (.int 0 0), (.int 0 0), (.int 0 0), (.int 0 0), (.ref 11), (.bool false), (.int 181 0), (.ref 12), .none, .none, .none, .none, (.int 185 0), (.int 1 0), (.str (.ofString "/claim/cut.py") 186)]), #[]⟩ : Obj)
noncomputable def o14 (P : Params) : Obj := (⟨(.type "frame"), none, .plain, #[(some (.ref 13)), (some (.ref 3)), (some (.ref 3)), none, (some (.str (.ofString "__main__") 164)), none, (some (.ref 0))]⟩ : Obj)
noncomputable def o15 (P : Params) : Obj := (⟨(.type "tuple"), none, (.seq #[(.type "Exception")] 0), #[]⟩ : Obj)
noncomputable def o16 (P : Params) : Obj := (⟨(.type "builtin_function_or_method"), none, (.fields #[(.builtin "type.__prepare__"), (.type "type")]), #[]⟩ : Obj)
noncomputable def o17 (P : Params) : Obj := (⟨(.type "dict"), none, (.dict #[⟨(PyData.keyHash P (.ofString "__module__")), (.str (.ofString "__module__") 196), (.str (.ofString "adacore.errors") 187)⟩, ⟨(PyData.keyHash P (.ofString "__qualname__")), (.str (.ofString "__qualname__") 198), (.str (.ofString "AdaError") 197)⟩, ⟨(PyData.keyHash P (.ofString "__firstlineno__")), (.str (.ofString "__firstlineno__") 200), (.int 2 199)⟩, ⟨(PyData.keyHash P (.ofString "__init__")), (.str (.ofString "__init__") 208), (.ref 28)⟩, ⟨(PyData.keyHash P (.ofString "__static_attributes__")), (.str (.ofString "__static_attributes__") 210), (.ref 29)⟩] 5), #[]⟩ : Obj)
noncomputable def o18 (P : Params) : Obj := (⟨(.type "tuple"), none, (.seq #[] 0), #[]⟩ : Obj)
noncomputable def o19 (P : Params) : Obj := (⟨.none, none, (.fields #[(.int 4 0), (.int 4 0), (.ref 27)]), #[]⟩ : Obj)
noncomputable def o20 (P : Params) : Obj := (⟨(.type "code"), none, (.fields #[(.str (.ofString "AdaError") 191), (.str (.ofString "AdaError") 192), (.str (.ofString "/claim/cut.py") 193), (.int 2 0), (.int 0 0), (.int 0 0), (.int 0 0), (.int 0 0), (.ref 18), (.bool false), (.int 181 0), (.ref 19), .none, .none, .none, .none, (.int 194 0), (.int 2 0), (.str (.ofString "/claim/cut.py") 195)]), #[]⟩ : Obj)
noncomputable def o21 (P : Params) : Obj := (⟨(.type "frame"), none, .plain, #[(some (.ref 20)), (some (.ref 3)), (some (.ref 17)), none, (some (.str (.ofString "adacore.errors") 187)), none, (some (.ref 0))]⟩ : Obj)
noncomputable def o22 (P : Params) : Obj := (⟨(.type "tuple"), none, (.seq #[] 0), #[]⟩ : Obj)
noncomputable def o23 (P : Params) : Obj := (⟨.none, none, (.fields #[]), #[]⟩ : Obj)
noncomputable def o24 (P : Params) : Obj := (⟨(.type "tuple"), none, (.seq #[(.str (.ofString "self") 204), (.str (.ofString "text") 205)] 0), #[]⟩ : Obj)
noncomputable def o25 (P : Params) : Obj := (⟨(.type "tuple"), none, (.seq #[] 0), #[]⟩ : Obj)
noncomputable def o26 (P : Params) : Obj := withFn (st := (stIn 1 0)) (fun ps b sc => (⟨.none, none, (.func ⟨(.ofString "__init__"), (.ofString "AdaError.__init__"), ps, (.stmts b), sc, 0, [], .none, .none, .none, .none, none, .none, .none, 0⟩), #[]⟩ : Obj)) rfl
noncomputable def o27 (P : Params) : Obj := (⟨(.type "code"), none, (.fields #[(.str (.ofString "__init__") 201), (.str (.ofString "AdaError.__init__") 202), (.str (.ofString "/claim/cut.py") 203), (.int 4 0), (.int 2 0), (.int 0 0), (.int 0 0), (.int 3 0), (.ref 22), (.bool true), (.int 181 0), (.ref 23), .none, (.ref 24), (.ref 25), (.ref 26), (.int 206 0), (.int 4 0), (.str (.ofString "/claim/cut.py") 207)]), #[]⟩ : Obj)
noncomputable def o28 (P : Params) : Obj := withFn (st := (stIn 1 0)) (fun ps b sc => (⟨(.type "function"), none, (.func ⟨(.ofString "__init__"), (.ofString "AdaError.__init__"), ps, (.stmts b), sc, 3, [], .none, .none, .none, (.str (.ofString "adacore.errors") 187), none, (.ref 27), .none, 0⟩), #[]⟩ : Obj)) rfl
noncomputable def o29 (P : Params) : Obj := (⟨(.type "tuple"), none, (.seq #[(.str (.ofString "text") 209)] 0), #[]⟩ : Obj)
noncomputable def o30 (P : Params) : Obj := (⟨(.type "dict"), none, (.dict #[⟨(PyData.keyHash P (.ofString "__module__")), (.str (.ofString "__module__") 196), (.str (.ofString "adacore.errors") 187)⟩, ⟨(PyData.keyHash P (.ofString "__firstlineno__")), (.str (.ofString "__firstlineno__") 200), (.int 2 199)⟩, ⟨(PyData.keyHash P (.ofString "__init__")), (.str (.ofString "__init__") 208), (.ref 28)⟩, ⟨(PyData.keyHash P (.ofString "__static_attributes__")), (.str (.ofString "__static_attributes__") 210), (.ref 29)⟩, ⟨(PyData.keyHash P (.ofString "__weakref__")), (.str (.ofString "__weakref__") 212), (.ref 32)⟩, ⟨(PyData.keyHash P (.ofString "__doc__")), (.str (.ofString "__doc__") 213), .none⟩] 3), #[]⟩ : Obj)
noncomputable def o31 (P : Params) : Obj := (⟨(.type "type"), none, (.cls ⟨(.ofString "AdaError"), [(.type "Exception")], [(.ref 31), (.type "Exception"), (.type "BaseException"), (.type "object")], 30, (.ofString "AdaError"), true, [], [(.ref 51)], false, none, false⟩), #[(some (.ref 15)), none, (some (.str (.ofString "AdaError") 189)), (some (.str (.ofString "AdaError") 197)), (some (.builtin "Exception.__new__")), (some (.bool true))]⟩ : Obj)
noncomputable def o32 (P : Params) : Obj := (⟨(.type "getset_descriptor"), none, (.fields #[(.str (.ofString "__weakref__") 211), (.ref 31), (.builtin "ExceptionGroup.__weakref__"), .none]), #[]⟩ : Obj)
noncomputable def o33 (P : Params) : Obj := (⟨(.type "super"), none, (.fields #[(.ref 31), (.ref 31), (.ref 31)]), #[]⟩ : Obj)
noncomputable def o34 (P : Params) : Obj := (⟨(.type "builtin_function_or_method"), none, (.fields #[(.builtin "object.__init_subclass__"), (.ref 31)]), #[]⟩ : Obj)
noncomputable def o35 (P : Params) : Obj := (⟨(.type "tuple"), none, (.seq #[(.ref 31)] 0), #[]⟩ : Obj)
noncomputable def o36 (P : Params) : Obj := (⟨(.type "builtin_function_or_method"), none, (.fields #[(.builtin "type.__prepare__"), (.type "type")]), #[]⟩ : Obj)
noncomputable def o37 (P : Params) : Obj := (⟨(.type "dict"), none, (.dict #[⟨(PyData.keyHash P (.ofString "__module__")), (.str (.ofString "__module__") 225), (.str (.ofString "adacore.errors") 187)⟩, ⟨(PyData.keyHash P (.ofString "__qualname__")), (.str (.ofString "__qualname__") 227), (.str (.ofString "AdaRaise") 226)⟩, ⟨(PyData.keyHash P (.ofString "__firstlineno__")), (.str (.ofString "__firstlineno__") 229), (.int 7 228)⟩, ⟨(PyData.keyHash P (.ofString "__init__")), (.str (.ofString "__init__") 239), (.ref 48)⟩, ⟨(PyData.keyHash P (.ofString "__static_attributes__")), (.str (.ofString "__static_attributes__") 243), (.ref 49)⟩] 5), #[]⟩ : Obj)
noncomputable def o38 (P : Params) : Obj := (⟨(.type "tuple"), none, (.seq #[] 0), #[]⟩ : Obj)
noncomputable def o39 (P : Params) : Obj := (⟨.none, none, (.fields #[(.int 9 0), (.int 4 0), (.ref 47)]), #[]⟩ : Obj)
noncomputable def o40 (P : Params) : Obj := (⟨(.type "code"), none, (.fields #[(.str (.ofString "AdaRaise") 220), (.str (.ofString "AdaRaise") 221), (.str (.ofString "/claim/cut.py") 222), (.int 7 0), (.int 0 0), (.int 0 0), (.int 0 0), (.int 0 0), (.ref 38), (.bool false), (.int 181 0), (.ref 39), .none, .none, .none, .none, (.int 223 0), (.int 7 0), (.str (.ofString "/claim/cut.py") 224)]), #[]⟩ : Obj)
noncomputable def o41 (P : Params) : Obj := (⟨(.type "frame"), none, .plain, #[(some (.ref 40)), (some (.ref 3)), (some (.ref 37)), none, (some (.str (.ofString "adacore.errors") 187)), none, (some (.ref 0))]⟩ : Obj)
noncomputable def o42 (P : Params) : Obj := (⟨(.type "tuple"), none, (.seq #[] 0), #[]⟩ : Obj)
noncomputable def o43 (P : Params) : Obj := (⟨.none, none, (.fields #[]), #[]⟩ : Obj)
noncomputable def o44 (P : Params) : Obj := (⟨(.type "tuple"), none, (.seq #[(.str (.ofString "self") 233), (.str (.ofString "name") 234), (.str (.ofString "line") 235), (.str (.ofString "text") 236)] 0), #[]⟩ : Obj)
noncomputable def o45 (P : Params) : Obj := (⟨(.type "tuple"), none, (.seq #[] 0), #[]⟩ : Obj)
noncomputable def o46 (P : Params) : Obj := withFn (st := (stIn 2 0)) (fun ps b sc => (⟨.none, none, (.func ⟨(.ofString "__init__"), (.ofString "AdaRaise.__init__"), ps, (.stmts b), sc, 0, [], .none, .none, .none, .none, none, .none, .none, 0⟩), #[]⟩ : Obj)) rfl
noncomputable def o47 (P : Params) : Obj := (⟨(.type "code"), none, (.fields #[(.str (.ofString "__init__") 230), (.str (.ofString "AdaRaise.__init__") 231), (.str (.ofString "/claim/cut.py") 232), (.int 9 0), (.int 4 0), (.int 0 0), (.int 0 0), (.int 3 0), (.ref 42), (.bool true), (.int 181 0), (.ref 43), .none, (.ref 44), (.ref 45), (.ref 46), (.int 237 0), (.int 9 0), (.str (.ofString "/claim/cut.py") 238)]), #[]⟩ : Obj)
noncomputable def o48 (P : Params) : Obj := withFn (st := (stIn 2 0)) (fun ps b sc => (⟨(.type "function"), none, (.func ⟨(.ofString "__init__"), (.ofString "AdaRaise.__init__"), ps, (.stmts b), sc, 3, [], .none, .none, .none, (.str (.ofString "adacore.errors") 187), none, (.ref 47), .none, 0⟩), #[]⟩ : Obj)) rfl
noncomputable def o49 (P : Params) : Obj := (⟨(.type "tuple"), none, (.seq #[(.str (.ofString "line") 240), (.str (.ofString "name") 241), (.str (.ofString "word") 242)] 0), #[]⟩ : Obj)
noncomputable def o50 (P : Params) : Obj := (⟨(.type "dict"), none, (.dict #[⟨(PyData.keyHash P (.ofString "__module__")), (.str (.ofString "__module__") 225), (.str (.ofString "adacore.errors") 187)⟩, ⟨(PyData.keyHash P (.ofString "__firstlineno__")), (.str (.ofString "__firstlineno__") 229), (.int 7 228)⟩, ⟨(PyData.keyHash P (.ofString "__init__")), (.str (.ofString "__init__") 239), (.ref 48)⟩, ⟨(PyData.keyHash P (.ofString "__static_attributes__")), (.str (.ofString "__static_attributes__") 243), (.ref 49)⟩, ⟨(PyData.keyHash P (.ofString "__doc__")), (.str (.ofString "__doc__") 244), .none⟩] 2), #[]⟩ : Obj)
noncomputable def o51 (P : Params) : Obj := (⟨(.type "type"), none, (.cls ⟨(.ofString "AdaRaise"), [(.ref 31)], [(.ref 51), (.ref 31), (.type "Exception"), (.type "BaseException"), (.type "object")], 50, (.ofString "AdaRaise"), true, [], [], false, none, false⟩), #[(some (.ref 35)), none, (some (.str (.ofString "AdaRaise") 218)), (some (.str (.ofString "AdaRaise") 226)), (some (.builtin "Exception.__new__")), (some (.bool true))]⟩ : Obj)
noncomputable def o52 (P : Params) : Obj := (⟨(.type "super"), none, (.fields #[(.ref 51), (.ref 51), (.ref 51)]), #[]⟩ : Obj)
noncomputable def o53 (P : Params) : Obj := (⟨(.type "builtin_function_or_method"), none, (.fields #[(.builtin "object.__init_subclass__"), (.ref 51)]), #[]⟩ : Obj)
noncomputable def o54 (P : Params) : Obj := (⟨(.type "tuple"), none, (.seq #[] 0), #[]⟩ : Obj)
noncomputable def o55 (P : Params) : Obj := (⟨.none, none, (.fields #[]), #[]⟩ : Obj)
noncomputable def o56 (P : Params) : Obj := (⟨(.type "tuple"), none, (.seq #[(.str (.ofString "text") 254)] 0), #[]⟩ : Obj)
noncomputable def o57 (P : Params) : Obj := (⟨(.type "tuple"), none, (.seq #[] 0), #[]⟩ : Obj)
noncomputable def o58 (P : Params) : Obj := withFn (st := (stAt 5)) (fun ps b sc => (⟨.none, none, (.func ⟨(.ofString "raise_constraint"), (.ofString "raise_constraint"), ps, (.stmts b), sc, 0, [], .none, .none, .none, .none, none, .none, .none, 0⟩), #[]⟩ : Obj)) rfl
noncomputable def o59 (P : Params) : Obj := (⟨(.type "code"), none, (.fields #[(.str (.ofString "raise_constraint") 251), (.str (.ofString "raise_constraint") 252), (.str (.ofString "/claim/cut.py") 253), (.int 16 0), (.int 1 0), (.int 0 0), (.int 0 0), (.int 3 0), (.ref 54), (.bool true), (.int 181 0), (.ref 55), .none, (.ref 56), (.ref 57), (.ref 58), (.int 255 0), (.int 16 0), (.str (.ofString "/claim/cut.py") 256)]), #[]⟩ : Obj)
noncomputable def o60 (P : Params) : Obj := withFn (st := (stAt 5)) (fun ps b sc => (⟨(.type "function"), none, (.func ⟨(.ofString "raise_constraint"), (.ofString "raise_constraint"), ps, (.stmts b), sc, 3, [], .none, .none, .none, (.str (.ofString "adacore.arrays") 247), none, (.ref 59), .none, 0⟩), #[]⟩ : Obj)) rfl
noncomputable def o61 (P : Params) : Obj := (⟨(.type "tuple"), none, (.seq #[] 0), #[]⟩ : Obj)
noncomputable def o62 (P : Params) : Obj := (⟨(.type "builtin_function_or_method"), none, (.fields #[(.builtin "type.__prepare__"), (.type "type")]), #[]⟩ : Obj)
noncomputable def o63 (P : Params) : Obj := (⟨(.type "dict"), none, (.dict #[⟨(PyData.keyHash P (.ofString "__module__")), (.str (.ofString "__module__") 267), (.str (.ofString "adacore.values") 258)⟩, ⟨(PyData.keyHash P (.ofString "__qualname__")), (.str (.ofString "__qualname__") 269), (.str (.ofString "Unset") 268)⟩, ⟨(PyData.keyHash P (.ofString "__firstlineno__")), (.str (.ofString "__firstlineno__") 271), (.int 19 270)⟩, ⟨(PyData.keyHash P (.ofString "__init__")), (.str (.ofString "__init__") 278), (.ref 74)⟩, ⟨(PyData.keyHash P (.ofString "__static_attributes__")), (.str (.ofString "__static_attributes__") 280), (.ref 75)⟩] 5), #[]⟩ : Obj)
noncomputable def o64 (P : Params) : Obj := (⟨(.type "tuple"), none, (.seq #[] 0), #[]⟩ : Obj)
noncomputable def o65 (P : Params) : Obj := (⟨.none, none, (.fields #[(.int 21 0), (.int 4 0), (.ref 73)]), #[]⟩ : Obj)
noncomputable def o66 (P : Params) : Obj := (⟨(.type "code"), none, (.fields #[(.str (.ofString "Unset") 262), (.str (.ofString "Unset") 263), (.str (.ofString "/claim/cut.py") 264), (.int 19 0), (.int 0 0), (.int 0 0), (.int 0 0), (.int 0 0), (.ref 64), (.bool false), (.int 181 0), (.ref 65), .none, .none, .none, .none, (.int 265 0), (.int 19 0), (.str (.ofString "/claim/cut.py") 266)]), #[]⟩ : Obj)
noncomputable def o67 (P : Params) : Obj := (⟨(.type "frame"), none, .plain, #[(some (.ref 66)), (some (.ref 3)), (some (.ref 63)), none, (some (.str (.ofString "adacore.values") 258)), none, (some (.ref 0))]⟩ : Obj)
noncomputable def o68 (P : Params) : Obj := (⟨(.type "tuple"), none, (.seq #[] 0), #[]⟩ : Obj)
noncomputable def o69 (P : Params) : Obj := (⟨.none, none, (.fields #[]), #[]⟩ : Obj)
noncomputable def o70 (P : Params) : Obj := (⟨(.type "tuple"), none, (.seq #[(.str (.ofString "self") 275)] 0), #[]⟩ : Obj)
noncomputable def o71 (P : Params) : Obj := (⟨(.type "tuple"), none, (.seq #[] 0), #[]⟩ : Obj)
noncomputable def o72 (P : Params) : Obj := withFn (st := (stIn 7 0)) (fun ps b sc => (⟨.none, none, (.func ⟨(.ofString "__init__"), (.ofString "Unset.__init__"), ps, (.stmts b), sc, 0, [], .none, .none, .none, .none, none, .none, .none, 0⟩), #[]⟩ : Obj)) rfl
noncomputable def o73 (P : Params) : Obj := (⟨(.type "code"), none, (.fields #[(.str (.ofString "__init__") 272), (.str (.ofString "Unset.__init__") 273), (.str (.ofString "/claim/cut.py") 274), (.int 21 0), (.int 1 0), (.int 0 0), (.int 0 0), (.int 3 0), (.ref 68), (.bool true), (.int 181 0), (.ref 69), .none, (.ref 70), (.ref 71), (.ref 72), (.int 276 0), (.int 21 0), (.str (.ofString "/claim/cut.py") 277)]), #[]⟩ : Obj)
noncomputable def o74 (P : Params) : Obj := withFn (st := (stIn 7 0)) (fun ps b sc => (⟨(.type "function"), none, (.func ⟨(.ofString "__init__"), (.ofString "Unset.__init__"), ps, (.stmts b), sc, 3, [], .none, .none, .none, (.str (.ofString "adacore.values") 258), none, (.ref 73), .none, 0⟩), #[]⟩ : Obj)) rfl
noncomputable def o75 (P : Params) : Obj := (⟨(.type "tuple"), none, (.seq #[(.str (.ofString "text") 279)] 0), #[]⟩ : Obj)
noncomputable def o76 (P : Params) : Obj := (⟨(.type "dict"), none, (.dict #[⟨(PyData.keyHash P (.ofString "__module__")), (.str (.ofString "__module__") 267), (.str (.ofString "adacore.values") 258)⟩, ⟨(PyData.keyHash P (.ofString "__firstlineno__")), (.str (.ofString "__firstlineno__") 271), (.int 19 270)⟩, ⟨(PyData.keyHash P (.ofString "__init__")), (.str (.ofString "__init__") 278), (.ref 74)⟩, ⟨(PyData.keyHash P (.ofString "__static_attributes__")), (.str (.ofString "__static_attributes__") 280), (.ref 75)⟩, ⟨(PyData.keyHash P (.ofString "__dict__")), (.str (.ofString "__dict__") 282), (.ref 78)⟩, ⟨(PyData.keyHash P (.ofString "__weakref__")), (.str (.ofString "__weakref__") 284), (.ref 79)⟩, ⟨(PyData.keyHash P (.ofString "__doc__")), (.str (.ofString "__doc__") 285), .none⟩] 4), #[]⟩ : Obj)
noncomputable def o77 (P : Params) : Obj := (⟨(.type "type"), none, (.cls ⟨(.ofString "Unset"), [(.type "object")], [(.ref 77), (.type "object")], 76, (.ofString "Unset"), true, [], [], false, none, false⟩), #[none, none, (some (.str (.ofString "Unset") 260)), (some (.str (.ofString "Unset") 268)), (some (.builtin "object.__new__")), (some (.bool true))]⟩ : Obj)
noncomputable def o78 (P : Params) : Obj := (⟨(.type "getset_descriptor"), none, (.fields #[(.str (.ofString "__dict__") 281), (.ref 77), (.builtin "function.__dict__"), (.builtin "function.__dict__#set")]), #[]⟩ : Obj)
noncomputable def o79 (P : Params) : Obj := (⟨(.type "getset_descriptor"), none, (.fields #[(.str (.ofString "__weakref__") 283), (.ref 77), (.builtin "ExceptionGroup.__weakref__"), .none]), #[]⟩ : Obj)
noncomputable def o80 (P : Params) : Obj := (⟨(.type "super"), none, (.fields #[(.ref 77), (.ref 77), (.ref 77)]), #[]⟩ : Obj)
noncomputable def o81 (P : Params) : Obj := (⟨(.type "builtin_function_or_method"), none, (.fields #[(.builtin "object.__init_subclass__"), (.ref 77)]), #[]⟩ : Obj)
noncomputable def o82 (P : Params) : Obj := (⟨(.type "tuple"), none, (.seq #[] 0), #[]⟩ : Obj)
noncomputable def o83 (P : Params) : Obj := (⟨(.type "builtin_function_or_method"), none, (.fields #[(.builtin "type.__prepare__"), (.type "type")]), #[]⟩ : Obj)
noncomputable def o84 (P : Params) : Obj := (⟨(.type "dict"), none, (.dict #[⟨(PyData.keyHash P (.ofString "__module__")), (.str (.ofString "__module__") 295), (.str (.ofString "adacore.values") 258)⟩, ⟨(PyData.keyHash P (.ofString "__qualname__")), (.str (.ofString "__qualname__") 297), (.str (.ofString "ArrayValue") 296)⟩, ⟨(PyData.keyHash P (.ofString "__firstlineno__")), (.str (.ofString "__firstlineno__") 299), (.int 23 298)⟩, ⟨(PyData.keyHash P (.ofString "__init__")), (.str (.ofString "__init__") 308), (.ref 95)⟩, ⟨(PyData.keyHash P (.ofString "__static_attributes__")), (.str (.ofString "__static_attributes__") 311), (.ref 96)⟩] 5), #[]⟩ : Obj)
noncomputable def o85 (P : Params) : Obj := (⟨(.type "tuple"), none, (.seq #[] 0), #[]⟩ : Obj)
noncomputable def o86 (P : Params) : Obj := (⟨.none, none, (.fields #[(.int 25 0), (.int 4 0), (.ref 94)]), #[]⟩ : Obj)
noncomputable def o87 (P : Params) : Obj := (⟨(.type "code"), none, (.fields #[(.str (.ofString "ArrayValue") 290), (.str (.ofString "ArrayValue") 291), (.str (.ofString "/claim/cut.py") 292), (.int 23 0), (.int 0 0), (.int 0 0), (.int 0 0), (.int 0 0), (.ref 85), (.bool false), (.int 181 0), (.ref 86), .none, .none, .none, .none, (.int 293 0), (.int 23 0), (.str (.ofString "/claim/cut.py") 294)]), #[]⟩ : Obj)
noncomputable def o88 (P : Params) : Obj := (⟨(.type "frame"), none, .plain, #[(some (.ref 87)), (some (.ref 3)), (some (.ref 84)), none, (some (.str (.ofString "adacore.values") 258)), none, (some (.ref 0))]⟩ : Obj)
noncomputable def o89 (P : Params) : Obj := (⟨(.type "tuple"), none, (.seq #[] 0), #[]⟩ : Obj)
noncomputable def o90 (P : Params) : Obj := (⟨.none, none, (.fields #[]), #[]⟩ : Obj)
noncomputable def o91 (P : Params) : Obj := (⟨(.type "tuple"), none, (.seq #[(.str (.ofString "self") 303), (.str (.ofString "bounds") 304), (.str (.ofString "items") 305)] 0), #[]⟩ : Obj)
noncomputable def o92 (P : Params) : Obj := (⟨(.type "tuple"), none, (.seq #[] 0), #[]⟩ : Obj)
noncomputable def o93 (P : Params) : Obj := withFn (st := (stIn 8 0)) (fun ps b sc => (⟨.none, none, (.func ⟨(.ofString "__init__"), (.ofString "ArrayValue.__init__"), ps, (.stmts b), sc, 0, [], .none, .none, .none, .none, none, .none, .none, 0⟩), #[]⟩ : Obj)) rfl
noncomputable def o94 (P : Params) : Obj := (⟨(.type "code"), none, (.fields #[(.str (.ofString "__init__") 300), (.str (.ofString "ArrayValue.__init__") 301), (.str (.ofString "/claim/cut.py") 302), (.int 25 0), (.int 3 0), (.int 0 0), (.int 0 0), (.int 3 0), (.ref 89), (.bool true), (.int 181 0), (.ref 90), .none, (.ref 91), (.ref 92), (.ref 93), (.int 306 0), (.int 25 0), (.str (.ofString "/claim/cut.py") 307)]), #[]⟩ : Obj)
noncomputable def o95 (P : Params) : Obj := withFn (st := (stIn 8 0)) (fun ps b sc => (⟨(.type "function"), none, (.func ⟨(.ofString "__init__"), (.ofString "ArrayValue.__init__"), ps, (.stmts b), sc, 3, [], .none, .none, .none, (.str (.ofString "adacore.values") 258), none, (.ref 94), .none, 0⟩), #[]⟩ : Obj)) rfl
noncomputable def o96 (P : Params) : Obj := (⟨(.type "tuple"), none, (.seq #[(.str (.ofString "bounds") 309), (.str (.ofString "items") 310)] 0), #[]⟩ : Obj)
noncomputable def o97 (P : Params) : Obj := (⟨(.type "dict"), none, (.dict #[⟨(PyData.keyHash P (.ofString "__module__")), (.str (.ofString "__module__") 295), (.str (.ofString "adacore.values") 258)⟩, ⟨(PyData.keyHash P (.ofString "__firstlineno__")), (.str (.ofString "__firstlineno__") 299), (.int 23 298)⟩, ⟨(PyData.keyHash P (.ofString "__init__")), (.str (.ofString "__init__") 308), (.ref 95)⟩, ⟨(PyData.keyHash P (.ofString "__static_attributes__")), (.str (.ofString "__static_attributes__") 311), (.ref 96)⟩, ⟨(PyData.keyHash P (.ofString "__dict__")), (.str (.ofString "__dict__") 313), (.ref 99)⟩, ⟨(PyData.keyHash P (.ofString "__weakref__")), (.str (.ofString "__weakref__") 315), (.ref 100)⟩, ⟨(PyData.keyHash P (.ofString "__doc__")), (.str (.ofString "__doc__") 316), .none⟩] 4), #[]⟩ : Obj)
noncomputable def o98 (P : Params) : Obj := (⟨(.type "type"), none, (.cls ⟨(.ofString "ArrayValue"), [(.type "object")], [(.ref 98), (.type "object")], 97, (.ofString "ArrayValue"), true, [], [], false, none, false⟩), #[none, none, (some (.str (.ofString "ArrayValue") 288)), (some (.str (.ofString "ArrayValue") 296)), (some (.builtin "object.__new__")), (some (.bool true))]⟩ : Obj)
noncomputable def o99 (P : Params) : Obj := (⟨(.type "getset_descriptor"), none, (.fields #[(.str (.ofString "__dict__") 312), (.ref 98), (.builtin "function.__dict__"), (.builtin "function.__dict__#set")]), #[]⟩ : Obj)
noncomputable def o100 (P : Params) : Obj := (⟨(.type "getset_descriptor"), none, (.fields #[(.str (.ofString "__weakref__") 314), (.ref 98), (.builtin "ExceptionGroup.__weakref__"), .none]), #[]⟩ : Obj)
noncomputable def o101 (P : Params) : Obj := (⟨(.type "super"), none, (.fields #[(.ref 98), (.ref 98), (.ref 98)]), #[]⟩ : Obj)
noncomputable def o102 (P : Params) : Obj := (⟨(.type "builtin_function_or_method"), none, (.fields #[(.builtin "object.__init_subclass__"), (.ref 98)]), #[]⟩ : Obj)
noncomputable def o103 (P : Params) : Obj := (⟨(.type "tuple"), none, (.seq #[] 0), #[]⟩ : Obj)
noncomputable def o104 (P : Params) : Obj := (⟨(.type "builtin_function_or_method"), none, (.fields #[(.builtin "type.__prepare__"), (.type "type")]), #[]⟩ : Obj)
noncomputable def o105 (P : Params) : Obj := (⟨(.type "dict"), none, (.dict #[⟨(PyData.keyHash P (.ofString "__module__")), (.str (.ofString "__module__") 326), (.str (.ofString "adacore.values") 258)⟩, ⟨(PyData.keyHash P (.ofString "__qualname__")), (.str (.ofString "__qualname__") 328), (.str (.ofString "RecordValue") 327)⟩, ⟨(PyData.keyHash P (.ofString "__firstlineno__")), (.str (.ofString "__firstlineno__") 330), (.int 28 329)⟩, ⟨(PyData.keyHash P (.ofString "__init__")), (.str (.ofString "__init__") 339), (.ref 116)⟩, ⟨(PyData.keyHash P (.ofString "__static_attributes__")), (.str (.ofString "__static_attributes__") 342), (.ref 117)⟩] 5), #[]⟩ : Obj)
noncomputable def o106 (P : Params) : Obj := (⟨(.type "tuple"), none, (.seq #[] 0), #[]⟩ : Obj)
noncomputable def o107 (P : Params) : Obj := (⟨.none, none, (.fields #[(.int 30 0), (.int 4 0), (.ref 115)]), #[]⟩ : Obj)
noncomputable def o108 (P : Params) : Obj := (⟨(.type "code"), none, (.fields #[(.str (.ofString "RecordValue") 321), (.str (.ofString "RecordValue") 322), (.str (.ofString "/claim/cut.py") 323), (.int 28 0), (.int 0 0), (.int 0 0), (.int 0 0), (.int 0 0), (.ref 106), (.bool false), (.int 181 0), (.ref 107), .none, .none, .none, .none, (.int 324 0), (.int 28 0), (.str (.ofString "/claim/cut.py") 325)]), #[]⟩ : Obj)
noncomputable def o109 (P : Params) : Obj := (⟨(.type "frame"), none, .plain, #[(some (.ref 108)), (some (.ref 3)), (some (.ref 105)), none, (some (.str (.ofString "adacore.values") 258)), none, (some (.ref 0))]⟩ : Obj)
noncomputable def o110 (P : Params) : Obj := (⟨(.type "tuple"), none, (.seq #[] 0), #[]⟩ : Obj)
noncomputable def o111 (P : Params) : Obj := (⟨.none, none, (.fields #[]), #[]⟩ : Obj)
noncomputable def o112 (P : Params) : Obj := (⟨(.type "tuple"), none, (.seq #[(.str (.ofString "self") 334), (.str (.ofString "t") 335), (.str (.ofString "fields") 336)] 0), #[]⟩ : Obj)
noncomputable def o113 (P : Params) : Obj := (⟨(.type "tuple"), none, (.seq #[] 0), #[]⟩ : Obj)
noncomputable def o114 (P : Params) : Obj := withFn (st := (stIn 9 0)) (fun ps b sc => (⟨.none, none, (.func ⟨(.ofString "__init__"), (.ofString "RecordValue.__init__"), ps, (.stmts b), sc, 0, [], .none, .none, .none, .none, none, .none, .none, 0⟩), #[]⟩ : Obj)) rfl
noncomputable def o115 (P : Params) : Obj := (⟨(.type "code"), none, (.fields #[(.str (.ofString "__init__") 331), (.str (.ofString "RecordValue.__init__") 332), (.str (.ofString "/claim/cut.py") 333), (.int 30 0), (.int 3 0), (.int 0 0), (.int 0 0), (.int 3 0), (.ref 110), (.bool true), (.int 181 0), (.ref 111), .none, (.ref 112), (.ref 113), (.ref 114), (.int 337 0), (.int 30 0), (.str (.ofString "/claim/cut.py") 338)]), #[]⟩ : Obj)
noncomputable def o116 (P : Params) : Obj := withFn (st := (stIn 9 0)) (fun ps b sc => (⟨(.type "function"), none, (.func ⟨(.ofString "__init__"), (.ofString "RecordValue.__init__"), ps, (.stmts b), sc, 3, [], .none, .none, .none, (.str (.ofString "adacore.values") 258), none, (.ref 115), .none, 0⟩), #[]⟩ : Obj)) rfl
noncomputable def o117 (P : Params) : Obj := (⟨(.type "tuple"), none, (.seq #[(.str (.ofString "fields") 340), (.str (.ofString "type") 341)] 0), #[]⟩ : Obj)
noncomputable def o118 (P : Params) : Obj := (⟨(.type "dict"), none, (.dict #[⟨(PyData.keyHash P (.ofString "__module__")), (.str (.ofString "__module__") 326), (.str (.ofString "adacore.values") 258)⟩, ⟨(PyData.keyHash P (.ofString "__firstlineno__")), (.str (.ofString "__firstlineno__") 330), (.int 28 329)⟩, ⟨(PyData.keyHash P (.ofString "__init__")), (.str (.ofString "__init__") 339), (.ref 116)⟩, ⟨(PyData.keyHash P (.ofString "__static_attributes__")), (.str (.ofString "__static_attributes__") 342), (.ref 117)⟩, ⟨(PyData.keyHash P (.ofString "__dict__")), (.str (.ofString "__dict__") 344), (.ref 120)⟩, ⟨(PyData.keyHash P (.ofString "__weakref__")), (.str (.ofString "__weakref__") 346), (.ref 121)⟩, ⟨(PyData.keyHash P (.ofString "__doc__")), (.str (.ofString "__doc__") 347), .none⟩] 4), #[]⟩ : Obj)
noncomputable def o119 (P : Params) : Obj := (⟨(.type "type"), none, (.cls ⟨(.ofString "RecordValue"), [(.type "object")], [(.ref 119), (.type "object")], 118, (.ofString "RecordValue"), true, [], [], false, none, false⟩), #[none, none, (some (.str (.ofString "RecordValue") 319)), (some (.str (.ofString "RecordValue") 327)), (some (.builtin "object.__new__")), (some (.bool true))]⟩ : Obj)
noncomputable def o120 (P : Params) : Obj := (⟨(.type "getset_descriptor"), none, (.fields #[(.str (.ofString "__dict__") 343), (.ref 119), (.builtin "function.__dict__"), (.builtin "function.__dict__#set")]), #[]⟩ : Obj)
noncomputable def o121 (P : Params) : Obj := (⟨(.type "getset_descriptor"), none, (.fields #[(.str (.ofString "__weakref__") 345), (.ref 119), (.builtin "ExceptionGroup.__weakref__"), .none]), #[]⟩ : Obj)
noncomputable def o122 (P : Params) : Obj := (⟨(.type "super"), none, (.fields #[(.ref 119), (.ref 119), (.ref 119)]), #[]⟩ : Obj)
noncomputable def o123 (P : Params) : Obj := (⟨(.type "builtin_function_or_method"), none, (.fields #[(.builtin "object.__init_subclass__"), (.ref 119)]), #[]⟩ : Obj)
noncomputable def o124 (P : Params) : Obj := (⟨(.type "tuple"), none, (.seq #[] 0), #[]⟩ : Obj)
noncomputable def o125 (P : Params) : Obj := (⟨.none, none, (.fields #[]), #[]⟩ : Obj)
noncomputable def o126 (P : Params) : Obj := (⟨(.type "tuple"), none, (.seq #[(.str (.ofString "value") 353)] 0), #[]⟩ : Obj)
noncomputable def o127 (P : Params) : Obj := (⟨(.type "tuple"), none, (.seq #[] 0), #[]⟩ : Obj)
noncomputable def o128 (P : Params) : Obj := withFn (st := (stAt 10)) (fun ps b sc => (⟨.none, none, (.func ⟨(.ofString "need_set"), (.ofString "need_set"), ps, (.stmts b), sc, 0, [], .none, .none, .none, .none, none, .none, .none, 0⟩), #[]⟩ : Obj)) rfl
noncomputable def o129 (P : Params) : Obj := (⟨(.type "code"), none, (.fields #[(.str (.ofString "need_set") 350), (.str (.ofString "need_set") 351), (.str (.ofString "/claim/cut.py") 352), (.int 33 0), (.int 1 0), (.int 0 0), (.int 0 0), (.int 3 0), (.ref 124), (.bool true), (.int 181 0), (.ref 125), .none, (.ref 126), (.ref 127), (.ref 128), (.int 354 0), (.int 33 0), (.str (.ofString "/claim/cut.py") 355)]), #[]⟩ : Obj)
noncomputable def o130 (P : Params) : Obj := withFn (st := (stAt 10)) (fun ps b sc => (⟨(.type "function"), none, (.func ⟨(.ofString "need_set"), (.ofString "need_set"), ps, (.stmts b), sc, 3, [], .none, .none, .none, (.str (.ofString "adacore.values") 258), none, (.ref 129), .none, 0⟩), #[]⟩ : Obj)) rfl
noncomputable def o131 (P : Params) : Obj := (⟨(.type "tuple"), none, (.seq #[] 0), #[]⟩ : Obj)
noncomputable def o132 (P : Params) : Obj := (⟨.none, none, (.fields #[]), #[]⟩ : Obj)
noncomputable def o133 (P : Params) : Obj := withFn (st := (stAt 11)) (fun ps b sc => (⟨.none, none, (.func ⟨(.ofString "copy_value"), (.ofString "copy_value"), ps, (.stmts b), sc, 0, [], .none, .none, .none, .none, none, .none, .none, 0⟩), #[]⟩ : Obj)) rfl
noncomputable def o134 (P : Params) : Obj := (⟨(.type "code"), none, (.fields #[(.str (.ofString "copy_value") 357), (.str (.ofString "copy_value") 358), (.str (.ofString "/claim/cut.py") 359), (.int 37 0), (.int 1 0), (.int 0 0), (.int 0 0), (.int 3 0), (.ref 131), (.bool true), (.int 181 0), (.ref 132), .none, .none, .none, (.ref 133), (.int 360 0), (.int 37 0), (.str (.ofString "/claim/cut.py") 361)]), #[]⟩ : Obj)
noncomputable def o135 (P : Params) : Obj := withFn (st := (stAt 11)) (fun ps b sc => (⟨(.type "function"), none, (.func ⟨(.ofString "copy_value"), (.ofString "copy_value"), ps, (.stmts b), sc, 3, [], .none, .none, .none, (.str (.ofString "adacore.values") 258), none, (.ref 134), .none, 0⟩), #[]⟩ : Obj)) rfl
noncomputable def o136 (P : Params) : Obj := (⟨(.type "tuple"), none, (.seq #[] 0), #[]⟩ : Obj)
noncomputable def o137 (P : Params) : Obj := (⟨.none, none, (.fields #[]), #[]⟩ : Obj)
noncomputable def o138 (P : Params) : Obj := (⟨(.type "tuple"), none, (.seq #[(.str (.ofString "choices") 368), (.str (.ofString "value") 369), (.str (.ofString "low") 370), (.str (.ofString "high") 371)] 0), #[]⟩ : Obj)
noncomputable def o139 (P : Params) : Obj := (⟨(.type "tuple"), none, (.seq #[] 0), #[]⟩ : Obj)
noncomputable def o140 (P : Params) : Obj := withFn (st := (stAt 13)) (fun ps b sc => (⟨.none, none, (.func ⟨(.ofString "covers_choice"), (.ofString "covers_choice"), ps, (.stmts b), sc, 0, [], .none, .none, .none, .none, none, .none, .none, 0⟩), #[]⟩ : Obj)) rfl
noncomputable def o141 (P : Params) : Obj := (⟨(.type "code"), none, (.fields #[(.str (.ofString "covers_choice") 365), (.str (.ofString "covers_choice") 366), (.str (.ofString "/claim/cut.py") 367), (.int 47 0), (.int 2 0), (.int 0 0), (.int 0 0), (.int 3 0), (.ref 136), (.bool true), (.int 181 0), (.ref 137), .none, (.ref 138), (.ref 139), (.ref 140), (.int 372 0), (.int 47 0), (.str (.ofString "/claim/cut.py") 373)]), #[]⟩ : Obj)
noncomputable def o142 (P : Params) : Obj := withFn (st := (stAt 13)) (fun ps b sc => (⟨(.type "function"), none, (.func ⟨(.ofString "covers_choice"), (.ofString "covers_choice"), ps, (.stmts b), sc, 3, [], .none, .none, .none, (.str (.ofString "adacore.records") 363), none, (.ref 141), .none, 0⟩), #[]⟩ : Obj)) rfl
noncomputable def o143 (P : Params) : Obj := (⟨(.type "tuple"), none, (.seq #[] 0), #[]⟩ : Obj)
noncomputable def o144 (P : Params) : Obj := (⟨.none, none, (.fields #[]), #[]⟩ : Obj)
noncomputable def o145 (P : Params) : Obj := (⟨(.type "tuple"), none, (.seq #[(.str (.ofString "variant") 378), (.str (.ofString "discs") 379), (.str (.ofString "value") 380), (.str (.ofString "alternative") 381)] 0), #[]⟩ : Obj)
noncomputable def o146 (P : Params) : Obj := (⟨(.type "tuple"), none, (.seq #[] 0), #[]⟩ : Obj)
noncomputable def o147 (P : Params) : Obj := withFn (st := (stAt 14)) (fun ps b sc => (⟨.none, none, (.func ⟨(.ofString "chosen_alternative"), (.ofString "chosen_alternative"), ps, (.stmts b), sc, 0, [], .none, .none, .none, .none, none, .none, .none, 0⟩), #[]⟩ : Obj)) rfl
noncomputable def o148 (P : Params) : Obj := (⟨(.type "code"), none, (.fields #[(.str (.ofString "chosen_alternative") 375), (.str (.ofString "chosen_alternative") 376), (.str (.ofString "/claim/cut.py") 377), (.int 54 0), (.int 2 0), (.int 0 0), (.int 0 0), (.int 3 0), (.ref 143), (.bool true), (.int 181 0), (.ref 144), .none, (.ref 145), (.ref 146), (.ref 147), (.int 382 0), (.int 54 0), (.str (.ofString "/claim/cut.py") 383)]), #[]⟩ : Obj)
noncomputable def o149 (P : Params) : Obj := withFn (st := (stAt 14)) (fun ps b sc => (⟨(.type "function"), none, (.func ⟨(.ofString "chosen_alternative"), (.ofString "chosen_alternative"), ps, (.stmts b), sc, 3, [], .none, .none, .none, (.str (.ofString "adacore.records") 363), none, (.ref 148), .none, 0⟩), #[]⟩ : Obj)) rfl
noncomputable def o150 (P : Params) : Obj := (⟨(.type "tuple"), none, (.seq #[] 0), #[]⟩ : Obj)
noncomputable def o151 (P : Params) : Obj := (⟨.none, none, (.fields #[]), #[]⟩ : Obj)
noncomputable def o152 (P : Params) : Obj := (⟨(.type "tuple"), none, (.seq #[(.str (.ofString "variant") 388), (.str (.ofString "discs") 389), (.str (.ofString "found") 390), (.str (.ofString "here") 391), (.str (.ofString "alternative") 392)] 0), #[]⟩ : Obj)
noncomputable def o153 (P : Params) : Obj := (⟨(.type "tuple"), none, (.seq #[] 0), #[]⟩ : Obj)
noncomputable def o154 (P : Params) : Obj := withFn (st := (stAt 15)) (fun ps b sc => (⟨.none, none, (.func ⟨(.ofString "variant_parts"), (.ofString "variant_parts"), ps, (.stmts b), sc, 0, [], .none, .none, .none, .none, none, .none, .none, 0⟩), #[]⟩ : Obj)) rfl
noncomputable def o155 (P : Params) : Obj := (⟨(.type "code"), none, (.fields #[(.str (.ofString "variant_parts") 385), (.str (.ofString "variant_parts") 386), (.str (.ofString "/claim/cut.py") 387), (.int 60 0), (.int 2 0), (.int 0 0), (.int 0 0), (.int 3 0), (.ref 150), (.bool true), (.int 181 0), (.ref 151), .none, (.ref 152), (.ref 153), (.ref 154), (.int 393 0), (.int 60 0), (.str (.ofString "/claim/cut.py") 394)]), #[]⟩ : Obj)
noncomputable def o156 (P : Params) : Obj := withFn (st := (stAt 15)) (fun ps b sc => (⟨(.type "function"), none, (.func ⟨(.ofString "variant_parts"), (.ofString "variant_parts"), ps, (.stmts b), sc, 3, [], .none, .none, .none, (.str (.ofString "adacore.records") 363), none, (.ref 155), .none, 0⟩), #[]⟩ : Obj)) rfl
noncomputable def o157 (P : Params) : Obj := (⟨(.type "tuple"), none, (.seq #[] 0), #[]⟩ : Obj)
noncomputable def o158 (P : Params) : Obj := (⟨.none, none, (.fields #[]), #[]⟩ : Obj)
noncomputable def o159 (P : Params) : Obj := (⟨(.type "tuple"), none, (.seq #[(.str (.ofString "t") 399), (.str (.ofString "discs") 400), (.str (.ofString "found") 401)] 0), #[]⟩ : Obj)
noncomputable def o160 (P : Params) : Obj := (⟨(.type "tuple"), none, (.seq #[] 0), #[]⟩ : Obj)
noncomputable def o161 (P : Params) : Obj := withFn (st := (stAt 16)) (fun ps b sc => (⟨.none, none, (.func ⟨(.ofString "present_parts"), (.ofString "present_parts"), ps, (.stmts b), sc, 0, [], .none, .none, .none, .none, none, .none, .none, 0⟩), #[]⟩ : Obj)) rfl
noncomputable def o162 (P : Params) : Obj := (⟨(.type "code"), none, (.fields #[(.str (.ofString "present_parts") 396), (.str (.ofString "present_parts") 397), (.str (.ofString "/claim/cut.py") 398), (.int 68 0), (.int 2 0), (.int 0 0), (.int 0 0), (.int 3 0), (.ref 157), (.bool true), (.int 181 0), (.ref 158), .none, (.ref 159), (.ref 160), (.ref 161), (.int 402 0), (.int 68 0), (.str (.ofString "/claim/cut.py") 403)]), #[]⟩ : Obj)
noncomputable def o163 (P : Params) : Obj := withFn (st := (stAt 16)) (fun ps b sc => (⟨(.type "function"), none, (.func ⟨(.ofString "present_parts"), (.ofString "present_parts"), ps, (.stmts b), sc, 3, [], .none, .none, .none, (.str (.ofString "adacore.records") 363), none, (.ref 162), .none, 0⟩), #[]⟩ : Obj)) rfl
noncomputable def o164 (P : Params) : Obj := (⟨(.type "tuple"), none, (.seq #[] 0), #[]⟩ : Obj)
noncomputable def o165 (P : Params) : Obj := (⟨.none, none, (.fields #[]), #[]⟩ : Obj)
noncomputable def o166 (P : Params) : Obj := withFn (st := (stAt 17)) (fun ps b sc => (⟨.none, none, (.func ⟨(.ofString "variant_names"), (.ofString "variant_names"), ps, (.stmts b), sc, 0, [], .none, .none, .none, .none, none, .none, .none, 0⟩), #[]⟩ : Obj)) rfl
noncomputable def o167 (P : Params) : Obj := (⟨(.type "code"), none, (.fields #[(.str (.ofString "variant_names") 405), (.str (.ofString "variant_names") 406), (.str (.ofString "/claim/cut.py") 407), (.int 73 0), (.int 1 0), (.int 0 0), (.int 0 0), (.int 3 0), (.ref 164), (.bool true), (.int 181 0), (.ref 165), .none, .none, .none, (.ref 166), (.int 408 0), (.int 73 0), (.str (.ofString "/claim/cut.py") 409)]), #[]⟩ : Obj)
noncomputable def o168 (P : Params) : Obj := withFn (st := (stAt 17)) (fun ps b sc => (⟨(.type "function"), none, (.func ⟨(.ofString "variant_names"), (.ofString "variant_names"), ps, (.stmts b), sc, 3, [], .none, .none, .none, (.str (.ofString "adacore.records") 363), none, (.ref 167), .none, 0⟩), #[]⟩ : Obj)) rfl
noncomputable def o169 (P : Params) : Obj := (⟨(.type "tuple"), none, (.seq #[] 0), #[]⟩ : Obj)
noncomputable def o170 (P : Params) : Obj := (⟨.none, none, (.fields #[]), #[]⟩ : Obj)
noncomputable def o171 (P : Params) : Obj := withFn (st := (stAt 18)) (fun ps b sc => (⟨.none, none, (.func ⟨(.ofString "part_names"), (.ofString "part_names"), ps, (.stmts b), sc, 0, [], .none, .none, .none, .none, none, .none, .none, 0⟩), #[]⟩ : Obj)) rfl
noncomputable def o172 (P : Params) : Obj := (⟨(.type "code"), none, (.fields #[(.str (.ofString "part_names") 411), (.str (.ofString "part_names") 412), (.str (.ofString "/claim/cut.py") 413), (.int 84 0), (.int 1 0), (.int 0 0), (.int 0 0), (.int 3 0), (.ref 169), (.bool true), (.int 181 0), (.ref 170), .none, .none, .none, (.ref 171), (.int 414 0), (.int 84 0), (.str (.ofString "/claim/cut.py") 415)]), #[]⟩ : Obj)
noncomputable def o173 (P : Params) : Obj := withFn (st := (stAt 18)) (fun ps b sc => (⟨(.type "function"), none, (.func ⟨(.ofString "part_names"), (.ofString "part_names"), ps, (.stmts b), sc, 3, [], .none, .none, .none, (.str (.ofString "adacore.records") 363), none, (.ref 172), .none, 0⟩), #[]⟩ : Obj)) rfl
noncomputable def o174 (P : Params) : Obj := (⟨(.type "tuple"), none, (.seq #[] 0), #[]⟩ : Obj)
noncomputable def o175 (P : Params) : Obj := (⟨.none, none, (.fields #[]), #[]⟩ : Obj)
noncomputable def o176 (P : Params) : Obj := (⟨(.type "tuple"), none, (.seq #[(.str (.ofString "t") 420), (.str (.ofString "given") 421), (.str (.ofString "discs") 422), (.str (.ofString "name") 423), (.str (.ofString "subtype") 424), (.str (.ofString "default") 425), (.str (.ofString "fields") 426)] 0), #[]⟩ : Obj)
noncomputable def o177 (P : Params) : Obj := (⟨(.type "tuple"), none, (.seq #[] 0), #[]⟩ : Obj)
noncomputable def o178 (P : Params) : Obj := withFn (st := (stAt 19)) (fun ps b sc => (⟨.none, none, (.func ⟨(.ofString "aggregate_record"), (.ofString "aggregate_record"), ps, (.stmts b), sc, 0, [], .none, .none, .none, .none, none, .none, .none, 0⟩), #[]⟩ : Obj)) rfl
noncomputable def o179 (P : Params) : Obj := (⟨(.type "code"), none, (.fields #[(.str (.ofString "aggregate_record") 417), (.str (.ofString "aggregate_record") 418), (.str (.ofString "/claim/cut.py") 419), (.int 87 0), (.int 2 0), (.int 0 0), (.int 0 0), (.int 3 0), (.ref 174), (.bool true), (.int 181 0), (.ref 175), .none, (.ref 176), (.ref 177), (.ref 178), (.int 427 0), (.int 87 0), (.str (.ofString "/claim/cut.py") 428)]), #[]⟩ : Obj)
noncomputable def o180 (P : Params) : Obj := withFn (st := (stAt 19)) (fun ps b sc => (⟨(.type "function"), none, (.func ⟨(.ofString "aggregate_record"), (.ofString "aggregate_record"), ps, (.stmts b), sc, 3, [], .none, .none, .none, (.str (.ofString "adacore.records") 363), none, (.ref 179), .none, 0⟩), #[]⟩ : Obj)) rfl
noncomputable def o181 (P : Params) : Obj := (⟨(.type "tuple"), none, (.seq #[] 0), #[]⟩ : Obj)
noncomputable def o182 (P : Params) : Obj := (⟨.none, none, (.fields #[]), #[]⟩ : Obj)
noncomputable def o183 (P : Params) : Obj := (⟨(.type "tuple"), none, (.seq #[(.str (.ofString "t") 433), (.str (.ofString "ancestor") 434), (.str (.ofString "given") 435), (.str (.ofString "names") 436), (.str (.ofString "whole") 437), (.str (.ofString "name") 438)] 0), #[]⟩ : Obj)
noncomputable def o184 (P : Params) : Obj := (⟨(.type "tuple"), none, (.seq #[] 0), #[]⟩ : Obj)
noncomputable def o185 (P : Params) : Obj := withFn (st := (stAt 20)) (fun ps b sc => (⟨.none, none, (.func ⟨(.ofString "extended_record"), (.ofString "extended_record"), ps, (.stmts b), sc, 0, [], .none, .none, .none, .none, none, .none, .none, 0⟩), #[]⟩ : Obj)) rfl
noncomputable def o186 (P : Params) : Obj := (⟨(.type "code"), none, (.fields #[(.str (.ofString "extended_record") 430), (.str (.ofString "extended_record") 431), (.str (.ofString "/claim/cut.py") 432), (.int 101 0), (.int 3 0), (.int 0 0), (.int 0 0), (.int 3 0), (.ref 181), (.bool true), (.int 181 0), (.ref 182), .none, (.ref 183), (.ref 184), (.ref 185), (.int 439 0), (.int 101 0), (.str (.ofString "/claim/cut.py") 440)]), #[]⟩ : Obj)
noncomputable def o187 (P : Params) : Obj := withFn (st := (stAt 20)) (fun ps b sc => (⟨(.type "function"), none, (.func ⟨(.ofString "extended_record"), (.ofString "extended_record"), ps, (.stmts b), sc, 3, [], .none, .none, .none, (.str (.ofString "adacore.records") 363), none, (.ref 186), .none, 0⟩), #[]⟩ : Obj)) rfl
noncomputable def o188 (P : Params) : Obj := (⟨(.type "tuple"), none, (.seq #[] 0), #[]⟩ : Obj)
noncomputable def o189 (P : Params) : Obj := (⟨(.type "builtin_function_or_method"), none, (.fields #[(.builtin "type.__prepare__"), (.type "type")]), #[]⟩ : Obj)
noncomputable def o190 (P : Params) : Obj := (⟨(.type "dict"), none, (.dict #[⟨(PyData.keyHash P (.ofString "__module__")), (.str (.ofString "__module__") 451), (.str (.ofString "adacore.types") 442)⟩, ⟨(PyData.keyHash P (.ofString "__qualname__")), (.str (.ofString "__qualname__") 453), (.str (.ofString "Type") 452)⟩, ⟨(PyData.keyHash P (.ofString "__firstlineno__")), (.str (.ofString "__firstlineno__") 455), (.int 111 454)⟩, ⟨(PyData.keyHash P (.ofString "__init__")), (.str (.ofString "__init__") 464), (.ref 201)⟩, ⟨(PyData.keyHash P (.ofString "__static_attributes__")), (.str (.ofString "__static_attributes__") 489), (.ref 202)⟩] 5), #[]⟩ : Obj)
noncomputable def o191 (P : Params) : Obj := (⟨(.type "tuple"), none, (.seq #[] 0), #[]⟩ : Obj)
noncomputable def o192 (P : Params) : Obj := (⟨.none, none, (.fields #[(.int 113 0), (.int 4 0), (.ref 200)]), #[]⟩ : Obj)
noncomputable def o193 (P : Params) : Obj := (⟨(.type "code"), none, (.fields #[(.str (.ofString "Type") 446), (.str (.ofString "Type") 447), (.str (.ofString "/claim/cut.py") 448), (.int 111 0), (.int 0 0), (.int 0 0), (.int 0 0), (.int 0 0), (.ref 191), (.bool false), (.int 181 0), (.ref 192), .none, .none, .none, .none, (.int 449 0), (.int 111 0), (.str (.ofString "/claim/cut.py") 450)]), #[]⟩ : Obj)
noncomputable def o194 (P : Params) : Obj := (⟨(.type "frame"), none, .plain, #[(some (.ref 193)), (some (.ref 3)), (some (.ref 190)), none, (some (.str (.ofString "adacore.types") 442)), none, (some (.ref 0))]⟩ : Obj)
noncomputable def o195 (P : Params) : Obj := (⟨(.type "tuple"), none, (.seq #[] 0), #[]⟩ : Obj)
noncomputable def o196 (P : Params) : Obj := (⟨.none, none, (.fields #[]), #[]⟩ : Obj)
noncomputable def o197 (P : Params) : Obj := (⟨(.type "tuple"), none, (.seq #[(.str (.ofString "self") 459), (.str (.ofString "kind") 460), (.str (.ofString "name") 461)] 0), #[]⟩ : Obj)
noncomputable def o198 (P : Params) : Obj := (⟨(.type "tuple"), none, (.seq #[] 0), #[]⟩ : Obj)
noncomputable def o199 (P : Params) : Obj := withFn (st := (stIn 22 0)) (fun ps b sc => (⟨.none, none, (.func ⟨(.ofString "__init__"), (.ofString "Type.__init__"), ps, (.stmts b), sc, 0, [], .none, .none, .none, .none, none, .none, .none, 0⟩), #[]⟩ : Obj)) rfl
noncomputable def o200 (P : Params) : Obj := (⟨(.type "code"), none, (.fields #[(.str (.ofString "__init__") 456), (.str (.ofString "Type.__init__") 457), (.str (.ofString "/claim/cut.py") 458), (.int 113 0), (.int 3 0), (.int 0 0), (.int 0 0), (.int 3 0), (.ref 195), (.bool true), (.int 181 0), (.ref 196), .none, (.ref 197), (.ref 198), (.ref 199), (.int 462 0), (.int 113 0), (.str (.ofString "/claim/cut.py") 463)]), #[]⟩ : Obj)
noncomputable def o201 (P : Params) : Obj := withFn (st := (stIn 22 0)) (fun ps b sc => (⟨(.type "function"), none, (.func ⟨(.ofString "__init__"), (.ofString "Type.__init__"), ps, (.stmts b), sc, 3, [], .none, .none, .none, (.str (.ofString "adacore.types") 442), none, (.ref 200), .none, 0⟩), #[]⟩ : Obj)) rfl
noncomputable def o202 (P : Params) : Obj := (⟨(.type "tuple"), none, (.seq #[(.str (.ofString "component") 465), (.str (.ofString "components") 466), (.str (.ofString "designated") 467), (.str (.ofString "discriminants") 468), (.str (.ofString "high") 469), (.str (.ofString "index") 470), (.str (.ofString "is_abstract") 471), (.str (.ofString "is_constant") 472), (.str (.ofString "is_constrained") 473), (.str (.ofString "is_late") 474), (.str (.ofString "is_limited") 475), (.str (.ofString "is_private") 476), (.str (.ofString "is_tagged") 477), (.str (.ofString "kind") 478), (.str (.ofString "literals") 479), (.str (.ofString "low") 480), (.str (.ofString "modulus") 481), (.str (.ofString "name") 482), (.str (.ofString "number") 483), (.str (.ofString "operations") 484), (.str (.ofString "parent") 485), (.str (.ofString "small") 486), (.str (.ofString "variant") 487), (.str (.ofString "wide") 488)] 0), #[]⟩ : Obj)
noncomputable def o203 (P : Params) : Obj := (⟨(.type "dict"), none, (.dict #[⟨(PyData.keyHash P (.ofString "__module__")), (.str (.ofString "__module__") 451), (.str (.ofString "adacore.types") 442)⟩, ⟨(PyData.keyHash P (.ofString "__firstlineno__")), (.str (.ofString "__firstlineno__") 455), (.int 111 454)⟩, ⟨(PyData.keyHash P (.ofString "__init__")), (.str (.ofString "__init__") 464), (.ref 201)⟩, ⟨(PyData.keyHash P (.ofString "__static_attributes__")), (.str (.ofString "__static_attributes__") 489), (.ref 202)⟩, ⟨(PyData.keyHash P (.ofString "__dict__")), (.str (.ofString "__dict__") 491), (.ref 205)⟩, ⟨(PyData.keyHash P (.ofString "__weakref__")), (.str (.ofString "__weakref__") 493), (.ref 206)⟩, ⟨(PyData.keyHash P (.ofString "__doc__")), (.str (.ofString "__doc__") 494), .none⟩] 4), #[]⟩ : Obj)
noncomputable def o204 (P : Params) : Obj := (⟨(.type "type"), none, (.cls ⟨(.ofString "Type"), [(.type "object")], [(.ref 204), (.type "object")], 203, (.ofString "Type"), true, [], [], false, none, false⟩), #[none, none, (some (.str (.ofString "Type") 444)), (some (.str (.ofString "Type") 452)), (some (.builtin "object.__new__")), (some (.bool true))]⟩ : Obj)
noncomputable def o205 (P : Params) : Obj := (⟨(.type "getset_descriptor"), none, (.fields #[(.str (.ofString "__dict__") 490), (.ref 204), (.builtin "function.__dict__"), (.builtin "function.__dict__#set")]), #[]⟩ : Obj)
noncomputable def o206 (P : Params) : Obj := (⟨(.type "getset_descriptor"), none, (.fields #[(.str (.ofString "__weakref__") 492), (.ref 204), (.builtin "ExceptionGroup.__weakref__"), .none]), #[]⟩ : Obj)
noncomputable def o207 (P : Params) : Obj := (⟨(.type "super"), none, (.fields #[(.ref 204), (.ref 204), (.ref 204)]), #[]⟩ : Obj)
noncomputable def o208 (P : Params) : Obj := (⟨(.type "builtin_function_or_method"), none, (.fields #[(.builtin "object.__init_subclass__"), (.ref 204)]), #[]⟩ : Obj)
noncomputable def o209 (P : Params) : Obj := (⟨(.type "tuple"), none, (.seq #[] 0), #[]⟩ : Obj)
noncomputable def o210 (P : Params) : Obj := (⟨(.type "builtin_function_or_method"), none, (.fields #[(.builtin "type.__prepare__"), (.type "type")]), #[]⟩ : Obj)
noncomputable def o211 (P : Params) : Obj := (⟨(.type "dict"), none, (.dict #[⟨(PyData.keyHash P (.ofString "__module__")), (.str (.ofString "__module__") 504), (.str (.ofString "adacore.types") 442)⟩, ⟨(PyData.keyHash P (.ofString "__qualname__")), (.str (.ofString "__qualname__") 506), (.str (.ofString "Subtype") 505)⟩, ⟨(PyData.keyHash P (.ofString "__firstlineno__")), (.str (.ofString "__firstlineno__") 508), (.int 138 507)⟩, ⟨(PyData.keyHash P (.ofString "__init__")), (.str (.ofString "__init__") 517), (.ref 222)⟩, ⟨(PyData.keyHash P (.ofString "__static_attributes__")), (.str (.ofString "__static_attributes__") 520), (.ref 223)⟩] 5), #[]⟩ : Obj)
noncomputable def o212 (P : Params) : Obj := (⟨(.type "tuple"), none, (.seq #[] 0), #[]⟩ : Obj)
noncomputable def o213 (P : Params) : Obj := (⟨.none, none, (.fields #[(.int 140 0), (.int 4 0), (.ref 221)]), #[]⟩ : Obj)
noncomputable def o214 (P : Params) : Obj := (⟨(.type "code"), none, (.fields #[(.str (.ofString "Subtype") 499), (.str (.ofString "Subtype") 500), (.str (.ofString "/claim/cut.py") 501), (.int 138 0), (.int 0 0), (.int 0 0), (.int 0 0), (.int 0 0), (.ref 212), (.bool false), (.int 181 0), (.ref 213), .none, .none, .none, .none, (.int 502 0), (.int 138 0), (.str (.ofString "/claim/cut.py") 503)]), #[]⟩ : Obj)
noncomputable def o215 (P : Params) : Obj := (⟨(.type "frame"), none, .plain, #[(some (.ref 214)), (some (.ref 3)), (some (.ref 211)), none, (some (.str (.ofString "adacore.types") 442)), none, (some (.ref 0))]⟩ : Obj)
noncomputable def o216 (P : Params) : Obj := (⟨(.type "tuple"), none, (.seq #[] 0), #[]⟩ : Obj)
noncomputable def o217 (P : Params) : Obj := (⟨.none, none, (.fields #[]), #[]⟩ : Obj)
noncomputable def o218 (P : Params) : Obj := (⟨(.type "tuple"), none, (.seq #[(.str (.ofString "self") 512), (.str (.ofString "t") 513), (.str (.ofString "constraint") 514)] 0), #[]⟩ : Obj)
noncomputable def o219 (P : Params) : Obj := (⟨(.type "tuple"), none, (.seq #[] 0), #[]⟩ : Obj)
noncomputable def o220 (P : Params) : Obj := withFn (st := (stIn 23 0)) (fun ps b sc => (⟨.none, none, (.func ⟨(.ofString "__init__"), (.ofString "Subtype.__init__"), ps, (.stmts b), sc, 0, [], .none, .none, .none, .none, none, .none, .none, 0⟩), #[]⟩ : Obj)) rfl
noncomputable def o221 (P : Params) : Obj := (⟨(.type "code"), none, (.fields #[(.str (.ofString "__init__") 509), (.str (.ofString "Subtype.__init__") 510), (.str (.ofString "/claim/cut.py") 511), (.int 140 0), (.int 3 0), (.int 0 0), (.int 0 0), (.int 3 0), (.ref 216), (.bool true), (.int 181 0), (.ref 217), .none, (.ref 218), (.ref 219), (.ref 220), (.int 515 0), (.int 140 0), (.str (.ofString "/claim/cut.py") 516)]), #[]⟩ : Obj)
noncomputable def o222 (P : Params) : Obj := withFn (st := (stIn 23 0)) (fun ps b sc => (⟨(.type "function"), none, (.func ⟨(.ofString "__init__"), (.ofString "Subtype.__init__"), ps, (.stmts b), sc, 3, [], .none, .none, .none, (.str (.ofString "adacore.types") 442), none, (.ref 221), .none, 0⟩), #[]⟩ : Obj)) rfl
noncomputable def o223 (P : Params) : Obj := (⟨(.type "tuple"), none, (.seq #[(.str (.ofString "constraint") 518), (.str (.ofString "type") 519)] 0), #[]⟩ : Obj)
noncomputable def o224 (P : Params) : Obj := (⟨(.type "dict"), none, (.dict #[⟨(PyData.keyHash P (.ofString "__module__")), (.str (.ofString "__module__") 504), (.str (.ofString "adacore.types") 442)⟩, ⟨(PyData.keyHash P (.ofString "__firstlineno__")), (.str (.ofString "__firstlineno__") 508), (.int 138 507)⟩, ⟨(PyData.keyHash P (.ofString "__init__")), (.str (.ofString "__init__") 517), (.ref 222)⟩, ⟨(PyData.keyHash P (.ofString "__static_attributes__")), (.str (.ofString "__static_attributes__") 520), (.ref 223)⟩, ⟨(PyData.keyHash P (.ofString "__dict__")), (.str (.ofString "__dict__") 522), (.ref 226)⟩, ⟨(PyData.keyHash P (.ofString "__weakref__")), (.str (.ofString "__weakref__") 524), (.ref 227)⟩, ⟨(PyData.keyHash P (.ofString "__doc__")), (.str (.ofString "__doc__") 525), .none⟩] 4), #[]⟩ : Obj)
noncomputable def o225 (P : Params) : Obj := (⟨(.type "type"), none, (.cls ⟨(.ofString "Subtype"), [(.type "object")], [(.ref 225), (.type "object")], 224, (.ofString "Subtype"), true, [], [], false, none, false⟩), #[none, none, (some (.str (.ofString "Subtype") 497)), (some (.str (.ofString "Subtype") 505)), (some (.builtin "object.__new__")), (some (.bool true))]⟩ : Obj)
noncomputable def o226 (P : Params) : Obj := (⟨(.type "getset_descriptor"), none, (.fields #[(.str (.ofString "__dict__") 521), (.ref 225), (.builtin "function.__dict__"), (.builtin "function.__dict__#set")]), #[]⟩ : Obj)
noncomputable def o227 (P : Params) : Obj := (⟨(.type "getset_descriptor"), none, (.fields #[(.str (.ofString "__weakref__") 523), (.ref 225), (.builtin "ExceptionGroup.__weakref__"), .none]), #[]⟩ : Obj)
noncomputable def o228 (P : Params) : Obj := (⟨(.type "super"), none, (.fields #[(.ref 225), (.ref 225), (.ref 225)]), #[]⟩ : Obj)
noncomputable def o229 (P : Params) : Obj := (⟨(.type "builtin_function_or_method"), none, (.fields #[(.builtin "object.__init_subclass__"), (.ref 225)]), #[]⟩ : Obj)
noncomputable def o230 (P : Params) : Obj := (⟨(.type "tuple"), none, (.seq #[] 0), #[]⟩ : Obj)
noncomputable def o231 (P : Params) : Obj := (⟨.none, none, (.fields #[]), #[]⟩ : Obj)
noncomputable def o232 (P : Params) : Obj := (⟨(.type "tuple"), none, (.seq #[(.str (.ofString "width") 531)] 0), #[]⟩ : Obj)
noncomputable def o233 (P : Params) : Obj := (⟨(.type "tuple"), none, (.seq #[] 0), #[]⟩ : Obj)
noncomputable def o234 (P : Params) : Obj := withFn (st := (stAt 24)) (fun ps b sc => (⟨.none, none, (.func ⟨(.ofString "base_bounds"), (.ofString "base_bounds"), ps, (.stmts b), sc, 0, [], .none, .none, .none, .none, none, .none, .none, 0⟩), #[]⟩ : Obj)) rfl
noncomputable def o235 (P : Params) : Obj := (⟨(.type "code"), none, (.fields #[(.str (.ofString "base_bounds") 528), (.str (.ofString "base_bounds") 529), (.str (.ofString "/claim/cut.py") 530), (.int 143 0), (.int 1 0), (.int 0 0), (.int 0 0), (.int 3 0), (.ref 230), (.bool true), (.int 181 0), (.ref 231), .none, (.ref 232), (.ref 233), (.ref 234), (.int 532 0), (.int 143 0), (.str (.ofString "/claim/cut.py") 533)]), #[]⟩ : Obj)
noncomputable def o236 (P : Params) : Obj := withFn (st := (stAt 24)) (fun ps b sc => (⟨(.type "function"), none, (.func ⟨(.ofString "base_bounds"), (.ofString "base_bounds"), ps, (.stmts b), sc, 3, [], .none, .none, .none, (.str (.ofString "adacore.types") 442), none, (.ref 235), .none, 0⟩), #[]⟩ : Obj)) rfl
noncomputable def o237 (P : Params) : Obj := (⟨(.type "tuple"), none, (.seq #[] 0), #[]⟩ : Obj)
noncomputable def o238 (P : Params) : Obj := (⟨.none, none, (.fields #[]), #[]⟩ : Obj)
noncomputable def o239 (P : Params) : Obj := (⟨(.type "tuple"), none, (.seq #[(.str (.ofString "name") 538), (.str (.ofString "low") 539), (.str (.ofString "high") 540), (.str (.ofString "made") 541)] 0), #[]⟩ : Obj)
noncomputable def o240 (P : Params) : Obj := (⟨(.type "tuple"), none, (.seq #[] 0), #[]⟩ : Obj)
noncomputable def o241 (P : Params) : Obj := withFn (st := (stAt 25)) (fun ps b sc => (⟨.none, none, (.func ⟨(.ofString "int_type"), (.ofString "int_type"), ps, (.stmts b), sc, 0, [], .none, .none, .none, .none, none, .none, .none, 0⟩), #[]⟩ : Obj)) rfl
noncomputable def o242 (P : Params) : Obj := (⟨(.type "code"), none, (.fields #[(.str (.ofString "int_type") 535), (.str (.ofString "int_type") 536), (.str (.ofString "/claim/cut.py") 537), (.int 145 0), (.int 3 0), (.int 0 0), (.int 0 0), (.int 3 0), (.ref 237), (.bool true), (.int 181 0), (.ref 238), .none, (.ref 239), (.ref 240), (.ref 241), (.int 542 0), (.int 145 0), (.str (.ofString "/claim/cut.py") 543)]), #[]⟩ : Obj)
noncomputable def o243 (P : Params) : Obj := withFn (st := (stAt 25)) (fun ps b sc => (⟨(.type "function"), none, (.func ⟨(.ofString "int_type"), (.ofString "int_type"), ps, (.stmts b), sc, 3, [], .none, .none, .none, (.str (.ofString "adacore.types") 442), none, (.ref 242), .none, 0⟩), #[]⟩ : Obj)) rfl
noncomputable def o244 (P : Params) : Obj := (⟨(.type "tuple"), none, (.seq #[] 0), #[]⟩ : Obj)
noncomputable def o245 (P : Params) : Obj := (⟨.none, none, (.fields #[]), #[]⟩ : Obj)
noncomputable def o246 (P : Params) : Obj := (⟨(.type "tuple"), none, (.seq #[(.str (.ofString "name") 548), (.str (.ofString "discriminants") 549), (.str (.ofString "components") 550), (.str (.ofString "variant") 551), (.str (.ofString "made") 552)] 0), #[]⟩ : Obj)
noncomputable def o247 (P : Params) : Obj := (⟨(.type "tuple"), none, (.seq #[] 0), #[]⟩ : Obj)
noncomputable def o248 (P : Params) : Obj := withFn (st := (stAt 26)) (fun ps b sc => (⟨.none, none, (.func ⟨(.ofString "record_type"), (.ofString "record_type"), ps, (.stmts b), sc, 0, [], .none, .none, .none, .none, none, .none, .none, 0⟩), #[]⟩ : Obj)) rfl
noncomputable def o249 (P : Params) : Obj := (⟨(.type "code"), none, (.fields #[(.str (.ofString "record_type") 545), (.str (.ofString "record_type") 546), (.str (.ofString "/claim/cut.py") 547), (.int 150 0), (.int 4 0), (.int 0 0), (.int 0 0), (.int 3 0), (.ref 244), (.bool true), (.int 181 0), (.ref 245), .none, (.ref 246), (.ref 247), (.ref 248), (.int 553 0), (.int 150 0), (.str (.ofString "/claim/cut.py") 554)]), #[]⟩ : Obj)
noncomputable def o250 (P : Params) : Obj := withFn (st := (stAt 26)) (fun ps b sc => (⟨(.type "function"), none, (.func ⟨(.ofString "record_type"), (.ofString "record_type"), ps, (.stmts b), sc, 3, [], .none, .none, .none, (.str (.ofString "adacore.types") 442), none, (.ref 249), .none, 0⟩), #[]⟩ : Obj)) rfl
noncomputable def o251 (P : Params) : Obj := (⟨(.type "tuple"), none, (.seq #[] 0), #[]⟩ : Obj)
noncomputable def o252 (P : Params) : Obj := (⟨.none, none, (.fields #[]), #[]⟩ : Obj)
noncomputable def o253 (P : Params) : Obj := (⟨(.type "tuple"), none, (.seq #[(.str (.ofString "parent") 559), (.str (.ofString "name") 560), (.str (.ofString "made") 561)] 0), #[]⟩ : Obj)
noncomputable def o254 (P : Params) : Obj := (⟨(.type "tuple"), none, (.seq #[] 0), #[]⟩ : Obj)
noncomputable def o255 (P : Params) : Obj := withFn (st := (stAt 27)) (fun ps b sc => (⟨.none, none, (.func ⟨(.ofString "derived_type"), (.ofString "derived_type"), ps, (.stmts b), sc, 0, [], .none, .none, .none, .none, none, .none, .none, 0⟩), #[]⟩ : Obj)) rfl
noncomputable def o256 (P : Params) : Obj := (⟨(.type "code"), none, (.fields #[(.str (.ofString "derived_type") 556), (.str (.ofString "derived_type") 557), (.str (.ofString "/claim/cut.py") 558), (.int 157 0), (.int 2 0), (.int 0 0), (.int 0 0), (.int 3 0), (.ref 251), (.bool true), (.int 181 0), (.ref 252), .none, (.ref 253), (.ref 254), (.ref 255), (.int 562 0), (.int 157 0), (.str (.ofString "/claim/cut.py") 563)]), #[]⟩ : Obj)
noncomputable def o257 (P : Params) : Obj := withFn (st := (stAt 27)) (fun ps b sc => (⟨(.type "function"), none, (.func ⟨(.ofString "derived_type"), (.ofString "derived_type"), ps, (.stmts b), sc, 3, [], .none, .none, .none, (.str (.ofString "adacore.types") 442), none, (.ref 256), .none, 0⟩), #[]⟩ : Obj)) rfl
noncomputable def o258 (P : Params) : Obj := (⟨(.type "tuple"), none, (.seq #[] 0), #[]⟩ : Obj)
noncomputable def o259 (P : Params) : Obj := (⟨.none, none, (.fields #[]), #[]⟩ : Obj)
noncomputable def o260 (P : Params) : Obj := (⟨(.type "tuple"), none, (.seq #[(.str (.ofString "t") 568), (.str (.ofString "number") 569)] 0), #[]⟩ : Obj)
noncomputable def o261 (P : Params) : Obj := (⟨(.type "tuple"), none, (.seq #[] 0), #[]⟩ : Obj)
noncomputable def o262 (P : Params) : Obj := withFn (st := (stAt 28)) (fun ps b sc => (⟨.none, none, (.func ⟨(.ofString "numbered"), (.ofString "numbered"), ps, (.stmts b), sc, 0, [], .none, .none, .none, .none, none, .none, .none, 0⟩), #[]⟩ : Obj)) rfl
noncomputable def o263 (P : Params) : Obj := (⟨(.type "code"), none, (.fields #[(.str (.ofString "numbered") 565), (.str (.ofString "numbered") 566), (.str (.ofString "/claim/cut.py") 567), (.int 177 0), (.int 2 0), (.int 0 0), (.int 0 0), (.int 3 0), (.ref 258), (.bool true), (.int 181 0), (.ref 259), .none, (.ref 260), (.ref 261), (.ref 262), (.int 570 0), (.int 177 0), (.str (.ofString "/claim/cut.py") 571)]), #[]⟩ : Obj)
noncomputable def o264 (P : Params) : Obj := withFn (st := (stAt 28)) (fun ps b sc => (⟨(.type "function"), none, (.func ⟨(.ofString "numbered"), (.ofString "numbered"), ps, (.stmts b), sc, 3, [], .none, .none, .none, (.str (.ofString "adacore.types") 442), none, (.ref 263), .none, 0⟩), #[]⟩ : Obj)) rfl
noncomputable def o265 (P : Params) : Obj := (⟨(.type "tuple"), none, (.seq #[] 0), #[]⟩ : Obj)
noncomputable def o266 (P : Params) : Obj := (⟨.none, none, (.fields #[]), #[]⟩ : Obj)
noncomputable def o267 (P : Params) : Obj := (⟨(.type "tuple"), none, (.seq #[(.str (.ofString "t") 576)] 0), #[]⟩ : Obj)
noncomputable def o268 (P : Params) : Obj := (⟨(.type "tuple"), none, (.seq #[] 0), #[]⟩ : Obj)
noncomputable def o269 (P : Params) : Obj := withFn (st := (stAt 29)) (fun ps b sc => (⟨.none, none, (.func ⟨(.ofString "whole_subtype"), (.ofString "whole_subtype"), ps, (.stmts b), sc, 0, [], .none, .none, .none, .none, none, .none, .none, 0⟩), #[]⟩ : Obj)) rfl
noncomputable def o270 (P : Params) : Obj := (⟨(.type "code"), none, (.fields #[(.str (.ofString "whole_subtype") 573), (.str (.ofString "whole_subtype") 574), (.str (.ofString "/claim/cut.py") 575), (.int 180 0), (.int 1 0), (.int 0 0), (.int 0 0), (.int 3 0), (.ref 265), (.bool true), (.int 181 0), (.ref 266), .none, (.ref 267), (.ref 268), (.ref 269), (.int 577 0), (.int 180 0), (.str (.ofString "/claim/cut.py") 578)]), #[]⟩ : Obj)
noncomputable def o271 (P : Params) : Obj := withFn (st := (stAt 29)) (fun ps b sc => (⟨(.type "function"), none, (.func ⟨(.ofString "whole_subtype"), (.ofString "whole_subtype"), ps, (.stmts b), sc, 3, [], .none, .none, .none, (.str (.ofString "adacore.types") 442), none, (.ref 270), .none, 0⟩), #[]⟩ : Obj)) rfl
noncomputable def o272 (P : Params) : Obj := (⟨(.type "tuple"), none, (.seq #[] 0), #[]⟩ : Obj)
noncomputable def o273 (P : Params) : Obj := (⟨.none, none, (.fields #[]), #[]⟩ : Obj)
noncomputable def o274 (P : Params) : Obj := (⟨(.type "tuple"), none, (.seq #[(.str (.ofString "width") 583), (.str (.ofString "low") 584), (.str (.ofString "high") 585)] 0), #[]⟩ : Obj)
noncomputable def o275 (P : Params) : Obj := (⟨(.type "tuple"), none, (.seq #[] 0), #[]⟩ : Obj)
noncomputable def o276 (P : Params) : Obj := withFn (st := (stAt 30)) (fun ps b sc => (⟨.none, none, (.func ⟨(.ofString "integer_type"), (.ofString "integer_type"), ps, (.stmts b), sc, 0, [], .none, .none, .none, .none, none, .none, .none, 0⟩), #[]⟩ : Obj)) rfl
noncomputable def o277 (P : Params) : Obj := (⟨(.type "code"), none, (.fields #[(.str (.ofString "integer_type") 580), (.str (.ofString "integer_type") 581), (.str (.ofString "/claim/cut.py") 582), (.int 182 0), (.int 1 0), (.int 0 0), (.int 0 0), (.int 3 0), (.ref 272), (.bool true), (.int 181 0), (.ref 273), .none, (.ref 274), (.ref 275), (.ref 276), (.int 586 0), (.int 182 0), (.str (.ofString "/claim/cut.py") 587)]), #[]⟩ : Obj)
noncomputable def o278 (P : Params) : Obj := withFn (st := (stAt 30)) (fun ps b sc => (⟨(.type "function"), none, (.func ⟨(.ofString "integer_type"), (.ofString "integer_type"), ps, (.stmts b), sc, 3, [], .none, .none, .none, (.str (.ofString "adacore.types") 442), none, (.ref 277), .none, 0⟩), #[]⟩ : Obj)) rfl
noncomputable def o279 (P : Params) : Obj := (⟨(.type "tuple"), none, (.seq #[] 0), #[]⟩ : Obj)
noncomputable def o280 (P : Params) : Obj := (⟨.none, none, (.fields #[]), #[]⟩ : Obj)
noncomputable def o281 (P : Params) : Obj := (⟨(.type "tuple"), none, (.seq #[] 0), #[]⟩ : Obj)
noncomputable def o282 (P : Params) : Obj := (⟨(.type "tuple"), none, (.seq #[] 0), #[]⟩ : Obj)
noncomputable def o283 (P : Params) : Obj := withFn (st := (stAt 32)) (fun ps b sc => (⟨.none, none, (.func ⟨(.ofString "_law_pool"), (.ofString "_law_pool"), ps, (.stmts b), sc, 0, [], .none, .none, .none, .none, none, .none, .none, 0⟩), #[]⟩ : Obj)) rfl
noncomputable def o284 (P : Params) : Obj := (⟨(.type "code"), none, (.fields #[(.str (.ofString "_law_pool") 591), (.str (.ofString "_law_pool") 592), (.str (.ofString "/claim/cut.py") 593), (.int 186 0), (.int 0 0), (.int 0 0), (.int 0 0), (.int 3 0), (.ref 279), (.bool true), (.int 181 0), (.ref 280), .none, (.ref 281), (.ref 282), (.ref 283), (.int 594 0), (.int 186 0), (.str (.ofString "/claim/cut.py") 595)]), #[]⟩ : Obj)
noncomputable def o285 (P : Params) : Obj := withFn (st := (stAt 32)) (fun ps b sc => (⟨(.type "function"), none, (.func ⟨(.ofString "_law_pool"), (.ofString "_law_pool"), ps, (.stmts b), sc, 3, [], .none, .none, .none, (.str (.ofString "law_pp0004_01") 589), none, (.ref 284), .none, 0⟩), #[]⟩ : Obj)) rfl
noncomputable def o286 (P : Params) : Obj := (⟨(.type "tuple"), none, (.seq #[] 0), #[]⟩ : Obj)
noncomputable def o287 (P : Params) : Obj := (⟨.none, none, (.fields #[]), #[]⟩ : Obj)
noncomputable def o288 (P : Params) : Obj := (⟨(.type "tuple"), none, (.seq #[(.str (.ofString "knob") 600), (.str (.ofString "many") 601)] 0), #[]⟩ : Obj)
noncomputable def o289 (P : Params) : Obj := (⟨(.type "tuple"), none, (.seq #[] 0), #[]⟩ : Obj)
noncomputable def o290 (P : Params) : Obj := withFn (st := (stAt 33)) (fun ps b sc => (⟨.none, none, (.func ⟨(.ofString "_law_tell"), (.ofString "_law_tell"), ps, (.stmts b), sc, 0, [], .none, .none, .none, .none, none, .none, .none, 0⟩), #[]⟩ : Obj)) rfl
noncomputable def o291 (P : Params) : Obj := (⟨(.type "code"), none, (.fields #[(.str (.ofString "_law_tell") 597), (.str (.ofString "_law_tell") 598), (.str (.ofString "/claim/cut.py") 599), (.int 188 0), (.int 2 0), (.int 0 0), (.int 0 0), (.int 3 0), (.ref 286), (.bool true), (.int 181 0), (.ref 287), .none, (.ref 288), (.ref 289), (.ref 290), (.int 602 0), (.int 188 0), (.str (.ofString "/claim/cut.py") 603)]), #[]⟩ : Obj)
noncomputable def o292 (P : Params) : Obj := withFn (st := (stAt 33)) (fun ps b sc => (⟨(.type "function"), none, (.func ⟨(.ofString "_law_tell"), (.ofString "_law_tell"), ps, (.stmts b), sc, 3, [], .none, .none, .none, (.str (.ofString "law_pp0004_01") 589), none, (.ref 291), .none, 0⟩), #[]⟩ : Obj)) rfl
noncomputable def o293 (P : Params) : Obj := (⟨(.type "tuple"), none, (.seq #[] 0), #[]⟩ : Obj)
noncomputable def o294 (P : Params) : Obj := (⟨.none, none, (.fields #[]), #[]⟩ : Obj)
noncomputable def o295 (P : Params) : Obj := withFn (st := (stAt 34)) (fun ps b sc => (⟨.none, none, (.func ⟨(.ofString "_law_rows"), (.ofString "_law_rows"), ps, (.stmts b), sc, 0, [], .none, .none, .none, .none, none, .none, .none, 0⟩), #[]⟩ : Obj)) rfl
noncomputable def o296 (P : Params) : Obj := (⟨(.type "code"), none, (.fields #[(.str (.ofString "_law_rows") 605), (.str (.ofString "_law_rows") 606), (.str (.ofString "/claim/cut.py") 607), (.int 191 0), (.int 1 0), (.int 0 0), (.int 0 0), (.int 3 0), (.ref 293), (.bool true), (.int 181 0), (.ref 294), .none, .none, .none, (.ref 295), (.int 608 0), (.int 191 0), (.str (.ofString "/claim/cut.py") 609)]), #[]⟩ : Obj)
noncomputable def o297 (P : Params) : Obj := withFn (st := (stAt 34)) (fun ps b sc => (⟨(.type "function"), none, (.func ⟨(.ofString "_law_rows"), (.ofString "_law_rows"), ps, (.stmts b), sc, 3, [], .none, .none, .none, (.str (.ofString "law_pp0004_01") 589), none, (.ref 296), .none, 0⟩), #[]⟩ : Obj)) rfl
noncomputable def o298 (P : Params) : Obj := (⟨(.type "tuple"), none, (.seq #[] 0), #[]⟩ : Obj)
noncomputable def o299 (P : Params) : Obj := (⟨.none, none, (.fields #[]), #[]⟩ : Obj)
noncomputable def o300 (P : Params) : Obj := (⟨(.type "tuple"), none, (.seq #[(.str (.ofString "parent") 614), (.str (.ofString "name") 615), (.str (.ofString "number") 616), (.str (.ofString "names") 617), (.str (.ofString "made") 618)] 0), #[]⟩ : Obj)
noncomputable def o301 (P : Params) : Obj := (⟨(.type "tuple"), none, (.seq #[] 0), #[]⟩ : Obj)
noncomputable def o302 (P : Params) : Obj := withFn (st := (stAt 35)) (fun ps b sc => (⟨.none, none, (.func ⟨(.ofString "_law_grown"), (.ofString "_law_grown"), ps, (.stmts b), sc, 0, [], .none, .none, .none, .none, none, .none, .none, 0⟩), #[]⟩ : Obj)) rfl
noncomputable def o303 (P : Params) : Obj := (⟨(.type "code"), none, (.fields #[(.str (.ofString "_law_grown") 611), (.str (.ofString "_law_grown") 612), (.str (.ofString "/claim/cut.py") 613), (.int 193 0), (.int 4 0), (.int 0 0), (.int 0 0), (.int 3 0), (.ref 298), (.bool true), (.int 181 0), (.ref 299), .none, (.ref 300), (.ref 301), (.ref 302), (.int 619 0), (.int 193 0), (.str (.ofString "/claim/cut.py") 620)]), #[]⟩ : Obj)
noncomputable def o304 (P : Params) : Obj := withFn (st := (stAt 35)) (fun ps b sc => (⟨(.type "function"), none, (.func ⟨(.ofString "_law_grown"), (.ofString "_law_grown"), ps, (.stmts b), sc, 3, [], .none, .none, .none, (.str (.ofString "law_pp0004_01") 589), none, (.ref 303), .none, 0⟩), #[]⟩ : Obj)) rfl
noncomputable def o305 (P : Params) : Obj := (⟨(.type "tuple"), none, (.seq #[] 0), #[]⟩ : Obj)
noncomputable def o306 (P : Params) : Obj := (⟨.none, none, (.fields #[]), #[]⟩ : Obj)
noncomputable def o307 (P : Params) : Obj := (⟨(.type "tuple"), none, (.seq #[(.str (.ofString "knob") 625), (.str (.ofString "number") 626)] 0), #[]⟩ : Obj)
noncomputable def o308 (P : Params) : Obj := (⟨(.type "tuple"), none, (.seq #[] 0), #[]⟩ : Obj)
noncomputable def o309 (P : Params) : Obj := withFn (st := (stAt 36)) (fun ps b sc => (⟨.none, none, (.func ⟨(.ofString "_law_worth"), (.ofString "_law_worth"), ps, (.stmts b), sc, 0, [], .none, .none, .none, .none, none, .none, .none, 0⟩), #[]⟩ : Obj)) rfl
noncomputable def o310 (P : Params) : Obj := (⟨(.type "code"), none, (.fields #[(.str (.ofString "_law_worth") 622), (.str (.ofString "_law_worth") 623), (.str (.ofString "/claim/cut.py") 624), (.int 197 0), (.int 1 0), (.int 0 0), (.int 0 0), (.int 3 0), (.ref 305), (.bool true), (.int 181 0), (.ref 306), .none, (.ref 307), (.ref 308), (.ref 309), (.int 627 0), (.int 197 0), (.str (.ofString "/claim/cut.py") 628)]), #[]⟩ : Obj)
noncomputable def o311 (P : Params) : Obj := withFn (st := (stAt 36)) (fun ps b sc => (⟨(.type "function"), none, (.func ⟨(.ofString "_law_worth"), (.ofString "_law_worth"), ps, (.stmts b), sc, 3, [], .none, .none, .none, (.str (.ofString "law_pp0004_01") 589), none, (.ref 310), .none, 0⟩), #[]⟩ : Obj)) rfl
noncomputable def o312 (P : Params) : Obj := (⟨(.type "tuple"), none, (.seq #[] 0), #[]⟩ : Obj)
noncomputable def o313 (P : Params) : Obj := (⟨.none, none, (.fields #[]), #[]⟩ : Obj)
noncomputable def o314 (P : Params) : Obj := (⟨(.type "tuple"), none, (.seq #[(.str (.ofString "fields") 633), (.str (.ofString "found") 634), (.str (.ofString "name") 635), (.str (.ofString "value") 636)] 0), #[]⟩ : Obj)
noncomputable def o315 (P : Params) : Obj := (⟨(.type "tuple"), none, (.seq #[] 0), #[]⟩ : Obj)
noncomputable def o316 (P : Params) : Obj := withFn (st := (stAt 37)) (fun ps b sc => (⟨.none, none, (.func ⟨(.ofString "_law_flat"), (.ofString "_law_flat"), ps, (.stmts b), sc, 0, [], .none, .none, .none, .none, none, .none, .none, 0⟩), #[]⟩ : Obj)) rfl
noncomputable def o317 (P : Params) : Obj := (⟨(.type "code"), none, (.fields #[(.str (.ofString "_law_flat") 630), (.str (.ofString "_law_flat") 631), (.str (.ofString "/claim/cut.py") 632), (.int 200 0), (.int 1 0), (.int 0 0), (.int 0 0), (.int 3 0), (.ref 312), (.bool true), (.int 181 0), (.ref 313), .none, (.ref 314), (.ref 315), (.ref 316), (.int 637 0), (.int 200 0), (.str (.ofString "/claim/cut.py") 638)]), #[]⟩ : Obj)
noncomputable def o318 (P : Params) : Obj := withFn (st := (stAt 37)) (fun ps b sc => (⟨(.type "function"), none, (.func ⟨(.ofString "_law_flat"), (.ofString "_law_flat"), ps, (.stmts b), sc, 3, [], .none, .none, .none, (.str (.ofString "law_pp0004_01") 589), none, (.ref 317), .none, 0⟩), #[]⟩ : Obj)) rfl
noncomputable def o319 (P : Params) : Obj := (⟨(.type "tuple"), none, (.seq #[] 0), #[]⟩ : Obj)
noncomputable def o320 (P : Params) : Obj := (⟨.none, none, (.fields #[]), #[]⟩ : Obj)
noncomputable def o321 (P : Params) : Obj := withFn (st := (stAt 38)) (fun ps b sc => (⟨.none, none, (.func ⟨(.ofString "law"), (.ofString "law"), ps, (.stmts b), sc, 0, [], .none, .none, .none, .none, none, .none, .none, 0⟩), #[]⟩ : Obj)) rfl
noncomputable def o322 (P : Params) : Obj := (⟨(.type "code"), none, (.fields #[(.str (.ofString "law") 640), (.str (.ofString "law") 641), (.str (.ofString "/claim/cut.py") 642), (.int 206 0), (.int 1 0), (.int 0 0), (.int 0 0), (.int 3 0), (.ref 319), (.bool true), (.int 181 0), (.ref 320), .none, .none, .none, (.ref 321), (.int 643 0), (.int 206 0), (.str (.ofString "/claim/cut.py") 644)]), #[]⟩ : Obj)
noncomputable def o323 (P : Params) : Obj := withFn (st := (stAt 38)) (fun ps b sc => (⟨(.type "function"), none, (.func ⟨(.ofString "law"), (.ofString "law"), ps, (.stmts b), sc, 3, [], .none, .none, .none, (.str (.ofString "law_pp0004_01") 589), none, (.ref 322), .none, 0⟩), #[]⟩ : Obj)) rfl
noncomputable def o12a (P : Params) : Obj := (⟨.none, none, (.fields #[]), #[]⟩ : Obj)
noncomputable def o3b (P : Params) : Obj := (⟨(.type "dict"), none, (.dict #[⟨(PyData.keyHash P (.ofString "__name__")), (.str (.ofString "__name__") 165), (.str (.ofString "adacore.values") 258)⟩, ⟨(PyData.keyHash P (.ofString "__doc__")), (.str (.ofString "__doc__") 166), .none⟩, ⟨(PyData.keyHash P (.ofString "__package__")), (.str (.ofString "__package__") 167), .none⟩, ⟨(PyData.keyHash P (.ofString "__loader__")), (.str (.ofString "__loader__") 168), (.builtin "__main__.__loader__#opaque")⟩, ⟨(PyData.keyHash P (.ofString "__spec__")), (.str (.ofString "__spec__") 169), .none⟩, ⟨(PyData.keyHash P (.ofString "__annotations__")), (.str (.ofString "__annotations__") 170), (.ref 6)⟩, ⟨(PyData.keyHash P (.ofString "__builtins__")), (.str (.ofString "__builtins__") 171), (.ref 4)⟩, ⟨(PyData.keyHash P (.ofString "__file__")), (.str (.ofString "__file__") 173), (.str (.ofString "/claim/cut.py") 172)⟩, ⟨(PyData.keyHash P (.ofString "__cached__")), (.str (.ofString "__cached__") 174), .none⟩, ⟨(PyData.keyHash P (.ofString "AdaError")), (.str (.ofString "AdaError") 217), (.ref 31)⟩, ⟨(PyData.keyHash P (.ofString "AdaRaise")), (.str (.ofString "AdaRaise") 246), (.ref 51)⟩, ⟨(PyData.keyHash P (.ofString "OTHERS")), (.str (.ofString "OTHERS") 250), (.str (.ofString "others") 249)⟩, ⟨(PyData.keyHash P (.ofString "raise_constraint")), (.str (.ofString "raise_constraint") 257), (.ref 60)⟩, ⟨(PyData.keyHash P (.ofString "Unset")), (.str (.ofString "Unset") 287), (.ref 77)⟩] 14), #[]⟩ : Obj)
noncomputable def o12b (P : Params) : Obj := (⟨.none, none, (.fields #[(.int 2 0), (.int 0 0), (.ref 20), (.int 7 0), (.int 0 0), (.ref 40), (.int 16 0), (.int 0 0), (.ref 59), (.int 19 0), (.int 0 0), (.ref 66)]), #[]⟩ : Obj)
noncomputable def o3c (P : Params) : Obj := (⟨(.type "dict"), none, (.dict #[⟨(PyData.keyHash P (.ofString "__name__")), (.str (.ofString "__name__") 165), (.str (.ofString "adacore.types") 442)⟩, ⟨(PyData.keyHash P (.ofString "__doc__")), (.str (.ofString "__doc__") 166), .none⟩, ⟨(PyData.keyHash P (.ofString "__package__")), (.str (.ofString "__package__") 167), .none⟩, ⟨(PyData.keyHash P (.ofString "__loader__")), (.str (.ofString "__loader__") 168), (.builtin "__main__.__loader__#opaque")⟩, ⟨(PyData.keyHash P (.ofString "__spec__")), (.str (.ofString "__spec__") 169), .none⟩, ⟨(PyData.keyHash P (.ofString "__annotations__")), (.str (.ofString "__annotations__") 170), (.ref 6)⟩, ⟨(PyData.keyHash P (.ofString "__builtins__")), (.str (.ofString "__builtins__") 171), (.ref 4)⟩, ⟨(PyData.keyHash P (.ofString "__file__")), (.str (.ofString "__file__") 173), (.str (.ofString "/claim/cut.py") 172)⟩, ⟨(PyData.keyHash P (.ofString "__cached__")), (.str (.ofString "__cached__") 174), .none⟩, ⟨(PyData.keyHash P (.ofString "AdaError")), (.str (.ofString "AdaError") 217), (.ref 31)⟩, ⟨(PyData.keyHash P (.ofString "AdaRaise")), (.str (.ofString "AdaRaise") 246), (.ref 51)⟩, ⟨(PyData.keyHash P (.ofString "OTHERS")), (.str (.ofString "OTHERS") 250), (.str (.ofString "others") 249)⟩, ⟨(PyData.keyHash P (.ofString "raise_constraint")), (.str (.ofString "raise_constraint") 257), (.ref 60)⟩, ⟨(PyData.keyHash P (.ofString "Unset")), (.str (.ofString "Unset") 287), (.ref 77)⟩, ⟨(PyData.keyHash P (.ofString "ArrayValue")), (.str (.ofString "ArrayValue") 318), (.ref 98)⟩, ⟨(PyData.keyHash P (.ofString "RecordValue")), (.str (.ofString "RecordValue") 349), (.ref 119)⟩, ⟨(PyData.keyHash P (.ofString "need_set")), (.str (.ofString "need_set") 356), (.ref 130)⟩, ⟨(PyData.keyHash P (.ofString "copy_value")), (.str (.ofString "copy_value") 362), (.ref 135)⟩, ⟨(PyData.keyHash P (.ofString "covers_choice")), (.str (.ofString "covers_choice") 374), (.ref 142)⟩, ⟨(PyData.keyHash P (.ofString "chosen_alternative")), (.str (.ofString "chosen_alternative") 384), (.ref 149)⟩, ⟨(PyData.keyHash P (.ofString "variant_parts")), (.str (.ofString "variant_parts") 395), (.ref 156)⟩, ⟨(PyData.keyHash P (.ofString "present_parts")), (.str (.ofString "present_parts") 404), (.ref 163)⟩, ⟨(PyData.keyHash P (.ofString "variant_names")), (.str (.ofString "variant_names") 410), (.ref 168)⟩, ⟨(PyData.keyHash P (.ofString "part_names")), (.str (.ofString "part_names") 416), (.ref 173)⟩, ⟨(PyData.keyHash P (.ofString "aggregate_record")), (.str (.ofString "aggregate_record") 429), (.ref 180)⟩, ⟨(PyData.keyHash P (.ofString "extended_record")), (.str (.ofString "extended_record") 441), (.ref 187)⟩] 26), #[]⟩ : Obj)
noncomputable def o12c (P : Params) : Obj := (⟨.none, none, (.fields #[(.int 2 0), (.int 0 0), (.ref 20), (.int 7 0), (.int 0 0), (.ref 40), (.int 16 0), (.int 0 0), (.ref 59), (.int 19 0), (.int 0 0), (.ref 66), (.int 23 0), (.int 0 0), (.ref 87), (.int 28 0), (.int 0 0), (.ref 108), (.int 33 0), (.int 0 0), (.ref 129), (.int 37 0), (.int 0 0), (.ref 134), (.int 47 0), (.int 0 0), (.ref 141), (.int 54 0), (.int 0 0), (.ref 148), (.int 60 0), (.int 0 0), (.ref 155), (.int 68 0), (.int 0 0), (.ref 162), (.int 73 0), (.int 0 0), (.ref 167), (.int 84 0), (.int 0 0), (.ref 172), (.int 87 0), (.int 0 0), (.ref 179), (.int 101 0), (.int 0 0), (.ref 186)]), #[]⟩ : Obj)
noncomputable def tree_a (P : Params) : BT := (.node (PySem.W.boot_o_0 P) (.node (PySem.W.boot_o_1 P) (.node (PySem.W.boot_o_3 P) (.node (PySem.W.boot_o_7 P) .nil .nil) (.node (o11 P) .nil .nil)) (.node (PySem.W.boot_o_5 P) (.node (PySem.W.boot_o_9 P) .nil .nil) (.node (o13 P) .nil .nil))) (.node (PySem.W.boot_o_2 P) (.node (PySem.W.boot_o_4 P) (.node (PySem.W.boot_o_8 P) .nil .nil) (.node (o12a P) .nil .nil)) (.node (PySem.W.boot_o_6 P) (.node (PySem.W.boot_o_10 P) .nil .nil) (.node (o14 P) .nil .nil))))
noncomputable def tree_b (P : Params) : BT := (.node (PySem.W.boot_o_0 P) (.node (PySem.W.boot_o_1 P) (.node (o3b P) (.node (PySem.W.boot_o_7 P) (.node (o15 P) (.node (o31 P) (.node (o63 P) .nil .nil) .nil) (.node (o47 P) (.node (o79 P) .nil .nil) .nil)) (.node (o23 P) (.node (o39 P) (.node (o71 P) .nil .nil) .nil) (.node (o55 P) .nil .nil))) (.node (o11 P) (.node (o19 P) (.node (o35 P) (.node (o67 P) .nil .nil) .nil) (.node (o51 P) .nil .nil)) (.node (o27 P) (.node (o43 P) (.node (o75 P) .nil .nil) .nil) (.node (o59 P) .nil .nil)))) (.node (PySem.W.boot_o_5 P) (.node (PySem.W.boot_o_9 P) (.node (o17 P) (.node (o33 P) (.node (o65 P) .nil .nil) .nil) (.node (o49 P) (.node (o81 P) .nil .nil) .nil)) (.node (o25 P) (.node (o41 P) (.node (o73 P) .nil .nil) .nil) (.node (o57 P) .nil .nil))) (.node (o13 P) (.node (o21 P) (.node (o37 P) (.node (o69 P) .nil .nil) .nil) (.node (o53 P) .nil .nil)) (.node (o29 P) (.node (o45 P) (.node (o77 P) .nil .nil) .nil) (.node (o61 P) .nil .nil))))) (.node (o2 P) (.node (PySem.W.boot_o_4 P) (.node (PySem.W.boot_o_8 P) (.node (o16 P) (.node (o32 P) (.node (o64 P) .nil .nil) .nil) (.node (o48 P) (.node (o80 P) .nil .nil) .nil)) (.node (o24 P) (.node (o40 P) (.node (o72 P) .nil .nil) .nil) (.node (o56 P) .nil .nil))) (.node (o12b P) (.node (o20 P) (.node (o36 P) (.node (o68 P) .nil .nil) .nil) (.node (o52 P) .nil .nil)) (.node (o28 P) (.node (o44 P) (.node (o76 P) .nil .nil) .nil) (.node (o60 P) .nil .nil)))) (.node (PySem.W.boot_o_6 P) (.node (PySem.W.boot_o_10 P) (.node (o18 P) (.node (o34 P) (.node (o66 P) .nil .nil) .nil) (.node (o50 P) .nil .nil)) (.node (o26 P) (.node (o42 P) (.node (o74 P) .nil .nil) .nil) (.node (o58 P) .nil .nil))) (.node (o14 P) (.node (o22 P) (.node (o38 P) (.node (o70 P) .nil .nil) .nil) (.node (o54 P) .nil .nil)) (.node (o30 P) (.node (o46 P) (.node (o78 P) .nil .nil) .nil) (.node (o62 P) .nil .nil))))))
noncomputable def tree_c (P : Params) : BT := (.node (PySem.W.boot_o_0 P) (.node (PySem.W.boot_o_1 P) (.node (o3c P) (.node (PySem.W.boot_o_7 P) (.node (o15 P) (.node (o31 P) (.node (o63 P) (.node (o127 P) .nil .nil) .nil) (.node (o95 P) (.node (o159 P) .nil .nil) .nil)) (.node (o47 P) (.node (o79 P) (.node (o143 P) .nil .nil) .nil) (.node (o111 P) (.node (o175 P) .nil .nil) .nil))) (.node (o23 P) (.node (o39 P) (.node (o71 P) (.node (o135 P) .nil .nil) .nil) (.node (o103 P) (.node (o167 P) .nil .nil) .nil)) (.node (o55 P) (.node (o87 P) (.node (o151 P) .nil .nil) .nil) (.node (o119 P) (.node (o183 P) .nil .nil) .nil)))) (.node (o11 P) (.node (o19 P) (.node (o35 P) (.node (o67 P) (.node (o131 P) .nil .nil) .nil) (.node (o99 P) (.node (o163 P) .nil .nil) .nil)) (.node (o51 P) (.node (o83 P) (.node (o147 P) .nil .nil) .nil) (.node (o115 P) (.node (o179 P) .nil .nil) .nil))) (.node (o27 P) (.node (o43 P) (.node (o75 P) (.node (o139 P) .nil .nil) .nil) (.node (o107 P) (.node (o171 P) .nil .nil) .nil)) (.node (o59 P) (.node (o91 P) (.node (o155 P) .nil .nil) .nil) (.node (o123 P) (.node (o187 P) .nil .nil) .nil))))) (.node (PySem.W.boot_o_5 P) (.node (PySem.W.boot_o_9 P) (.node (o17 P) (.node (o33 P) (.node (o65 P) (.node (o129 P) .nil .nil) .nil) (.node (o97 P) (.node (o161 P) .nil .nil) .nil)) (.node (o49 P) (.node (o81 P) (.node (o145 P) .nil .nil) .nil) (.node (o113 P) (.node (o177 P) .nil .nil) .nil))) (.node (o25 P) (.node (o41 P) (.node (o73 P) (.node (o137 P) .nil .nil) .nil) (.node (o105 P) (.node (o169 P) .nil .nil) .nil)) (.node (o57 P) (.node (o89 P) (.node (o153 P) .nil .nil) .nil) (.node (o121 P) (.node (o185 P) .nil .nil) .nil)))) (.node (o13 P) (.node (o21 P) (.node (o37 P) (.node (o69 P) (.node (o133 P) .nil .nil) .nil) (.node (o101 P) (.node (o165 P) .nil .nil) .nil)) (.node (o53 P) (.node (o85 P) (.node (o149 P) .nil .nil) .nil) (.node (o117 P) (.node (o181 P) .nil .nil) .nil))) (.node (o29 P) (.node (o45 P) (.node (o77 P) (.node (o141 P) .nil .nil) .nil) (.node (o109 P) (.node (o173 P) .nil .nil) .nil)) (.node (o61 P) (.node (o93 P) (.node (o157 P) .nil .nil) .nil) (.node (o125 P) .nil .nil)))))) (.node (o2 P) (.node (PySem.W.boot_o_4 P) (.node (PySem.W.boot_o_8 P) (.node (o16 P) (.node (o32 P) (.node (o64 P) (.node (o128 P) .nil .nil) .nil) (.node (o96 P) (.node (o160 P) .nil .nil) .nil)) (.node (o48 P) (.node (o80 P) (.node (o144 P) .nil .nil) .nil) (.node (o112 P) (.node (o176 P) .nil .nil) .nil))) (.node (o24 P) (.node (o40 P) (.node (o72 P) (.node (o136 P) .nil .nil) .nil) (.node (o104 P) (.node (o168 P) .nil .nil) .nil)) (.node (o56 P) (.node (o88 P) (.node (o152 P) .nil .nil) .nil) (.node (o120 P) (.node (o184 P) .nil .nil) .nil)))) (.node (o12c P) (.node (o20 P) (.node (o36 P) (.node (o68 P) (.node (o132 P) .nil .nil) .nil) (.node (o100 P) (.node (o164 P) .nil .nil) .nil)) (.node (o52 P) (.node (o84 P) (.node (o148 P) .nil .nil) .nil) (.node (o116 P) (.node (o180 P) .nil .nil) .nil))) (.node (o28 P) (.node (o44 P) (.node (o76 P) (.node (o140 P) .nil .nil) .nil) (.node (o108 P) (.node (o172 P) .nil .nil) .nil)) (.node (o60 P) (.node (o92 P) (.node (o156 P) .nil .nil) .nil) (.node (o124 P) .nil .nil))))) (.node (PySem.W.boot_o_6 P) (.node (PySem.W.boot_o_10 P) (.node (o18 P) (.node (o34 P) (.node (o66 P) (.node (o130 P) .nil .nil) .nil) (.node (o98 P) (.node (o162 P) .nil .nil) .nil)) (.node (o50 P) (.node (o82 P) (.node (o146 P) .nil .nil) .nil) (.node (o114 P) (.node (o178 P) .nil .nil) .nil))) (.node (o26 P) (.node (o42 P) (.node (o74 P) (.node (o138 P) .nil .nil) .nil) (.node (o106 P) (.node (o170 P) .nil .nil) .nil)) (.node (o58 P) (.node (o90 P) (.node (o154 P) .nil .nil) .nil) (.node (o122 P) (.node (o186 P) .nil .nil) .nil)))) (.node (o14 P) (.node (o22 P) (.node (o38 P) (.node (o70 P) (.node (o134 P) .nil .nil) .nil) (.node (o102 P) (.node (o166 P) .nil .nil) .nil)) (.node (o54 P) (.node (o86 P) (.node (o150 P) .nil .nil) .nil) (.node (o118 P) (.node (o182 P) .nil .nil) .nil))) (.node (o30 P) (.node (o46 P) (.node (o78 P) (.node (o142 P) .nil .nil) .nil) (.node (o110 P) (.node (o174 P) .nil .nil) .nil)) (.node (o62 P) (.node (o94 P) (.node (o158 P) .nil .nil) .nil) (.node (o126 P) .nil .nil)))))))
noncomputable def tree_d (P : Params) : BT := (.node (PySem.W.boot_o_0 P) (.node (PySem.W.boot_o_1 P) (.node (o3 P) (.node (PySem.W.boot_o_7 P) (.node (o15 P) (.node (o31 P) (.node (o63 P) (.node (o127 P) (.node (o255 P) .nil .nil) .nil) (.node (o191 P) (.node (o319 P) .nil .nil) .nil)) (.node (o95 P) (.node (o159 P) (.node (o287 P) .nil .nil) .nil) (.node (o223 P) .nil .nil))) (.node (o47 P) (.node (o79 P) (.node (o143 P) (.node (o271 P) .nil .nil) .nil) (.node (o207 P) .nil .nil)) (.node (o111 P) (.node (o175 P) (.node (o303 P) .nil .nil) .nil) (.node (o239 P) .nil .nil)))) (.node (o23 P) (.node (o39 P) (.node (o71 P) (.node (o135 P) (.node (o263 P) .nil .nil) .nil) (.node (o199 P) .nil .nil)) (.node (o103 P) (.node (o167 P) (.node (o295 P) .nil .nil) .nil) (.node (o231 P) .nil .nil))) (.node (o55 P) (.node (o87 P) (.node (o151 P) (.node (o279 P) .nil .nil) .nil) (.node (o215 P) .nil .nil)) (.node (o119 P) (.node (o183 P) (.node (o311 P) .nil .nil) .nil) (.node (o247 P) .nil .nil))))) (.node (o11 P) (.node (o19 P) (.node (o35 P) (.node (o67 P) (.node (o131 P) (.node (o259 P) .nil .nil) .nil) (.node (o195 P) (.node (o323 P) .nil .nil) .nil)) (.node (o99 P) (.node (o163 P) (.node (o291 P) .nil .nil) .nil) (.node (o227 P) .nil .nil))) (.node (o51 P) (.node (o83 P) (.node (o147 P) (.node (o275 P) .nil .nil) .nil) (.node (o211 P) .nil .nil)) (.node (o115 P) (.node (o179 P) (.node (o307 P) .nil .nil) .nil) (.node (o243 P) .nil .nil)))) (.node (o27 P) (.node (o43 P) (.node (o75 P) (.node (o139 P) (.node (o267 P) .nil .nil) .nil) (.node (o203 P) .nil .nil)) (.node (o107 P) (.node (o171 P) (.node (o299 P) .nil .nil) .nil) (.node (o235 P) .nil .nil))) (.node (o59 P) (.node (o91 P) (.node (o155 P) (.node (o283 P) .nil .nil) .nil) (.node (o219 P) .nil .nil)) (.node (o123 P) (.node (o187 P) (.node (o315 P) .nil .nil) .nil) (.node (o251 P) .nil .nil)))))) (.node (PySem.W.boot_o_5 P) (.node (PySem.W.boot_o_9 P) (.node (o17 P) (.node (o33 P) (.node (o65 P) (.node (o129 P) (.node (o257 P) .nil .nil) .nil) (.node (o193 P) (.node (o321 P) .nil .nil) .nil)) (.node (o97 P) (.node (o161 P) (.node (o289 P) .nil .nil) .nil) (.node (o225 P) .nil .nil))) (.node (o49 P) (.node (o81 P) (.node (o145 P) (.node (o273 P) .nil .nil) .nil) (.node (o209 P) .nil .nil)) (.node (o113 P) (.node (o177 P) (.node (o305 P) .nil .nil) .nil) (.node (o241 P) .nil .nil)))) (.node (o25 P) (.node (o41 P) (.node (o73 P) (.node (o137 P) (.node (o265 P) .nil .nil) .nil) (.node (o201 P) .nil .nil)) (.node (o105 P) (.node (o169 P) (.node (o297 P) .nil .nil) .nil) (.node (o233 P) .nil .nil))) (.node (o57 P) (.node (o89 P) (.node (o153 P) (.node (o281 P) .nil .nil) .nil) (.node (o217 P) .nil .nil)) (.node (o121 P) (.node (o185 P) (.node (o313 P) .nil .nil) .nil) (.node (o249 P) .nil .nil))))) (.node (o13 P) (.node (o21 P) (.node (o37 P) (.node (o69 P) (.node (o133 P) (.node (o261 P) .nil .nil) .nil) (.node (o197 P) .nil .nil)) (.node (o101 P) (.node (o165 P) (.node (o293 P) .nil .nil) .nil) (.node (o229 P) .nil .nil))) (.node (o53 P) (.node (o85 P) (.node (o149 P) (.node (o277 P) .nil .nil) .nil) (.node (o213 P) .nil .nil)) (.node (o117 P) (.node (o181 P) (.node (o309 P) .nil .nil) .nil) (.node (o245 P) .nil .nil)))) (.node (o29 P) (.node (o45 P) (.node (o77 P) (.node (o141 P) (.node (o269 P) .nil .nil) .nil) (.node (o205 P) .nil .nil)) (.node (o109 P) (.node (o173 P) (.node (o301 P) .nil .nil) .nil) (.node (o237 P) .nil .nil))) (.node (o61 P) (.node (o93 P) (.node (o157 P) (.node (o285 P) .nil .nil) .nil) (.node (o221 P) .nil .nil)) (.node (o125 P) (.node (o189 P) (.node (o317 P) .nil .nil) .nil) (.node (o253 P) .nil .nil))))))) (.node (o2 P) (.node (PySem.W.boot_o_4 P) (.node (PySem.W.boot_o_8 P) (.node (o16 P) (.node (o32 P) (.node (o64 P) (.node (o128 P) (.node (o256 P) .nil .nil) .nil) (.node (o192 P) (.node (o320 P) .nil .nil) .nil)) (.node (o96 P) (.node (o160 P) (.node (o288 P) .nil .nil) .nil) (.node (o224 P) .nil .nil))) (.node (o48 P) (.node (o80 P) (.node (o144 P) (.node (o272 P) .nil .nil) .nil) (.node (o208 P) .nil .nil)) (.node (o112 P) (.node (o176 P) (.node (o304 P) .nil .nil) .nil) (.node (o240 P) .nil .nil)))) (.node (o24 P) (.node (o40 P) (.node (o72 P) (.node (o136 P) (.node (o264 P) .nil .nil) .nil) (.node (o200 P) .nil .nil)) (.node (o104 P) (.node (o168 P) (.node (o296 P) .nil .nil) .nil) (.node (o232 P) .nil .nil))) (.node (o56 P) (.node (o88 P) (.node (o152 P) (.node (o280 P) .nil .nil) .nil) (.node (o216 P) .nil .nil)) (.node (o120 P) (.node (o184 P) (.node (o312 P) .nil .nil) .nil) (.node (o248 P) .nil .nil))))) (.node (o12 P) (.node (o20 P) (.node (o36 P) (.node (o68 P) (.node (o132 P) (.node (o260 P) .nil .nil) .nil) (.node (o196 P) .nil .nil)) (.node (o100 P) (.node (o164 P) (.node (o292 P) .nil .nil) .nil) (.node (o228 P) .nil .nil))) (.node (o52 P) (.node (o84 P) (.node (o148 P) (.node (o276 P) .nil .nil) .nil) (.node (o212 P) .nil .nil)) (.node (o116 P) (.node (o180 P) (.node (o308 P) .nil .nil) .nil) (.node (o244 P) .nil .nil)))) (.node (o28 P) (.node (o44 P) (.node (o76 P) (.node (o140 P) (.node (o268 P) .nil .nil) .nil) (.node (o204 P) .nil .nil)) (.node (o108 P) (.node (o172 P) (.node (o300 P) .nil .nil) .nil) (.node (o236 P) .nil .nil))) (.node (o60 P) (.node (o92 P) (.node (o156 P) (.node (o284 P) .nil .nil) .nil) (.node (o220 P) .nil .nil)) (.node (o124 P) (.node (o188 P) (.node (o316 P) .nil .nil) .nil) (.node (o252 P) .nil .nil)))))) (.node (PySem.W.boot_o_6 P) (.node (PySem.W.boot_o_10 P) (.node (o18 P) (.node (o34 P) (.node (o66 P) (.node (o130 P) (.node (o258 P) .nil .nil) .nil) (.node (o194 P) (.node (o322 P) .nil .nil) .nil)) (.node (o98 P) (.node (o162 P) (.node (o290 P) .nil .nil) .nil) (.node (o226 P) .nil .nil))) (.node (o50 P) (.node (o82 P) (.node (o146 P) (.node (o274 P) .nil .nil) .nil) (.node (o210 P) .nil .nil)) (.node (o114 P) (.node (o178 P) (.node (o306 P) .nil .nil) .nil) (.node (o242 P) .nil .nil)))) (.node (o26 P) (.node (o42 P) (.node (o74 P) (.node (o138 P) (.node (o266 P) .nil .nil) .nil) (.node (o202 P) .nil .nil)) (.node (o106 P) (.node (o170 P) (.node (o298 P) .nil .nil) .nil) (.node (o234 P) .nil .nil))) (.node (o58 P) (.node (o90 P) (.node (o154 P) (.node (o282 P) .nil .nil) .nil) (.node (o218 P) .nil .nil)) (.node (o122 P) (.node (o186 P) (.node (o314 P) .nil .nil) .nil) (.node (o250 P) .nil .nil))))) (.node (o14 P) (.node (o22 P) (.node (o38 P) (.node (o70 P) (.node (o134 P) (.node (o262 P) .nil .nil) .nil) (.node (o198 P) .nil .nil)) (.node (o102 P) (.node (o166 P) (.node (o294 P) .nil .nil) .nil) (.node (o230 P) .nil .nil))) (.node (o54 P) (.node (o86 P) (.node (o150 P) (.node (o278 P) .nil .nil) .nil) (.node (o214 P) .nil .nil)) (.node (o118 P) (.node (o182 P) (.node (o310 P) .nil .nil) .nil) (.node (o246 P) .nil .nil)))) (.node (o30 P) (.node (o46 P) (.node (o78 P) (.node (o142 P) (.node (o270 P) .nil .nil) .nil) (.node (o206 P) .nil .nil)) (.node (o110 P) (.node (o174 P) (.node (o302 P) .nil .nil) .nil) (.node (o238 P) .nil .nil))) (.node (o62 P) (.node (o94 P) (.node (o158 P) (.node (o286 P) .nil .nil) .nil) (.node (o222 P) .nil .nil)) (.node (o126 P) (.node (o190 P) (.node (o318 P) .nil .nil) .nil) (.node (o254 P) .nil .nil))))))))
noncomputable def fin (P : Params) : Heap := ⟨#[PySem.W.boot_o_0 P, PySem.W.boot_o_1 P, o2 P, o3 P, PySem.W.boot_o_4 P, PySem.W.boot_o_5 P, PySem.W.boot_o_6 P, PySem.W.boot_o_7 P, PySem.W.boot_o_8 P, PySem.W.boot_o_9 P, PySem.W.boot_o_10 P, o11 P, o12 P, o13 P, o14 P, o15 P, o16 P, o17 P, o18 P, o19 P, o20 P, o21 P, o22 P, o23 P, o24 P, o25 P, o26 P, o27 P, o28 P, o29 P, o30 P, o31 P, o32 P, o33 P, o34 P, o35 P, o36 P, o37 P, o38 P, o39 P, o40 P, o41 P, o42 P, o43 P, o44 P, o45 P, o46 P, o47 P, o48 P, o49 P, o50 P, o51 P, o52 P, o53 P, o54 P, o55 P, o56 P, o57 P, o58 P, o59 P, o60 P, o61 P, o62 P, o63 P, o64 P, o65 P, o66 P, o67 P, o68 P, o69 P, o70 P, o71 P, o72 P, o73 P, o74 P, o75 P, o76 P, o77 P, o78 P, o79 P, o80 P, o81 P, o82 P, o83 P, o84 P, o85 P, o86 P, o87 P, o88 P, o89 P, o90 P, o91 P, o92 P, o93 P, o94 P, o95 P, o96 P, o97 P, o98 P, o99 P, o100 P, o101 P, o102 P, o103 P, o104 P, o105 P, o106 P, o107 P, o108 P, o109 P, o110 P, o111 P, o112 P, o113 P, o114 P, o115 P, o116 P, o117 P, o118 P, o119 P, o120 P, o121 P, o122 P, o123 P, o124 P, o125 P, o126 P, o127 P, o128 P, o129 P, o130 P, o131 P, o132 P, o133 P, o134 P, o135 P, o136 P, o137 P, o138 P, o139 P, o140 P, o141 P, o142 P, o143 P, o144 P, o145 P, o146 P, o147 P, o148 P, o149 P, o150 P, o151 P, o152 P, o153 P, o154 P, o155 P, o156 P, o157 P, o158 P, o159 P, o160 P, o161 P, o162 P, o163 P, o164 P, o165 P, o166 P, o167 P, o168 P, o169 P, o170 P, o171 P, o172 P, o173 P, o174 P, o175 P, o176 P, o177 P, o178 P, o179 P, o180 P, o181 P, o182 P, o183 P, o184 P, o185 P, o186 P, o187 P, o188 P, o189 P, o190 P, o191 P, o192 P, o193 P, o194 P, o195 P, o196 P, o197 P, o198 P, o199 P, o200 P, o201 P, o202 P, o203 P, o204 P, o205 P, o206 P, o207 P, o208 P, o209 P, o210 P, o211 P, o212 P, o213 P, o214 P, o215 P, o216 P, o217 P, o218 P, o219 P, o220 P, o221 P, o222 P, o223 P, o224 P, o225 P, o226 P, o227 P, o228 P, o229 P, o230 P, o231 P, o232 P, o233 P, o234 P, o235 P, o236 P, o237 P, o238 P, o239 P, o240 P, o241 P, o242 P, o243 P, o244 P, o245 P, o246 P, o247 P, o248 P, o249 P, o250 P, o251 P, o252 P, o253 P, o254 P, o255 P, o256 P, o257 P, o258 P, o259 P, o260 P, o261 P, o262 P, o263 P, o264 P, o265 P, o266 P, o267 P, o268 P, o269 P, o270 P, o271 P, o272 P, o273 P, o274 P, o275 P, o276 P, o277 P, o278 P, o279 P, o280 P, o281 P, o282 P, o283 P, o284 P, o285 P, o286 P, o287 P, o288 P, o289 P, o290 P, o291 P, o292 P, o293 P, o294 P, o295 P, o296 P, o297 P, o298 P, o299 P, o300 P, o301 P, o302 P, o303 P, o304 P, o305 P, o306 P, o307 P, o308 P, o309 P, o310 P, o311 P, o312 P, o313 P, o314 P, o315 P, o316 P, o317 P, o318 P, o319 P, o320 P, o321 P, o322 P, o323 P], {}⟩
noncomputable def ini (P : Params) : Heap := ⟨#[PySem.W.boot_o_0 P, PySem.W.boot_o_1 P, PySem.W.boot_o_2 P, PySem.W.boot_o_3 P, PySem.W.boot_o_4 P, PySem.W.boot_o_5 P, PySem.W.boot_o_6 P, PySem.W.boot_o_7 P, PySem.W.boot_o_8 P, PySem.W.boot_o_9 P, PySem.W.boot_o_10 P, o11 P, o12a P, o13 P, o14 P], {}⟩
abbrev asK : List Addr := [2, 3, 15, 22, 24, 25, 27, 28, 29, 30, 31, 32, 35, 42, 44, 45, 47, 48, 49, 50, 51, 54, 56, 57, 59, 60, 68, 70, 71, 73, 74, 75, 76, 77, 78, 79, 89, 91, 92, 94, 95, 96, 97, 98, 99, 100, 110, 112, 113, 115, 116, 117, 118, 119, 120, 121, 124, 126, 127, 129, 130, 131, 134, 135, 136, 138, 139, 141, 142, 143, 145, 146, 148, 149, 150, 152, 153, 155, 156, 157, 159, 160, 162, 163, 164, 167, 168, 169, 172, 173, 174, 176, 177, 179, 180, 181, 183, 184, 186, 187, 195, 197, 198, 200, 201, 202, 203, 204, 205, 206, 216, 218, 219, 221, 222, 223, 224, 225, 226, 227, 230, 232, 233, 235, 236, 237, 239, 240, 242, 243, 244, 246, 247, 249, 250, 251, 253, 254, 256, 257, 258, 260, 261, 263, 264, 265, 267, 268, 270, 271, 272, 274, 275, 277, 278, 279, 281, 282, 284, 285, 286, 288, 289, 291, 292, 293, 296, 297, 298, 300, 301, 303, 304, 305, 307, 308, 310, 311, 312, 314, 315, 317, 318, 319, 322, 323]
noncomputable def heap_39 : Params → Frag := by
  refine (?k : (f : Params → Frag) → (f = fun P => (nat_lit 2, o2 P) :: (nat_lit 3, o3 P) :: (nat_lit 15, o15 P) :: (nat_lit 22, o22 P) :: (nat_lit 24, o24 P) :: (nat_lit 25, o25 P) :: (nat_lit 27, o27 P) :: (nat_lit 28, o28 P) :: (nat_lit 29, o29 P) :: (nat_lit 30, o30 P) :: (nat_lit 31, o31 P) :: (nat_lit 32, o32 P) :: (nat_lit 35, o35 P) :: (nat_lit 42, o42 P) :: (nat_lit 44, o44 P) :: (nat_lit 45, o45 P) :: (nat_lit 47, o47 P) :: (nat_lit 48, o48 P) :: (nat_lit 49, o49 P) :: (nat_lit 50, o50 P) :: (nat_lit 51, o51 P) :: (nat_lit 54, o54 P) :: (nat_lit 56, o56 P) :: (nat_lit 57, o57 P) :: (nat_lit 59, o59 P) :: (nat_lit 60, o60 P) :: (nat_lit 68, o68 P) :: (nat_lit 70, o70 P) :: (nat_lit 71, o71 P) :: (nat_lit 73, o73 P) :: (nat_lit 74, o74 P) :: (nat_lit 75, o75 P) :: (nat_lit 76, o76 P) :: (nat_lit 77, o77 P) :: (nat_lit 78, o78 P) :: (nat_lit 79, o79 P) :: (nat_lit 89, o89 P) :: (nat_lit 91, o91 P) :: (nat_lit 92, o92 P) :: (nat_lit 94, o94 P) :: (nat_lit 95, o95 P) :: (nat_lit 96, o96 P) :: (nat_lit 97, o97 P) :: (nat_lit 98, o98 P) :: (nat_lit 99, o99 P) :: (nat_lit 100, o100 P) :: (nat_lit 110, o110 P) :: (nat_lit 112, o112 P) :: (nat_lit 113, o113 P) :: (nat_lit 115, o115 P) :: (nat_lit 116, o116 P) :: (nat_lit 117, o117 P) :: (nat_lit 118, o118 P) :: (nat_lit 119, o119 P) :: (nat_lit 120, o120 P) :: (nat_lit 121, o121 P) :: (nat_lit 124, o124 P) :: (nat_lit 126, o126 P) :: (nat_lit 127, o127 P) :: (nat_lit 129, o129 P) :: (nat_lit 130, o130 P) :: (nat_lit 131, o131 P) :: (nat_lit 134, o134 P) :: (nat_lit 135, o135 P) :: (nat_lit 136, o136 P) :: (nat_lit 138, o138 P) :: (nat_lit 139, o139 P) :: (nat_lit 141, o141 P) :: (nat_lit 142, o142 P) :: (nat_lit 143, o143 P) :: (nat_lit 145, o145 P) :: (nat_lit 146, o146 P) :: (nat_lit 148, o148 P) :: (nat_lit 149, o149 P) :: (nat_lit 150, o150 P) :: (nat_lit 152, o152 P) :: (nat_lit 153, o153 P) :: (nat_lit 155, o155 P) :: (nat_lit 156, o156 P) :: (nat_lit 157, o157 P) :: (nat_lit 159, o159 P) :: (nat_lit 160, o160 P) :: (nat_lit 162, o162 P) :: (nat_lit 163, o163 P) :: (nat_lit 164, o164 P) :: (nat_lit 167, o167 P) :: (nat_lit 168, o168 P) :: (nat_lit 169, o169 P) :: (nat_lit 172, o172 P) :: (nat_lit 173, o173 P) :: (nat_lit 174, o174 P) :: (nat_lit 176, o176 P) :: (nat_lit 177, o177 P) :: (nat_lit 179, o179 P) :: (nat_lit 180, o180 P) :: (nat_lit 181, o181 P) :: (nat_lit 183, o183 P) :: (nat_lit 184, o184 P) :: (nat_lit 186, o186 P) :: (nat_lit 187, o187 P) :: (nat_lit 195, o195 P) :: (nat_lit 197, o197 P) :: (nat_lit 198, o198 P) :: (nat_lit 200, o200 P) :: (nat_lit 201, o201 P) :: (nat_lit 202, o202 P) :: (nat_lit 203, o203 P) :: (nat_lit 204, o204 P) :: (nat_lit 205, o205 P) :: (nat_lit 206, o206 P) :: (nat_lit 216, o216 P) :: (nat_lit 218, o218 P) :: (nat_lit 219, o219 P) :: (nat_lit 221, o221 P) :: (nat_lit 222, o222 P) :: (nat_lit 223, o223 P) :: (nat_lit 224, o224 P) :: (nat_lit 225, o225 P) :: (nat_lit 226, o226 P) :: (nat_lit 227, o227 P) :: (nat_lit 230, o230 P) :: (nat_lit 232, o232 P) :: (nat_lit 233, o233 P) :: (nat_lit 235, o235 P) :: (nat_lit 236, o236 P) :: (nat_lit 237, o237 P) :: (nat_lit 239, o239 P) :: (nat_lit 240, o240 P) :: (nat_lit 242, o242 P) :: (nat_lit 243, o243 P) :: (nat_lit 244, o244 P) :: (nat_lit 246, o246 P) :: (nat_lit 247, o247 P) :: (nat_lit 249, o249 P) :: (nat_lit 250, o250 P) :: (nat_lit 251, o251 P) :: (nat_lit 253, o253 P) :: (nat_lit 254, o254 P) :: (nat_lit 256, o256 P) :: (nat_lit 257, o257 P) :: (nat_lit 258, o258 P) :: (nat_lit 260, o260 P) :: (nat_lit 261, o261 P) :: (nat_lit 263, o263 P) :: (nat_lit 264, o264 P) :: (nat_lit 265, o265 P) :: (nat_lit 267, o267 P) :: (nat_lit 268, o268 P) :: (nat_lit 270, o270 P) :: (nat_lit 271, o271 P) :: (nat_lit 272, o272 P) :: (nat_lit 274, o274 P) :: (nat_lit 275, o275 P) :: (nat_lit 277, o277 P) :: (nat_lit 278, o278 P) :: (nat_lit 279, o279 P) :: (nat_lit 281, o281 P) :: (nat_lit 282, o282 P) :: (nat_lit 284, o284 P) :: (nat_lit 285, o285 P) :: (nat_lit 286, o286 P) :: (nat_lit 288, o288 P) :: (nat_lit 289, o289 P) :: (nat_lit 291, o291 P) :: (nat_lit 292, o292 P) :: (nat_lit 293, o293 P) :: (nat_lit 296, o296 P) :: (nat_lit 297, o297 P) :: (nat_lit 298, o298 P) :: (nat_lit 300, o300 P) :: (nat_lit 301, o301 P) :: (nat_lit 303, o303 P) :: (nat_lit 304, o304 P) :: (nat_lit 305, o305 P) :: (nat_lit 307, o307 P) :: (nat_lit 308, o308 P) :: (nat_lit 310, o310 P) :: (nat_lit 311, o311 P) :: (nat_lit 312, o312 P) :: (nat_lit 314, o314 P) :: (nat_lit 315, o315 P) :: (nat_lit 317, o317 P) :: (nat_lit 318, o318 P) :: (nat_lit 319, o319 P) :: (nat_lit 322, o322 P) :: (nat_lit 323, o323 P) :: []) → Params → Frag) _ (by delta o2 o3 o15 o22 o24 o25 o27 o28 o29 o30 o31 o32 o35 o42 o44 o45 o47 o48 o49 o50 o51 o54 o56 o57 o59 o60 o68 o70 o71 o73 o74 o75 o76 o77 o78 o79 o89 o91 o92 o94 o95 o96 o97 o98 o99 o100 o110 o112 o113 o115 o116 o117 o118 o119 o120 o121 o124 o126 o127 o129 o130 o131 o134 o135 o136 o138 o139 o141 o142 o143 o145 o146 o148 o149 o150 o152 o153 o155 o156 o157 o159 o160 o162 o163 o164 o167 o168 o169 o172 o173 o174 o176 o177 o179 o180 o181 o183 o184 o186 o187 o195 o197 o198 o200 o201 o202 o203 o204 o205 o206 o216 o218 o219 o221 o222 o223 o224 o225 o226 o227 o230 o232 o233 o235 o236 o237 o239 o240 o242 o243 o244 o246 o247 o249 o250 o251 o253 o254 o256 o257 o258 o260 o261 o263 o264 o265 o267 o268 o270 o271 o272 o274 o275 o277 o278 o279 o281 o282 o284 o285 o286 o288 o289 o291 o292 o293 o296 o297 o298 o300 o301 o303 o304 o305 o307 o308 o310 o311 o312 o314 o315 o317 o318 o319 o322 o323 withFn; exact rfl)
  case k => intro f _; exact f

noncomputable def view_39 : PySem.Program := view PG0 [1, 2, 4, 5, 7, 8, 9, 10, 11, 13, 14, 15, 16, 17, 18, 19, 20, 22, 23, 24, 25, 26, 27, 28, 29, 30, 32, 33, 34, 35, 36, 37, 38]
noncomputable def envT : Env := { scope := PG0.main.scope, locals := mainNs, globals := mainNs, cells := [], code := .ref 13, frame := some 14 }
noncomputable abbrev cdT : Code := .body (behindTheImports PG0) envT
noncomputable abbrev B0 : List Frame := [topFrame ⟨0, 0, 0, 0⟩]
noncomputable abbrev l1 : List Stmt := (behindTheImports PG0).take 8
noncomputable abbrev l2 : List Stmt := ((behindTheImports PG0).drop 8).take 14
noncomputable abbrev l3 : List Stmt := ((behindTheImports PG0).drop 8).drop 14
abbrev ann0 : Option Value := some (.ref 6)
theorem pfK : ∀ P, asK = (heap_39 P).map (·.1) := fun _ => by kernel_rfl
theorem t_open : ∀ w : World, (fencedOpening treeTable PG0 w 4990).map (fun s => (s.heap, s.gens, s.drawn, s.toks)) = some (boot_heap w.params, Array.mk [], boot_drawn, boot_toks) :=
  boot_open (by kernel_rfl) (by decide +kernel) (fun s => by kernel_rfl)
theorem t_size : ∀ w : World, ((boot_heap w.params).isNs mainGlobals && (#[] : Array GenState).size == 0, (boot_heap w.params).objs.size, (boot_heap w.params).nsMap mainGlobals "__annotations__") = (true, 11, ann0) := fun w => by kernel_rfl
theorem t_pre (w : World) (os : OsState) : topGo treeTable PG0 w 11 ann0 12 ⟨boot_heap w.params, #[], boot_drawn, boot_toks, os⟩ (topStub PG0) = some (⟨ini w.params, #[], {}, 187, os⟩, ⟨denote treeTable cdT, cdT, ⟨0, 0, 0, 0⟩, B0⟩) := by kernel_rfl
theorem t_block (w : World) (os : OsState) : segRun treeTable PG0 w 11 ann0 1 1 ⟨ini w.params, #[], {}, 187, os⟩ (blockOf (behindTheImports PG0) envT cdT ⟨0, 0, 0, 0⟩ B0) = some (.next, (SharedT.mk (tree_a w.params) 15 {} #[] {} 187 os).abs, cdT, ⟨0, 0, 0, 0⟩) := by kernel_rfl
theorem t_one (w : World) (os : OsState) : segRunT treeTable PG0 w 11 ann0 1 800 ⟨tree_a w.params, 15, {}, #[], {}, 187, os⟩ (piecesOf l1 envT cdT ⟨0, 0, 0, 0⟩ B0) = some (.next, ⟨tree_b w.params, 82, {}, #[], {}, 288, os⟩, cdT, ⟨19, 0, 22, 27⟩) := by rw [Fast.te10110043849684766642, Fast.te14364793385576792824]; kernel_rfl
theorem t_two (w : World) (os : OsState) : segRunT treeTable PG0 w 11 ann0 1 800 ⟨tree_b w.params, 82, {}, #[], {}, 288, os⟩ (piecesOf l2 envT cdT ⟨19, 0, 22, 27⟩ B0) = some (.next, ⟨tree_c w.params, 188, {}, #[], {}, 444, os⟩, cdT, ⟨110, 0, 110, 8⟩) := by rw [Fast.te10110043849684766642, Fast.te14364793385576792824]; kernel_rfl
theorem t_three (w : World) (os : OsState) : segRunT treeTable PG0 w 11 ann0 1 950 ⟨tree_c w.params, 188, {}, #[], {}, 444, os⟩ (piecesOf l3 envT cdT ⟨110, 0, 110, 8⟩ B0) = some (.next, ⟨tree_d w.params, 324, {}, #[], {}, 646, os⟩, cdT, ⟨206, 0, 243, 85⟩) := by rw [Fast.te10110043849684766642, Fast.te14364793385576792824]; kernel_rfl
theorem t_fin (w : World) (os : OsState) : topRun treeTable PG0 w 11 ann0 2 (SharedT.mk (tree_d w.params) 324 {} #[] {} 646 os).abs ⟨doneF .next, cdT, ⟨206, 0, 243, 85⟩, B0⟩ = some ⟨fin w.params, #[], {}, 646, os⟩ := by kernel_rfl
theorem t_split : behindTheImports PG0 = l1 ++ (l2 ++ (l3 ++ [])) := by
  rw [List.append_nil, List.take_append_drop, List.take_append_drop]
theorem t_rest (w : World) (os : OsState) (N : Nat) (s r : Shared) (h : topRun treeTable PG0 w 11 ann0 N s (restOf (l1 ++ (l2 ++ (l3 ++ []))) envT cdT ⟨0, 0, 0, 0⟩ B0) = some r) : topRun treeTable PG0 w 11 ann0 N s (restOf (behindTheImports PG0) envT cdT ⟨0, 0, 0, 0⟩ B0) = some r := by
  rw [← t_split] at h; exact h
theorem t_run (w : World) (os : OsState) : topRun treeTable PG0 w 11 ann0 (12 + (1 + (800 + (800 + (950 + 2))))) ⟨boot_heap w.params, #[], boot_drawn, boot_toks, os⟩ (topStub PG0) = some ⟨fin w.params, #[], {}, 646, os⟩ :=
  go_top (t_pre w os) (piece_block (t_block w os) (t_rest w os _ _ _ (piece_app (segRun_of (t_one w os)) (piece_app (segRun_of (t_two w os)) (piece_app (segRun_of (t_three w os)) (piece_nil (t_fin w os)))))))
noncomputable abbrev XT (s : Shared) : Bool := xlAt view_39 [] s && recOk PySem.Challenge.rw_pp0004_01.row.records s
noncomputable abbrev HK : Hook := kHook heap_39 asK pfK
theorem k_one (w : World) (os : OsState) : (staticsOk (importedModules PG0.main.body) (boot_heap w.params) (fin w.params) && namesBound PG0 (fin w.params) && gensDone ⟨fin w.params, #[], {}, 646, os⟩ && laidKept (boot_heap w.params) (fin w.params)) = true := by kernel_rfl
theorem k_two (w : World) (os : OsState) : openSeen view_39 [] (importedModules PG0.main.body) XT true ⟨fin w.params, #[], {}, 646, os⟩ = openGood view_39 [] := by rw [Fast.te4187177175401517315]; kernel_rfl
theorem k_three (w : World) (os : OsState) : HK.obs ⟨fin w.params, #[], {}, 646, os⟩ = HK.val w := by kernel_rfl
theorem left : LeftO PG0 view_39 [] XT HK.obs HK.val 4990 :=
  LeftO.of_pieces t_open t_size t_run (by decide +kernel) fun w => funext fun os => looks_pair (k_one w os) (looks_pair (k_two w os) (k_three w os))
theorem said : PySem.Challenge.rw_pp0004_01.wellSaid = true := by
  rw [Fast.te9446332074065402090]
  delta Fast.tw9446332074065402090 Fast.tw17960256430627541270 Fast.tw2436336058641802641 Fast.tw12908688711261696721
  (repeat' (with_reducible refine look_both ?_ ?_))
  all_goals decide +kernel
theorem chains : (chainsOk view_39 && opensWell PySem.Challenge.rw_pp0004_01.row.prog && (frees PySem.Challenge.rw_pp0004_01.row.toRowW && PySem.Challenge.rw_pp0004_01.row.within.isEmpty)) = true := by decide +kernel
theorem bare : PySem.Challenge.rw_pp0004_01.row.prog.bare := ⟨rfl, rfl, rfl, rfl, rfl, by decide +kernel⟩
end Mine.hd
end
-- C1
section
namespace Mine
noncomputable abbrev PG : PySem.Program := PySem.Challenge.rw_pp0004_01.row.prog
noncomputable abbrev VW := hd.view_39
/-- names the row and the written part, so that k_fill finds them -/
def Seed (_ : OpenLaw) (_ : Params → Frag) : Prop := True

/-- a contract of a call that comes back: from a ledger to a ledger -/
def CSpec (w : World) (dpN unN : Nat) (f : Addr) (vs : List Value) (news : List (Addr × Obj)) (Post : Value → List (Addr × Obj) → Prop) : Prop :=
  ∀ (mean : ExcName → Option Value) (mg mb : Str → Option Value) (dp un : Nat) (gd : Option (List Code)) (cn : Str) (cs : Scope) (a : Addr) (ccd : Value) (cl : List (Str × Addr)) (outer : List Env) (A₀ : Around) (base h₀ : Heap) (L : Addr) (m : Str → Option Value) (s : Shared) (Q E : Value → Shared → Prop),
    Below A₀ base outer h₀ → Fr h₀ L s.heap m → (hd.heap_39 w.params).In h₀ → News h₀ L s.heap news → Top VW (looseW VW []) mean mg mb h₀ → cs.kind = .function →
    dp + dpN < recursionLimit → un + unN < cLine →
    (∀ r news' h' tk', Fr h₀ L h' m → News h₀ L h' news' → Post r news' → Q r { s with heap := h', toks := tk' }) →
      wpAny (model PG w) (ktrTop dp un gd cn cs L a ccd cl outer) (call (.ref f) vs) Q E s

theorem CSpec.weaken {w : World} {dpN unN dpM unM : Nat} {f : Addr} {vs : List Value} {news news₂ : List (Addr × Obj)} {P P₂ : Value → List (Addr × Obj) → Prop}
    (h : CSpec w dpN unN f vs news P) (hd : dpN ≤ dpM) (hu : unN ≤ unM) (hn : ∀ p ∈ news, p ∈ news₂) (hp : ∀ r n, P r n → ∃ n₂, (∀ p ∈ n₂, p ∈ n) ∧ P₂ r n₂) : CSpec w dpM unM f vs news₂ P₂ := by
  intro mean mg mb dp un gd cn cs a ccd cl outer A₀ base h₀ L m s Q E B F X N T hk hdp hun hret
  refine h mean mg mb dp un gd cn cs a ccd cl outer A₀ base h₀ L m s Q E B F X (fun p hp => N p (hn p hp)) T hk (by omega) (by omega) ?_
  intro r n h' tk' F' N' hP
  obtain ⟨n₂, hs, hP₂⟩ := hp r n hP
  exact hret r n₂ h' tk' F' (fun p hp => N' p (hs p hp)) hP₂

section
local macro_rules | `(tactic| k_all) => `(tactic| assumption)
set_option maxRecDepth 100000 in
set_option maxHeartbeats 8000000 in
theorem tell_spec (w : World) (kn sl : Nat) (xs : List Value) (ns : List Int) (n1 n2 : Nat) (i : Int) (t mt : Tok) (many : Int) (rest : List (Addr × Obj))
    (hx : IntsAre xs ns) (hlen : ns.length ≤ 24) (hi : 0 ≤ i) (hi2 : i ≤ 100) (hm : 0 < many) (hm2 : many ≤ 9) (hne : kn ≠ sl) (hr : ∀ p ∈ rest, p.1 ≠ kn) :
    CSpec w 2 40 292 [.ref kn, .int many mt] ((kn, listOf #[.ref sl, .int i t] n1) :: (sl, listOf xs.toArray n2) :: rest)
      (fun r news' => ∃ v t' t'', r = .int v t' ∧ 0 ≤ v ∧ v < many ∧ news' = ((kn, listOf #[.ref sl, .int (i+1) t''] n1) :: (sl, listOf xs.toArray n2) :: rest)) := by
  k_with_none
  have hseed : Seed PySem.Challenge.rw_pp0004_01 hd.heap_39 := by k_fill; trivial
  clear hseed
  unfold CSpec
  intro mean mg mb dp un gd cn cs a ccd cl outer A₀ base h₀ L m s Q E B F X N T hk hdp hun hret
  refine wpAny_call ?_
  k_dflt ktr_enter
  k_steps
  · exact hret _ _ _ _ (by k_asm) (by k_asm) ⟨_, _, _, rfl, by rw [Int.fmod_eq_emod_of_nonneg _ (by omega)]; exact Int.emod_nonneg _ (by omega), by rw [Int.fmod_eq_emod_of_nonneg _ (by omega)]; exact Int.emod_lt_of_pos _ hm, rfl⟩
  · exact hret _ _ _ _ (by k_asm) (by k_asm) ⟨_, _, _, rfl, by omega, hm, rfl⟩
end

/-- the knob as the ledger bears it, at its place -/
theorem tell_K (w : World) (kn sl : Nat) (xs : List Value) (ns : List Int) (n1 n2 : Nat) (i : Int) (t mt : Tok) (many : Int) (news : List (Addr × Obj)) (g : Obj → List (Addr × Obj))
    (U : UpdF kn (listOf #[.ref sl, .int i t] n1) news g) (hsl : (sl, listOf xs.toArray n2) ∈ news)
    (hx : IntsAre xs ns) (hlen : ns.length ≤ 24) (hi : 0 ≤ i) (hi2 : i ≤ 100) (hm : 0 < many) (hm2 : many ≤ 9) (hne : kn ≠ sl) :
    CSpec w 2 40 292 [.ref kn, .int many mt] news
      (fun r news' => ∃ v t' t'', r = .int v t' ∧ 0 ≤ v ∧ v < many ∧ news' = g (listOf #[.ref sl, .int (i+1) t''] n1)) := by
  obtain ⟨pre, post, rfl, hg, a, b⟩ := U.split
  have hr : ∀ p ∈ pre ++ post, p.1 ≠ kn := fun p hp => (List.mem_append.mp hp).elim (a p) (b p)
  refine (tell_spec w kn sl xs ns n1 n2 i t mt many (pre ++ post) hx hlen hi hi2 hm hm2 hne hr).weaken (Nat.le_refl _) (Nat.le_refl _) ?_ ?_
  · intro p hp
    rcases List.mem_cons.mp hp with rfl | hp
    · simp
    · rcases List.mem_cons.mp hp with rfl | hp
      · exact hsl
      · rcases List.mem_append.mp hp with h | h <;> simp [h]
  · rintro r n ⟨v, t', t'', e1, e2, e3, rfl⟩
    refine ⟨g (listOf #[.ref sl, .int (i+1) t''] n1), ?_, v, t', t'', e1, e2, e3, rfl⟩
    intro p hp
    rw [hg] at hp
    rcases List.mem_append.mp hp with h | h
    · simp [h]
    · rcases List.mem_cons.mp h with rfl | h
      · simp
      · simp [h]
end Mine
end
theorem Mine.calm_C1 : True := by (w_top off); exact True.intro
-- C2
section
namespace Mine
theorem allLt_mem {d : Nat} {l : List (Addr × Obj)} (h : AllLt d l) : ∀ p ∈ l, @LT.lt Nat _ p.1 d := by
  induction l with
  | nil => intro p hp; cases hp
  | cons q r ih =>
    intro p hp
    rcases List.mem_cons.mp hp with rfl | hp
    · exact h.1
    · exact ih h.2 p hp
theorem allLt_trans {d e : Nat} {l : List (Addr × Obj)} (h : AllLt d l) (hd : d < e) : AllLt e l := allLt_of fun p hp => Nat.lt_trans (allLt_mem h p hp) hd

/-- no entry of the second list lies where one of the first lies -/
def Apart (news tl : List (Addr × Obj)) : Prop := ∀ q ∈ news, ∀ p ∈ tl, @Ne Nat q.1 p.1
theorem Apart.nil {news : List (Addr × Obj)} : Apart news [] := fun _ _ _ h => nomatch h
theorem Apart.cons {news tl : List (Addr × Obj)} {a : Nat} {o : Obj} (h : ∀ q ∈ news, @Ne Nat q.1 a) (t : Apart news tl) : Apart news ((a, o) :: tl) := fun q hq p hp => by
  rcases List.mem_cons.mp hp with rfl | hp
  · exact h q hq
  · exact t q hq p hp
theorem Apart.append {news a b : List (Addr × Obj)} (x : Apart news a) (y : Apart news b) : Apart news (a ++ b) := fun q hq p hp => (List.mem_append.mp hp).elim (x q hq p) (y q hq p)
theorem Apart.sub {news news' a : List (Addr × Obj)} (x : Apart news a) (h : ∀ p ∈ news', p ∈ news) : Apart news' a := fun q hq p hp => x q (h q hq) p hp
theorem ne_of_off1 {D : Addr} {l : List (Addr × Obj)} (h : LCg.Off1 D l) : ∀ q ∈ l, @Ne Nat q.1 D := by
  induction l with
  | nil => intro p hp; cases hp
  | cons q r ih =>
    intro p hp
    rcases List.mem_cons.mp hp with rfl | hp
    · exact h.1
    · exact ih h.2 p hp

inductive Worth where
  | num (n : Int)
  | arr (n : Int)
abbrev tupOf (vs : List Value) : Obj := { cls := .type "tuple", data := .seq vs.toArray }
abbrev avDict (P : Params) (t1 t2 : Tok) (b l : Addr) : Obj := dictOf [⟨PyData.keyHash P "bounds", .str "bounds" t1, .ref b⟩, ⟨PyData.keyHash P "items", .str "items" t2, .ref l⟩] 2
/-- the ledger bears a worth at v; its list of items lies in own, too -/
inductive WorthIn (P : Params) (led own : List (Addr × Obj)) : Value → Worth → Prop
  | num (n : Int) (t : Tok) : WorthIn P led own (.int n t) (.num n)
  | arr (n : Int) (x dx b tp l : Addr) (t1 t2 t3 t4 t5 t6 : Tok) (e1 e2 : Nat) : (x, instObj 98 dx) ∈ led → (dx, avDict P t1 t2 b l) ∈ led → (b, listOf #[.ref tp] e1) ∈ led → (tp, tupOf [.int 1 t3, .int 2 t4]) ∈ led →
      (l, listOf #[.int n t5, .int (n + 1) t6] e2) ∈ led → (l, listOf #[.int n t5, .int (n + 1) t6] e2) ∈ own → WorthIn P led own (.ref x) (.arr n)
theorem WorthIn.mono {P : Params} {led led' own own' : List (Addr × Obj)} {v : Value} {w : Worth} (h : WorthIn P led own v w) (hs : ∀ p ∈ led, p ∈ led') (ho : ∀ p ∈ own, p ∈ own') : WorthIn P led' own' v w := by
  cases h with
  | num n t => exact .num n t
  | arr n x dx b tp l t1 t2 t3 t4 t5 t6 e1 e2 h1 h2 h3 h4 h5 h6 => exact .arr n x dx b tp l t1 t2 t3 t4 t5 t6 e1 e2 (hs _ h1) (hs _ h2) (hs _ h3) (hs _ h4) (hs _ h5) (ho _ h6)

section
local macro_rules | `(tactic| k_room) => `(tactic| ktr_room)
local macro_rules | `(tactic| k_all) => `(tactic| assumption)
set_option maxRecDepth 100000 in
set_option maxHeartbeats 8000000 in
theorem worth_spec (w : World) (kn sl : Nat) (xs : List Value) (ns : List Int) (n1 n2 : Nat) (i : Int) (t : Tok) (rest : List (Addr × Obj))
    (hx : IntsAre xs ns) (hlen : ns.length ≤ 24) (hi : 0 ≤ i) (hi2 : i ≤ 80) (hne : kn ≠ sl) (hr : ∀ p ∈ rest, p.1 ≠ kn) :
    CSpec w 4 80 311 [.ref kn] ((kn, listOf #[.ref sl, .int i t] n1) :: (sl, listOf xs.toArray n2) :: rest)
      (fun r news' => ∃ wo tl t'', WorthIn w.params tl tl r wo ∧ Apart ((kn, listOf #[.ref sl, .int i t] n1) :: (sl, listOf xs.toArray n2) :: rest) tl ∧ news' = (tl ++ (kn, listOf #[.ref sl, .int (i+2) t''] n1) :: (sl, listOf xs.toArray n2) :: rest)) := by
  k_with_none
  k_with "call ref" => (k_here; (with_reducible show wpAny _ _ (call (Value.ref _) [Value.ref _, Value.int _ _]) _ _ _); k_dflt (refine' (tell_K _ _ _ _ _ _ _ _ _ _ _ _ _ ?Uₖ ?slₖ ?hxₖ ?hlₖ ?i0ₖ ?i1ₖ ?m0ₖ ?m1ₖ ?hneₖ) _ _ _ _ _ _ _ _ _ _ _ _ _ _ _ _ _ _ _ _ ?Bₖ ?Fₖ ?Xₖ ?Nₖ ?Tₖ ?kkₖ ?ddₖ ?uuₖ ?_; (case Fₖ => k_asm); (case Nₖ => k_asm); (case Uₖ => k_updF); (case slₖ => k_mem); (case hxₖ => assumption); (case hlₖ => assumption); (case i0ₖ => omega); (case i1ₖ => omega); (case m0ₖ => omega); (case m1ₖ => omega); (case hneₖ => assumption); (case Bₖ => k_asm); (case Xₖ => k_asm); (case Tₖ => k_asm); (case kkₖ => first | exact rfl | assumption); (case ddₖ => ktr_room); (case uuₖ => ktr_units)); intro r'ₖ n'ₖ h'ₖ tk'ₖ F'ₖ N'ₖ hp'ₖ; obtain ⟨v'ₖ, t'ₖ, t2'ₖ, er'ₖ, hv0'ₖ, hv1'ₖ, en'ₖ⟩ := hp'ₖ; subst er'ₖ; subst en'ₖ; (try dsimp only at N'ₖ); (try k_sweep))
  have hseed : Seed PySem.Challenge.rw_pp0004_01 hd.heap_39 := by k_fill; trivial
  clear hseed
  unfold CSpec
  intro mean mg mb dp un gd cn cs a ccd cl outer A₀ base h₀ L m s Q E B F X N T hk hdp hun hret
  refine wpAny_call ?_
  k_dflt ktr_enter
  k_steps
  · refine' hret _ _ _ _ ?F ?N ?P
    (case F => k_asm)
    (case N => k_asm)
    (case P => exact ⟨.num _, [], _, .num _ _, (fun _ _ _ h => nomatch h), by rw [show i + 1 + 1 = i + 2 by omega]; rfl⟩)
  · refine' hret _ _ _ _ ?F ?N ?P
    (case F => k_asm)
    (case N => k_asm)
    (case P =>
      rw [show i + 1 + 1 = i + 2 by omega]
      refine ⟨.arr _, [_, _, _, _, _], _, .arr _ _ _ _ _ _ _ _ _ _ _ _ _ _ (by k_mem) (by k_mem) (by k_mem) (by k_mem) (by k_mem) (by k_mem), ?_, rfl⟩
      intro q hq p hp
      simp only [List.mem_cons, List.not_mem_nil, or_false] at hp hq
      (repeat (rename (_ ∧ _) => hc; obtain ⟨_, _⟩ := hc))
      rcases hq with rfl | rfl | hq
      · rcases hp with rfl | rfl | rfl | rfl | rfl <;> (show @Ne Nat _ _; refine Nat.ne_of_lt ?_; dsimp only; omega)
      · rcases hp with rfl | rfl | rfl | rfl | rfl <;> (show @Ne Nat _ _; refine Nat.ne_of_lt ?_; dsimp only; omega)
      · (repeat (rename AllLt _ rest => ha; replace ha := allLt_mem ha q hq))
        rcases hp with rfl | rfl | rfl | rfl | rfl <;> (show @Ne Nat _ _; refine Nat.ne_of_lt ?_; dsimp only; omega))
end
end Mine
end
theorem Mine.calm_C2 : True := by (w_top off); exact True.intro
-- C3
section
namespace Mine
theorem worth_K (w : World) (kn sl : Nat) (xs : List Value) (ns : List Int) (n1 n2 : Nat) (i : Int) (t : Tok) (news : List (Addr × Obj)) (g : Obj → List (Addr × Obj))
    (U : UpdF kn (listOf #[.ref sl, .int i t] n1) news g) (hsl : (sl, listOf xs.toArray n2) ∈ news)
    (hx : IntsAre xs ns) (hlen : ns.length ≤ 24) (hi : 0 ≤ i) (hi2 : i ≤ 80) (hne : kn ≠ sl) :
    CSpec w 4 80 311 [.ref kn] news
      (fun r news' => ∃ wo tl t'', WorthIn w.params tl tl r wo ∧ Apart news tl ∧ news' = tl ++ g (listOf #[.ref sl, .int (i+2) t''] n1)) := by
  obtain ⟨pre, post, rfl, hg, a, b⟩ := U.split
  have hr : ∀ p ∈ pre ++ post, p.1 ≠ kn := fun p hp => (List.mem_append.mp hp).elim (a p) (b p)
  refine (worth_spec w kn sl xs ns n1 n2 i t (pre ++ post) hx hlen hi hi2 hne hr).weaken (Nat.le_refl _) (Nat.le_refl _) ?_ ?_
  · intro p hp
    rcases List.mem_cons.mp hp with rfl | hp
    · simp
    · rcases List.mem_cons.mp hp with rfl | hp
      · exact hsl
      · rcases List.mem_append.mp hp with h | h <;> simp [h]
  · rintro r n ⟨wo, tl, t'', e1, e2, rfl⟩
    refine ⟨tl ++ g (listOf #[.ref sl, .int (i+2) t''] n1), ?_, wo, tl, t'', e1, ?_, rfl⟩
    · intro p hp
      rcases List.mem_append.mp hp with h | hp
      · exact List.mem_append_left _ h
      rw [hg] at hp
      refine List.mem_append_right _ ?_
      rcases List.mem_append.mp hp with h | h
      · simp [h]
      · rcases List.mem_cons.mp h with rfl | h
        · simp
        · simp [h]
    · intro q hq p hp
      refine e2 q ?_ p hp
      rcases List.mem_append.mp hq with h | h
      · simp [h]
      · rcases List.mem_cons.mp h with rfl | h
        · simp
        · simp [h]
theorem copy_fin {P : Params} {h₀ h : Heap} {L : Addr} {news led0 : List (Addr × Obj)} {n : Int} {x d l b tp : Addr} {t1 t2 t3 t4 t5 t6 : Tok} {e1 e2 : Nat} {d1 d2 d3 d4 d5 : Addr × Obj} (m : (tp, tupOf [.int 1 t3, .int 2 t4]) ∈ led0)
    (N : News h₀ L h ((x, instObj 98 d) :: (d, avDict P t1 t2 b l) :: (l, listOf #[.int n t5, .int (n + 1) t6] e2) :: (b, listOf #[.ref tp] e1) :: d1 :: d2 :: d3 :: d4 :: d5 :: news))
    (ap : Apart news [(x, instObj 98 d), (d, avDict P t1 t2 b l), (l, listOf #[.int n t5, .int (n + 1) t6] e2), (b, listOf #[.ref tp] e1)]) :
    ∃ news', News h₀ L h news' ∧ ∃ tl, WorthIn P (tl ++ led0) tl (.ref x) (.arr n) ∧ Apart news tl ∧ news' = tl ++ news := by
  refine ⟨[(x, instObj 98 d), (d, avDict P t1 t2 b l), (l, listOf #[.int n t5, .int (n + 1) t6] e2), (b, listOf #[.ref tp] e1)] ++ news, fun p hp => N p ?_, _, ?_, ap, rfl⟩
  · simp only [List.cons_append, List.nil_append, List.mem_cons] at hp ⊢
    rcases hp with h | h | h | h | h <;> simp only [h, true_or, or_true]
  · refine .arr n x d b tp l t1 t2 t3 t4 t5 t6 e1 e2 ?_ ?_ ?_ ?_ ?_ ?_ <;> simp [m]
section
local macro_rules | `(tactic| lcg_off) => `(tactic| assumption)
local macro_rules | `(tactic| k_room) => `(tactic| ktr_room)
local macro_rules | `(tactic| k_all) => `(tactic| assumption)
set_option maxRecDepth 100000 in
set_option maxHeartbeats 8000000 in
theorem copy_num (w : World) (n : Int) (t : Tok) (news : List (Addr × Obj)) :
    CSpec w 2 20 135 [.int n t] news (fun r news' => r = .int n t ∧ news' = news) := by
  k_with_none
  k_with "CompRest" => (with_unfolding_all first | (refine LCg.CompRest.succ ?_; intro v'ₖ I'ₖ oI'ₖ C'ₖ oC'ₖ D'ₖ m'ₖ h'ₖ tk'ₖ E'ₖ hv'ₖ hC'ₖ hx'ₖ F'ₖ N'ₖ off'ₖ ne'ₖ; (first | lcg_open hv'ₖ | (obtain ⟨t9'ₖ, hv9'ₖ⟩ := hv'ₖ; subst hv9'ₖ))) | refine LCg.CompRest.zero ?_)
  k_with "FinE" => ((unfold LCg.FinE); intro D'ₖ h'ₖ tk'ₖ F'ₖ N'ₖ o1'ₖ; (try simp only [List.nil_append, List.cons_append] at N'ₖ); (try dsimp only))
  k_with "CompEnd" => (k_dflt (refine' LCg.CompEnd.intro ?Fₖ ?Nₖ _ (fun _ hp => hp) ?offₖ ?srcₖ ?_; (case Fₖ => assumption); (case Nₖ => assumption); (case offₖ => lcg_off); (case srcₖ => lcg_src)))
  have hseed : Seed PySem.Challenge.rw_pp0004_01 hd.heap_39 := by k_fill; trivial
  clear hseed
  unfold CSpec
  intro mean mg mb dp un gd cn cs a ccd cl outer A₀ base h₀ L m s Q E B F X N T hk hdp hun hret
  refine wpAny_call ?_
  k_dflt ktr_enter
  k_steps
  exact hret _ _ _ _ (by k_asm) (by k_asm) ⟨rfl, rfl⟩
set_option maxRecDepth 100000 in
set_option maxHeartbeats 8000000 in
theorem copy_spec (w : World) (v : Value) (wo : Worth) (news led0 own : List (Addr × Obj)) (hsub : ∀ p ∈ led0, p ∈ news) (hv : WorthIn w.params led0 own v wo) :
    CSpec w 4 80 135 [v] news (fun r news' => ∃ tl, WorthIn w.params (tl ++ led0) tl r wo ∧ Apart news tl ∧ news' = tl ++ news) := by
  k_with_none
  k_with "CompRest" => (with_unfolding_all first | (refine LCg.CompRest.succ ?_; intro v'ₖ I'ₖ oI'ₖ C'ₖ oC'ₖ D'ₖ m'ₖ h'ₖ tk'ₖ E'ₖ hv'ₖ hC'ₖ hx'ₖ F'ₖ N'ₖ off'ₖ ne'ₖ; (first | lcg_open hv'ₖ | (obtain ⟨t9'ₖ, hv9'ₖ⟩ := hv'ₖ; subst hv9'ₖ))) | refine LCg.CompRest.zero ?_)
  k_with "FinE" => ((unfold LCg.FinE); intro D'ₖ h'ₖ tk'ₖ F'ₖ N'ₖ o1'ₖ; (try simp only [List.nil_append, List.cons_append] at N'ₖ); (try dsimp only))
  k_with "CompEnd" => (k_dflt (refine' LCg.CompEnd.intro ?Fₖ ?Nₖ _ (fun _ hp => hp) ?offₖ ?srcₖ ?_; (case Fₖ => assumption); (case Nₖ => assumption); (case offₖ => lcg_off); (case srcₖ => lcg_src)))
  k_with "call ref" => (k_here; (with_reducible show wpAny _ _ (call (Value.ref _) [Value.int _ _]) _ _ _); k_dflt (refine' (copy_num _ _ _ _) _ _ _ _ _ _ _ _ _ _ _ _ _ _ _ _ _ _ _ _ ?Bₖ ?Fₖ ?Xₖ ?Nₖ ?Tₖ ?kkₖ ?ddₖ ?uuₖ ?_; (case Fₖ => k_asm); (case Nₖ => k_asm); (case Bₖ => k_asm); (case Xₖ => k_asm); (case Tₖ => k_asm); (case kkₖ => first | exact rfl | assumption); (case ddₖ => ktr_room); (case uuₖ => ktr_units)); intro r'ₖ n'ₖ h'ₖ tk'ₖ F'ₖ N'ₖ hp'ₖ; obtain ⟨er'ₖ, en'ₖ⟩ := hp'ₖ; subst er'ₖ; subst en'ₖ; (try dsimp only at N'ₖ); (try k_sweep))
  have hseed : Seed PySem.Challenge.rw_pp0004_01 hd.heap_39 := by k_fill; trivial
  clear hseed
  unfold CSpec
  intro mean mg mb dp un gd cn cs a ccd cl outer A₀ base h₀ L m s Q E B F X N T hk hdp hun hret
  cases hv
  case num n t =>
    exact (copy_num w n t news).weaken (by omega) (by omega) (fun _ h => h) (fun r n₂ e => ⟨n₂, fun _ h => h, [], by rw [e.1]; exact .num _ _, Apart.nil, by rw [e.2]; rfl⟩) mean mg mb dp un gd cn cs a ccd cl outer A₀ base h₀ L m s Q E B F X N T hk hdp hun hret
  case arr n x dx b tp l t1 t2 t3 t4 t5 t6 e1 e2 m1 m2 m3 m4 m5 m6 =>
    replace N : News h₀ L s.heap ((l, listOf #[.int n t5, .int (n + 1) t6] e2) :: (b, listOf #[.ref tp] e1) :: (x, instObj 98 dx) :: (dx, avDict w.params t1 t2 b l) :: (tp, tupOf [.int 1 t3, .int 2 t4]) :: news) := by
      intro p hp
      simp only [List.mem_cons] at hp
      rcases hp with rfl | rfl | rfl | rfl | rfl | hp
      · exact N _ (hsub _ m5)
      · exact N _ (hsub _ m3)
      · exact N _ (hsub _ m1)
      · exact N _ (hsub _ m2)
      · exact N _ (hsub _ m4)
      · exact N _ hp
    refine wpAny_call ?_
    k_dflt ktr_enter
    k_steps
    have kN := copy_fin m4 (by assumption : News h₀ L _ _) ?ap
    · obtain ⟨n', N', P'⟩ := kN
      exact hret _ n' _ _ (by k_asm) N' P'
    (case ap =>
      (repeat ((with_reducible rename (_ ∧ _) => hc); obtain ⟨_, _⟩ := hc))
      have ho := ne_of_off1 ‹LCg.Off1 _ _›
      refine Apart.cons (fun q hq => ?_) (Apart.cons (fun q hq => ?_) (Apart.cons (fun q hq => ho q (by simp only [List.mem_cons, hq, or_true])) (Apart.cons (fun q hq => ?_) .nil)))
      all_goals (
        refine Nat.ne_of_lt ?_
        (repeat (rename AllLt _ news => ha; replace ha := allLt_mem ha q hq))
        omega))
end
end Mine
end
theorem Mine.calm_C3 : True := by (w_top off); exact True.intro
-- L1
section
namespace Mine
section
variable {prog : Program} {w : World} {A : Around} {E : Value → Shared → Prop} {s : Shared} {env : Env} {h₀ : Heap} {target : Expr} {body : List Stmt} {Q : Flow → Shared → Prop}

/-- what a turn has to end in -/
def LoopEnd (h₀ : Heap) (L : Addr) (s₁ : Shared) (I : Addr) (oI : Obj) (keep : Addr × Obj) (R : (Str → Option Value) → List (Addr × Obj) → Prop) (Q : Flow → Shared → Prop) (f : Flow) (s₂ : Shared) : Prop :=
  match f with
  | .ret v => Q (.ret v) s₂
  | .brk => Q .next s₂
  | _ => ∃ h' tk m' news', s₂ = { s₁ with heap := h', toks := tk } ∧ Fr h₀ L h' m' ∧ News h₀ L h' ((I, oI) :: news') ∧ (∀ p ∈ news', @Ne Nat p.1 I) ∧ keep ∈ news' ∧ R m' news'

theorem items_inv {I : Addr} {c : String} {keep : Addr × Obj} (J : List Itm → (Str → Option Value) → List (Addr × Obj) → Prop)
    (turn : ∀ a r m news oI v h tk, J (a :: r) m news → (∀ p ∈ news, @Ne Nat p.1 I) → oI.cls = .type c → a.Is v h → Fr h₀ env.locals h m → News h₀ env.locals h ((I, oI) :: news) →
      wpAny (model prog w) A (assign target env v) (fun _ s₂ => wpAny (model prog w) A (execs body env) (LoopEnd h₀ env.locals { s with heap := h, toks := tk } I oI keep (J r) Q) E s₂) E { s with heap := h, toks := tk })
    (fin : ∀ m news h tk, J [] m news → Fr h₀ env.locals h m → News h₀ env.locals h news → Q .next { s with heap := h, toks := tk }) :
    ∀ xs m news, J xs m news → (∀ p ∈ news, @Ne Nat p.1 I) → ItemsRest prog w A E h₀ env target body Q s [(I, c)] [keep] xs m news := by
  intro xs
  induction xs with
  | nil => exact fun m news hJ _ => ItemsRest.zero fun h tk F N => fin m news h tk hJ F N
  | cons a r ih =>
    intro m news hJ hoff v h tk ha F
    refine AllObj.cons fun o ho => AllObj.nil fun N => ?_
    refine wpAny_mono (turn a r m news o v h tk hJ hoff ho ha F N) (fun _ s₂ h₂ => wpAny_mono h₂ (fun f s₃ h₃ => ?_) fun _ _ e => e) fun _ _ e => e
    have conv : ∀ s₃, LoopEnd h₀ env.locals { s with heap := h, toks := tk } I o keep (J r) Q .next s₃ → UnrEndW h₀ env.locals { s with heap := h, toks := tk } [(I, o)] (fun m' n' => SubL [keep] n' ∧ ItemsRest prog w A E h₀ env target body Q s [(I, c)] [keep] r m' n') s₃ := by
      rintro s₃ ⟨h', tk', m', news', e, F', N', hoff', hk', hJ'⟩
      refine ⟨h', tk', m', news', e, F', N', ?_, And.intro hk' trivial, ih m' news' hJ' hoff'⟩
      intro p hp q hq
      rw [List.mem_singleton.mp hq]
      exact hoff' p hp
    cases f with
    | ret v => exact h₃
    | brk => exact h₃
    | next => exact conv _ h₃
    | cont => exact conv _ h₃

theorem for_list_inv {ax : Addr} {vs : List Value} {n : Nat} {m₀ : Str → Option Value} {news : List (Addr × Obj)} (J : List Value → (Str → Option Value) → List (Addr × Obj) → Prop)
    (hh : A.handled = none) (F : Fr h₀ env.locals s.heap m₀) (N : News h₀ env.locals s.heap news) (hm : (ax, listOf vs.toArray n) ∈ news) (h0 : J vs m₀ news)
    (turn : ∀ I v r m news₁ oI h tk, J (v :: r) m news₁ → (∀ p ∈ news₁, @Ne Nat p.1 I) → oI.cls = .type "list_iterator" → Fr h₀ env.locals h m → News h₀ env.locals h ((I, oI) :: news₁) →
      wpAny (model prog w) A (assign target env v) (fun _ s₂ => wpAny (model prog w) A (execs body env) (LoopEnd h₀ env.locals { s with heap := h, toks := tk } I oI (ax, listOf vs.toArray n) (J r) Q) E s₂) E { s with heap := h, toks := tk })
    (fin : ∀ m news₁ h tk, J [] m news₁ → Fr h₀ env.locals h m → News h₀ env.locals h news₁ → Q .next { s with heap := h, toks := tk }) :
    wpAny (model prog w) A (pyIter (.ref ax)) (fun it s₂ => TurnsAt prog w A h₀ env target body Q E it s₂) E s := by
  refine iter_listTurns hh F N hm rfl rfl fun I hI => ?_
  refine items_inv (fun xs m nw => ∃ us, xs = us.map Itm.val ∧ J us m nw) ?_ ?_ _ _ _ ⟨vs, rfl, h0⟩ fun p hp => Nat.ne_of_lt (hI p hp)
  · rintro a r m nw oI v h tk ⟨us, e, hJ⟩ hoff hc ha F N
    cases us with
    | nil => cases e
    | cons u us =>
      injection e with e1 e2
      subst e1; subst e2
      obtain rfl : v = u := ha
      refine wpAny_mono (turn I v us m nw oI h tk hJ hoff hc F N) (fun _ s₂ h₂ => wpAny_mono h₂ (fun f s₃ h₃ => ?_) fun _ _ e => e) fun _ _ e => e
      cases f with
      | ret v => exact h₃
      | brk => exact h₃
      | next => obtain ⟨h', tk', m', n', a1, a2, a3, a4, a5, a6⟩ := h₃; exact ⟨h', tk', m', n', a1, a2, a3, a4, a5, us, rfl, a6⟩
      | cont => obtain ⟨h', tk', m', n', a1, a2, a3, a4, a5, a6⟩ := h₃; exact ⟨h', tk', m', n', a1, a2, a3, a4, a5, us, rfl, a6⟩
  · rintro m nw h tk ⟨us, e, hJ⟩ F N
    cases us with
    | nil => exact fin m nw h tk hJ F N
    | cons u us => cases e

theorem for_dict_inv {d : Addr} {od : Obj} {kvs : List (Str × Value)} {m₀ : Str → Option Value} {news : List (Addr × Obj)} (J : List (Str × Value) → (Str → Option Value) → List (Addr × Obj) → Prop)
    (hh : A.handled = none) (F : Fr h₀ env.locals s.heap m₀) (N : News h₀ env.locals s.heap news) (hm : (d, od) ∈ news) (hd : od.IsDictOf (strKind prog w) kvs) (lo : (d == sysModules) = false) (h0 : J kvs m₀ news)
    (turn : ∀ I k x t r m news₁ oI h tk, J ((k, x) :: r) m news₁ → (∀ p ∈ news₁, @Ne Nat p.1 I) → oI.cls = .type "dict_keyiterator" → Fr h₀ env.locals h m → News h₀ env.locals h ((I, oI) :: news₁) →
      wpAny (model prog w) A (assign target env (.str k t)) (fun _ s₂ => wpAny (model prog w) A (execs body env) (LoopEnd h₀ env.locals { s with heap := h, toks := tk } I oI (d, od) (J r) Q) E s₂) E { s with heap := h, toks := tk })
    (fin : ∀ m news₁ h tk, J [] m news₁ → Fr h₀ env.locals h m → News h₀ env.locals h news₁ → Q .next { s with heap := h, toks := tk }) :
    wpAny (model prog w) A (pyIter (.ref d)) (fun it s₂ => TurnsAt prog w A h₀ env target body Q E it s₂) E s := by
  refine kta_keys (knd := strKind prog w) (enc := PyData.str) hh F N hm hd lo (fun k v hk => by obtain ⟨t, rfl⟩ := Value.isStrOf_shape hk; exact ⟨t, rfl⟩) rfl fun I hI => ?_
  refine items_inv (fun xs m nw => ∃ us : List (Str × Value), xs = us.map (fun p => Itm.tok (kyVal (PyData.str p.1))) ∧ J us m nw) ?_ ?_ _ _ _ ⟨kvs, rfl, h0⟩ fun p hp => Nat.ne_of_lt (hI p hp)
  · rintro a r m nw oI v h tk ⟨us, e, hJ⟩ hoff hc ha F N
    cases us with
    | nil => cases e
    | cons u us =>
      injection e with e1 e2
      subst e1; subst e2
      obtain ⟨t, rfl⟩ := ha
      obtain ⟨k, x⟩ := u
      refine wpAny_mono (turn I k x t us m nw oI h tk hJ hoff hc F N) (fun _ s₂ h₂ => wpAny_mono h₂ (fun f s₃ h₃ => ?_) fun _ _ e => e) fun _ _ e => e
      cases f with
      | ret v => exact h₃
      | brk => exact h₃
      | next => obtain ⟨h', tk', m', n', a1, a2, a3, a4, a5, a6⟩ := h₃; exact ⟨h', tk', m', n', a1, a2, a3, a4, a5, us, rfl, a6⟩
      | cont => obtain ⟨h', tk', m', n', a1, a2, a3, a4, a5, a6⟩ := h₃; exact ⟨h', tk', m', n', a1, a2, a3, a4, a5, us, rfl, a6⟩
  · rintro m nw h tk ⟨us, e, hJ⟩ F N
    cases us with
    | nil => exact fin m nw h tk hJ F N
    | cons u us => cases e
end
end Mine
end
-- C4
section
namespace Mine
inductive WorthsIn (P : Params) (led own : List (Addr × Obj)) : List (Str × Value) → List (Str × Worth) → Prop
  | nil : WorthsIn P led own [] []
  | cons {k : Str} {v : Value} {wo : Worth} {kvs ws} : WorthIn P led own v wo → WorthsIn P led own kvs ws → WorthsIn P led own ((k, v) :: kvs) ((k, wo) :: ws)
theorem WorthsIn.mono {P : Params} {led led' own own' : List (Addr × Obj)} {kvs ws} (h : WorthsIn P led own kvs ws) (hs : ∀ p ∈ led, p ∈ led') (ho : ∀ p ∈ own, p ∈ own') : WorthsIn P led' own' kvs ws := by
  induction h with
  | nil => exact .nil
  | cons a _ ih => exact .cons (a.mono hs ho) ih
theorem WorthsIn.snoc {P : Params} {led own : List (Addr × Obj)} {kvs ws} {k : Str} {v : Value} {wo : Worth} (h : WorthsIn P led own kvs ws) (x : WorthIn P led own v wo) : WorthsIn P led own (kvs ++ [(k, v)]) (ws ++ [(k, wo)]) := by
  induction h with
  | nil => exact .cons x .nil
  | cons a _ ih => exact .cons a ih
/-- what _law_flat lays for a worth -/
inductive FlatIn (led : List (Addr × Obj)) : Value → Worth → Prop
  | num (n : Int) (t : Tok) : FlatIn led (.int n t) (.num n)
  | arr (n : Int) (tu b tp l : Addr) (t3 t4 t5 t6 : Tok) (e1 e2 : Nat) : (tu, tupOf [.ref b, .ref l]) ∈ led → (b, listOf #[.ref tp] e1) ∈ led → (tp, tupOf [.int 1 t3, .int 2 t4]) ∈ led → (l, listOf #[.int n t5, .int (n + 1) t6] e2) ∈ led → FlatIn led (.ref tu) (.arr n)
theorem FlatIn.mono {led led' : List (Addr × Obj)} {v wo} (h : FlatIn led v wo) (hs : ∀ p ∈ led, p ∈ led') : FlatIn led' v wo := by
  cases h with
  | num n t => exact .num n t
  | arr n tu b tp l t3 t4 t5 t6 e1 e2 h1 h2 h3 h4 => exact .arr n tu b tp l t3 t4 t5 t6 e1 e2 (hs _ h1) (hs _ h2) (hs _ h3) (hs _ h4)
inductive FlatsIn (led : List (Addr × Obj)) : List (Str × Value) → List (Str × Worth) → Prop
  | nil : FlatsIn led [] []
  | cons {k : Str} {v : Value} {wo : Worth} {kvs ws} : FlatIn led v wo → FlatsIn led kvs ws → FlatsIn led ((k, v) :: kvs) ((k, wo) :: ws)
theorem FlatsIn.mono {led led' : List (Addr × Obj)} {kvs ws} (h : FlatsIn led kvs ws) (hs : ∀ p ∈ led, p ∈ led') : FlatsIn led' kvs ws := by
  induction h with
  | nil => exact .nil
  | cons a _ ih => exact .cons (a.mono hs) ih
theorem FlatsIn.snoc {led : List (Addr × Obj)} {kvs ws} {k : Str} {v : Value} {wo : Worth} (h : FlatsIn led kvs ws) (x : FlatIn led v wo) : FlatsIn led (kvs ++ [(k, v)]) (ws ++ [(k, wo)]) := by
  induction h with
  | nil => exact .cons x .nil
  | cons a _ ih => exact .cons a ih
theorem FlatsIn.keys {led : List (Addr × Obj)} {kvs ws} (h : FlatsIn led kvs ws) : kvs.map (·.1) = ws.map (·.1) := by
  induction h with
  | nil => rfl
  | cons a _ ih => simp [ih]
theorem WorthsIn.keys {P : Params} {led own : List (Addr × Obj)} {kvs ws} (h : WorthsIn P led own kvs ws) : kvs.map (·.1) = ws.map (·.1) := by
  induction h with
  | nil => rfl
  | cons a _ ih => simp [ih]
theorem stored_snoc {kvs : List (Str × Value)} {k : Str} {v : Value} (h : k ∉ kvs.map (·.1)) : stored kvs k v = kvs ++ [(k, v)] := by
  unfold stored
  rw [if_neg]
  intro hc
  obtain ⟨p, hp, e⟩ := List.any_eq_true.mp hc
  exact h (List.mem_map.mpr ⟨p, hp, of_decide_eq_true e⟩)
theorem valueAt_mid {a r : List (Str × Value)} {k : Str} {v : Value} (hn : ((a ++ (k, v) :: r).map (·.1)).Nodup) : valueAt (a ++ (k, v) :: r) k = some v :=
  valueAt_of_get (i := a.length) hn (by simp)
theorem isDictOf_nodup {prog : Program} {w : World} {o : Obj} {kvs : List (Str × Value)} (h : o.IsDictOf (strKind prog w) kvs) : (kvs.map (·.1)).Nodup := by
  obtain ⟨es, ep, _, _, _, _, hn⟩ := h
  exact hn

theorem news_gen1 {h₀ h : Heap} {L a : Addr} {o : Obj} {l : List (Addr × Obj)} (N : News h₀ L h ((a, o) :: l)) : ∃ (g : Nat) (go : Obj), g = a ∧ go = o ∧ News h₀ L h ((g, go) :: l) := ⟨a, o, rfl, rfl, N⟩
theorem flat_arr {led : List (Addr × Obj)} {n : Int} {tu b tp l : Addr} {t3 t4 t5 t6 : Tok} {e1 e2 : Nat} (h : (tp, tupOf [.int 1 t3, .int 2 t4]) ∈ led) :
    FlatIn ([(tu, tupOf [.ref b, .ref l]), (l, listOf #[.int n t5, .int (n + 1) t6] e2), (b, listOf #[.ref tp] e1)] ++ led) (.ref tu) (.arr n) := by
  refine .arr n tu b tp l t3 t4 t5 t6 e1 e2 ?_ ?_ ?_ ?_ <;> simp [h]
theorem flat_turn_end {w : World} {h₀ h : Heap} {L fd : Addr} {I g : Nat} {oI o' fo : Obj} {tlx tl news own : List (Addr × Obj)} {kvs done r : List (Str × Value)} {ws wd wr : List (Str × Worth)} {fk : List (Str × Value)} {k : Str} {x y : Value} {wo : Worth} {m' : Str → Option Value} {Q : Flow → Shared → Prop} {s : Shared} {tk tk' : Nat} {h₁ : Heap} {go : Obj}
    (N : News h₀ L h (tlx ++ (I, oI) :: (g, o') :: (tl ++ news))) (F : Fr h₀ L h m') (hgo : ∀ p ∈ tl ++ news, @Ne Nat p.1 g) (hIo : ∀ p ∈ tl ++ news, @Ne Nat p.1 I) (hIg : @Ne Nat g I)
    (ap : Apart ((I, oI) :: (g, o') :: (tl ++ news)) tlx) (hm : (fd, fo) ∈ news) (ek : kvs = done ++ (k, x) :: r) (ew : ws = wd ++ (k, wo) :: wr) (hr : WorthsIn w.params news own r wr)
    (m1 : m' "fields" = some (.ref fd)) (m2 : m' "found" = some (.ref g)) (hfk : go.IsDictOf (strKind PG w) fk) (hd' : o'.IsDictOf (strKind PG w) (stored fk k y)) (hf : FlatsIn (tl ++ news) fk wd) (hy : FlatIn (tlx ++ (tl ++ news)) y wo)
    (hnk : (kvs.map (·.1)).Nodup) (hdw : done.map (·.1) = wd.map (·.1)) (apg : Apart ((g, go) :: news) tl) :
    LoopEnd h₀ L { s with heap := h₁, toks := tk } I oI (fd, fo) (fun m nw => ∃ done wd wr go tl fk, kvs = done ++ r ∧ ws = wd ++ wr ∧ WorthsIn w.params news own r wr ∧ m "fields" = some (.ref fd) ∧ m "found" = some (.ref g) ∧ nw = (g, go) :: (tl ++ news) ∧ go.IsDictOf (strKind PG w) fk ∧ FlatsIn (tl ++ news) fk wd ∧ done.map (·.1) = wd.map (·.1) ∧ Apart ((g, go) :: news) tl) Q .next { s with heap := h, toks := tk' } := by
  have hk : k ∉ fk.map (·.1) := by
    rw [hf.keys, ← hdw]
    intro hc
    rw [ek, List.map_append, List.map_cons] at hnk
    exact (List.nodup_append.mp hnk).2.2 k hc k (by simp) rfl
  rw [stored_snoc hk] at hd'
  refine ⟨h, tk', m', (g, o') :: ((tlx ++ tl) ++ news), rfl, F, fun p hp => N p ?_, ?_, ?_, done ++ [(k, x)], wd ++ [(k, wo)], wr, o', tlx ++ tl, fk ++ [(k, y)], by simp [ek], by simp [ew], hr, m1, m2, rfl, hd', ?_, by simp [hdw], ?_⟩
  · simp only [List.mem_cons, List.mem_append, List.append_assoc] at hp ⊢
    rcases hp with h | h | h | h | h <;> simp only [h, true_or, or_true]
  · intro p hp
    simp only [List.mem_cons, List.mem_append, List.append_assoc] at hp
    rcases hp with rfl | h | h | h
    · exact hIg
    · exact Ne.symm (ap _ (.head _) p h)
    · exact hIo p (List.mem_append_left _ h)
    · exact hIo p (List.mem_append_right _ h)
  · simp [hm]
  · exact (hf.mono fun p hp => by simp only [List.append_assoc]; exact List.mem_append_right _ hp).snoc (hy.mono fun p hp => by simpa only [List.append_assoc] using hp)
  · intro q hq p hp
    rcases List.mem_append.mp hp with h | h
    · rcases List.mem_cons.mp hq with rfl | hq
      · exact ap (g, o') (by simp) p h
      · exact ap q (by simp [hq]) p h
    · rcases List.mem_cons.mp hq with rfl | hq
      · exact apg (g, go) (by simp) p h
      · exact apg q (by simp [hq]) p h
theorem Fr.gen {h₀ h : Heap} {L : Addr} {m : Str → Option Value} (F : Fr h₀ L h m) : ∃ m₀, m₀ = m ∧ Fr h₀ L h m₀ := ⟨m, rfl, F⟩
section
local macro_rules | `(tactic| k_mem) => `(tactic| assumption)
local macro_rules | `(tactic| k_room) => `(tactic| ktr_room)
local macro_rules | `(tactic| k_all) => `(tactic| assumption)
set_option maxRecDepth 100000 in
set_option maxHeartbeats 8000000 in
theorem flat_spec (w : World) (fd : Nat) (fo : Obj) (kvs : List (Str × Value)) (ws : List (Str × Worth)) (news own : List (Addr × Obj)) (hm : (fd, fo) ∈ news) (hfd : fo.IsDictOf (strKind PG w) kvs) (lo : (fd == sysModules) = false)
    (hw : WorthsIn w.params news own kvs ws) (hlen : kvs.length ≤ 100) :
    CSpec w 4 80 318 [.ref fd] news (fun r news' => ∃ g go tl fk, r = .ref g ∧ news' = (g, go) :: (tl ++ news) ∧ go.IsDictOf (strKind PG w) fk ∧ FlatsIn (tl ++ news) fk ws ∧ Apart news ((g, go) :: tl) ∧ (g == sysModules) = false) := by
  k_with_none
  k_with "exec For Name Name cons nil" => (k_here; (rename Fr _ _ _ _ => lF'ₖ); (with_unfolding_all refine' For_turns lF'ₖ ?_; k_whole))
  k_with "eval Name" => (k_here; k_dflt (refine' PyProof.Rows.ld ?k1ₖ ?k2ₖ ?_; (case k1ₖ => k_asm); (case k2ₖ => first | exact rfl | assumption | ((try dsimp only); (repeat (first | exact if_pos rfl | assumption | refine (if_neg (by decide)).trans ?_)))); k_whole))
  k_with "subscriptTail" => (k_here; (with_reducible show wpAny _ _ (subscriptTail _ _ (Value.ref _) (Value.str _ _)) _ _ _); k_dflt (refine' kda_item (knd := PySem.strKind _ _) ?aNₖ ?aMₖ ?aDₖ (strKind_is _ _ _ _) ?aVₖ ?_; (case aNₖ => k_asm); (case aMₖ => k_mem); (case aDₖ => assumption); (case aVₖ => assumption)))
  k_with "setItem ref str" => (k_here; k_dflt (refine' kda_set (knd := PySem.strKind _ _) ?Fₖ ?Nₖ ?Uₖ ?dₖ (strKind_is _ _ _ _) ?zₖ ?_; (case Fₖ => k_asm); (case Nₖ => k_asm); (case Uₖ => k_updF); (case dₖ => assumption); (case zₖ => (rw [sizeLine_eq]; omega))); intro h'ₖ o'ₖ F'ₖ N'ₖ hd'ₖ; (try dsimp only at N'ₖ))
  k_with "newTuple" => (k_here; k_dflt (refine' kup_newTuple ?Fₖ ?Nₖ ?_ ?zₖ; (case Fₖ => k_asm); (case Nₖ => k_asm); (case zₖ => kmk_size)); intro D'ₖ h'ₖ F'ₖ N'ₖ l1ₖ; (try k_lt l1ₖ); (try k_sweep))
  have hseed : Seed PySem.Challenge.rw_pp0004_01 hd.heap_39 := by k_fill; trivial
  clear hseed
  unfold CSpec
  intro mean mg mb dp un gd cn cs a ccd cl outer A₀ base h₀ L m s Q E B F X N T hk hdp hun hret
  refine wpAny_call ?_
  k_dflt ktr_enter
  k_steps
  have hD := ‹Obj.IsDictOf (strKind PG w) _ ([] : List (Str × Value))›
  rename Fr _ _ _ _ => F1
  rename News _ _ _ _ => N1
  rename (_ == sysModules) = false => lo1
  rename (∀ p ∈ news, p.fst < _) => l1
  obtain ⟨m₀, em₀, F2⟩ := Fr.gen F1
  have e1 : m₀ "fields" = some (.ref fd) := by rw [em₀]; rfl
  obtain ⟨g, go, eg, ego, N2⟩ := news_gen1 N1
  subst eg; subst ego
  have e2 : m₀ "found" = some (.ref g) := by rw [em₀]; rfl
  clear F1 em₀ N1
  have hnk := isDictOf_nodup hfd
  refine for_dict_inv (fun r m nw => ∃ done wd wr go tl fk, kvs = done ++ r ∧ ws = wd ++ wr ∧ WorthsIn w.params news own r wr ∧ m "fields" = some (.ref fd) ∧ m "found" = some (.ref g) ∧ nw = (g, go) :: (tl ++ news) ∧ go.IsDictOf (strKind PG w) fk ∧ FlatsIn (tl ++ news) fk wd ∧ done.map (·.1) = wd.map (·.1) ∧ Apart ((g, go) :: news) tl) rfl F2 N2 (.tail _ hm) hfd lo ?h0 ?turn ?fin
  case h0 => exact ⟨[], [], ws, go, [], [], rfl, rfl, hw, e1, e2, rfl, hD, .nil, rfl, .nil⟩
  case turn =>
    clear N2 F2 hD e1 e2
    rintro I k x t r m nw oI h tk ⟨done, wd, wr, go', tl, fk, ek, ew, hr, m1, m2, rfl, hfk, hf, hdw, apg⟩ hoff hc F3 N3
    cases hr with
    | cons hx hr =>
    rename_i wo wr
    have hval : valueAt kvs k = some x := by rw [ek]; rw [ek] at hnk; exact valueAt_mid hnk
    have hmt : (fd, fo) ∈ tl ++ news := List.mem_append_right _ hm
    have hgo : ∀ p ∈ tl ++ news, @Ne Nat p.1 g := fun p hp => (List.mem_append.mp hp).elim (fun h => Ne.symm (apg (g, go') (.head _) p h)) fun h => Nat.ne_of_lt (l1 p h)
    have hIo : ∀ p ∈ tl ++ news, @Ne Nat p.1 I := fun p hp => hoff p (.tail _ hp)
    have hIg : @Ne Nat g I := hoff (g, go') (.head _)
    have hfl : fk.length ≤ 100 := by
      have := congrArg List.length hf.keys
      have h2 := congrArg List.length hdw
      have h3 := congrArg List.length ek
      simp only [List.length_map, List.length_append, List.length_cons] at this h2 h3
      omega
    have hx' := hx.mono (led' := tl ++ news) (own' := own) (fun p hp => List.mem_append_right _ hp) fun p hp => hp
    cases hx' with
    | num n tn =>
      k_steps
      rename Obj.IsDictOf (strKind PG w) _ (stored _ _ _) => hd9
      refine flat_turn_end (tlx := []) (by assumption) (by k_asm) hgo hIo hIg .nil hm ek ew hr ?_ ?_ hfk hd9 hf (.num n tn) hnk hdw apg
      · exact (if_neg (by decide)).trans ((if_neg (by decide)).trans m1)
      · exact (if_neg (by decide)).trans ((if_neg (by decide)).trans m2)
    | arr n x dx b tp l t1 t2 t3 t4 t5 t6 e1 e2 q1 q2 q3 q4 q5 q6 =>
      k_steps
      rename Obj.IsDictOf (strKind PG w) _ (stored _ _ _) => hd9
      refine flat_turn_end (tlx := [_, _, _]) (by assumption) (by k_asm) hgo hIo hIg ?ap hm ek ew hr ?m1 ?m2 hfk hd9 hf (flat_arr q4) hnk hdw apg
      case m1 => exact (if_neg (by decide)).trans ((if_neg (by decide)).trans m1)
      case m2 => exact (if_neg (by decide)).trans ((if_neg (by decide)).trans m2)
      case ap =>
        (repeat ((with_reducible rename (_ ∧ _) => hc); obtain ⟨_, _⟩ := hc))
        refine Apart.cons (fun q hq => ?_) (Apart.cons (fun q hq => ?_) (Apart.cons (fun q hq => ?_) .nil))
        all_goals (
          refine Nat.ne_of_lt ?_
          rcases List.mem_cons.mp hq with rfl | hq
          · assumption
          rcases List.mem_cons.mp hq with rfl | hq
          · assumption
          exact allLt_mem (by assumption) q hq)
  case fin =>
    rintro m nw h tk ⟨done, wd, wr, go', tl, fk, ek, ew, hr, m1, m2, rfl, hfk, hf, hdw, apg⟩ F3 N3
    have ewr : wr = [] := by cases hr; rfl
    subst ewr
    simp only [List.append_nil] at ek ew
    subst ek; subst ew
    dsimp only
    k_steps
    refine hret _ _ _ _ (by k_asm) (by k_asm) ⟨g, go', tl, fk, rfl, rfl, hfk, hf, fun q hq p hp => ?_, lo1⟩
    rcases List.mem_cons.mp hp with rfl | hp
    · exact Nat.ne_of_lt (l1 q hq)
    · exact apg q (.tail _ hq) p hp
end
end Mine
end
theorem Mine.calm_C4 : True := by (w_top off); exact True.intro
-- C5
section
namespace Mine
theorem news_drop3 {h₀ h : Heap} {L : Addr} {a b c : Addr × Obj} {l : List (Addr × Obj)} (N : News h₀ L h (a :: b :: c :: l)) : News h₀ L h l := fun p hp => N p (.tail _ (.tail _ (.tail _ hp)))
section
local macro_rules | `(tactic| k_mem) => `(tactic| assumption)
local macro_rules | `(tactic| k_get) => `(tactic| assumption)
local macro_rules | `(tactic| k_room) => `(tactic| ktr_room)
local macro_rules | `(tactic| k_all) => `(tactic| assumption)
theorem isList_led {h₀ h : Heap} {L a : Addr} {news : List (Addr × Obj)} {its : Array Value} {n : Nat} (N : News h₀ L h news) (hm : (a, listOf its n) ∈ news) : h.IsList a its := ⟨_, (N _ hm).1, rfl, n, rfl⟩
set_option maxRecDepth 100000 in
set_option maxHeartbeats 8000000 in
theorem vnames_spec (w : World) (news : List (Addr × Obj)) :
    CSpec w 4 80 168 [.none] news (fun r news' => ∃ g e, r = .ref g ∧ news' = (g, listOf #[] e) :: news ∧ ∀ p ∈ news, @LT.lt Nat _ p.1 g) := by
  k_with_none
  k_with "exec While Compare cons nil" => (k_here; k_dflt (refine whl_start 100 ?_))
  k_with "call type:list" => (k_here; k_dflt (refine' list_copyK ?k1ₖ ?k2ₖ ?k3ₖ ?_ ?zₖ; (case k1ₖ => k_asm); (case k2ₖ => k_asm); (case k3ₖ => exact isList_led (by k_asm) (by k_mem)); (case zₖ => (simp only [List.size_toArray]; rw [sizeLine_eq]; omega))); intro D'ₖ c'ₖ h'ₖ F'ₖ N'ₖ l1ₖ; (try k_lt l1ₖ); (try k_sweep))
  have hseed : Seed PySem.Challenge.rw_pp0004_01 hd.heap_39 := by k_fill; trivial
  clear hseed
  unfold CSpec
  intro mean mg mb dp un gd cn cs a ccd cl outer A₀ base h₀ L m s Q E B F X N T hk hdp hun hret
  refine wpAny_call ?_
  k_dflt ktr_enter
  k_steps
  rename (∀ p ∈ news, _) => l1
  have kN := ‹News h₀ L _ _›
  exact hret _ _ _ _ (by k_asm) (news_drop3 kN) ⟨_, _, rfl, rfl, fun p hp => l1 p hp⟩
set_option maxRecDepth 100000 in
set_option maxHeartbeats 8000000 in
theorem present_spec (w : World) (news : List (Addr × Obj)) (t dt lc : Nat) (es : List DictEntry) (n ec : Nat) (cs0 : List Value) (dv : Value)
    (h1 : (t, instObj 204 dt) ∈ news) (h2 : (dt, dictOf es n) ∈ news) (h3 : (lc, listOf cs0.toArray ec) ∈ news) (g1 : getL "components" es = some (some (.ref lc))) (g2 : getL "variant" es = some (some .none)) (hl : cs0.length ≤ 100) :
    CSpec w 4 80 163 [.ref t, dv] news (fun r news' => ∃ g e, r = .ref g ∧ news' = (g, listOf cs0.toArray e) :: news ∧ ∀ p ∈ news, @LT.lt Nat _ p.1 g) := by
  k_with_none
  k_with "exec While Compare cons nil" => (k_here; k_dflt (refine whl_start 100 ?_))
  k_with "call type:list" => (k_here; k_dflt (refine' list_copyK ?k1ₖ ?k2ₖ ?k3ₖ ?_ ?zₖ; (case k1ₖ => k_asm); (case k2ₖ => k_asm); (case k3ₖ => exact isList_led (by k_asm) (by k_mem)); (case zₖ => (simp only [List.size_toArray]; rw [sizeLine_eq]; omega))); intro D'ₖ c'ₖ h'ₖ F'ₖ N'ₖ l1ₖ; (try k_lt l1ₖ); (try k_sweep))
  have hseed : Seed PySem.Challenge.rw_pp0004_01 hd.heap_39 := by k_fill; trivial
  clear hseed
  unfold CSpec
  intro mean mg mb dp un gd cn cs a ccd cl outer A₀ base h₀ L m s Q E B F X N T hk hdp hun hret
  refine wpAny_call ?_
  k_dflt ktr_enter
  k_steps
  rename (∀ q ∈ news, _) => l1
  exact hret _ _ _ _ (by k_asm) (by k_asm) ⟨_, _, rfl, rfl, fun p hp => l1 p hp⟩
end
end Mine
end
theorem Mine.calm_C5 : True := by (w_top off); exact True.intro
-- L2
section
namespace Mine
section
variable {prog : Program} {w : World} {A : Around} {h₀ : Heap} {L : Addr} {m : Str → Option Value} {env : Env} {elt : Expr} {x : Str} {scope : Scope} {cl : List (Str × Addr)} {s : Shared} {S : List (Addr × Obj) → Prop} {P : Nat → Value → Prop} {Fin : List Value → List (Addr × Obj) → Prop}
theorem comprest_inv {n : Nat} (J : Nat → List Value → List (Addr × Obj) → Prop)
    (turn : ∀ i ys news v I oI C oC D m₂ h tk E', i < n → P i v → J i ys news → LCg.NsObj oC m₂ → m₂ x = some v → Fr h₀ L h m → News h₀ L h ((I, oI) :: (C, oC) :: (D, LCg.lst ys) :: news) → LCg.Off3 I C D news → ((@Ne Nat I C) ∧ (@Ne Nat I D) ∧ (@Ne Nat C D)) →
      wpAny (model prog w) A (eval elt (compEnvC scope cl C env)) (LCg.CompEnd h₀ L m { s with heap := h, toks := tk } I oI C oC D (LCg.lst ys) S (fun y news' => J (i + 1) (ys ++ [y]) news')) E' { s with heap := h, toks := tk })
    (fin : ∀ ys news, J n ys news → Fin ys news) :
    ∀ k i ys news, i + k = n → J i ys news → LCg.CompRest prog w A h₀ L m env elt x scope cl s S P Fin k i ys news := by
  intro k
  induction k with
  | zero =>
    intro i ys news hi hJ
    exact LCg.CompRest.zero (fin ys news (by rw [← hi]; exact hJ))
  | succ k ih =>
    intro i ys news hi hJ
    refine LCg.CompRest.succ fun v I oI C oC D m₂ h tk E' hP hoC hx F N off ne => ?_
    refine wpAny_mono (turn i ys news v I oI C oC D m₂ h tk E' (by omega) hP hJ hoC hx F N off ne) (fun y s₂ h₂ => ?_) fun _ _ e => e
    obtain ⟨h', tk', news', e, F', N', off', hS', r⟩ := h₂
    exact ⟨h', tk', news', e, F', N', off', hS', ih (i + 1) (ys ++ [y]) news' (by omega) r⟩
end
section
variable {prog : Program} {w : World} {A : Around} {E : Value → Shared → Prop} {s : Shared} {h₀ : Heap} {L l b : Addr} {m : Str → Option Value} {news : List (Addr × Obj)} {vs us : List Value} {e1 e2 : Nat}
theorem add_led {Q : Value → Shared → Prop} (F : Fr h₀ L s.heap m) (N : News h₀ L s.heap news) (h1 : (l, listOf vs.toArray e1) ∈ news) (h2 : (b, listOf us.toArray e2) ∈ news) (hz : vs.length + us.length ≤ 10000)
    (h : ∀ (D : Nat) h', Fr h₀ L h' m → News h₀ L h' ((D, listOf (vs ++ us).toArray 0) :: news) → (∀ p ∈ news, p.1 < D) → Q (.ref D) { s with heap := h' }) : wpAny (model prog w) A (binaryOp .Add (.ref l) (.ref b)) Q E s := by
  refine add_arrays F N ⟨_, (N _ h1).1, rfl, _, rfl⟩ ⟨_, (N _ h2).1, rfl, _, rfl⟩ (fun h' F' N' => h _ h' F' ?_ fun p hp => Heap.lt_size (N p hp).1) ?_
  · simpa using N'
  · simp only [List.size_toArray]; rw [sizeLine_eq]; omega
end
end Mine
end
-- C6
section
namespace Mine
/-- rows of a type: the names that they bear -/
inductive RowsIn (led : List (Addr × Obj)) : List Value → List Str → Prop
  | nil : RowsIn led [] []
  | cons {r : Addr} {k : Str} {t : Tok} {sub : Value} {vs : List Value} {ks : List Str} : (r, tupOf [.str k t, sub, .none]) ∈ led → RowsIn led vs ks → RowsIn led (.ref r :: vs) (k :: ks)
theorem RowsIn.mono {led led' : List (Addr × Obj)} {vs ks} (h : RowsIn led vs ks) (hs : ∀ p ∈ led, p ∈ led') : RowsIn led' vs ks := by
  induction h with
  | nil => exact .nil
  | cons a _ ih => exact .cons (hs _ a) ih
theorem RowsIn.append {led : List (Addr × Obj)} {vs ks us js} (h : RowsIn led vs ks) (h2 : RowsIn led us js) : RowsIn led (vs ++ us) (ks ++ js) := by
  induction h with
  | nil => exact h2
  | cons a _ ih => exact .cons a ih
theorem RowsIn.len {led : List (Addr × Obj)} {vs ks} (h : RowsIn led vs ks) : vs.length = ks.length := by
  induction h with
  | nil => rfl
  | cons a _ ih => simp [ih]
theorem RowsIn.at {led : List (Addr × Obj)} {vs ks} (h : RowsIn led vs ks) : ∀ {i : Nat} {v : Value}, vs[i]? = some v → ∃ r k t sub, v = .ref r ∧ ks[i]? = some k ∧ (r, tupOf [.str k t, sub, .none]) ∈ led := by
  induction h with
  | nil => intro i v h; simp at h
  | @cons r k t sub vs ks a _ ih =>
    intro i v h
    cases i with
    | zero => simp at h; subst h; exact ⟨r, k, t, sub, rfl, rfl, a⟩
    | succ i => simp only [List.getElem?_cons_succ] at h ⊢; exact ih h
theorem strs_snoc {ys : List Value} {ks : List Str} {k : Str} {t : Tok} (h : StrsAre ys ks) : StrsAre (ys ++ [.str k t]) (ks ++ [k]) := by
  induction h with
  | nil => exact .cons k t .nil
  | cons y t' _ ih => exact .cons y t' ih
theorem take_snoc {α : Type} {ks : List α} {i : Nat} {k : α} (h : ks[i]? = some k) : ks.take (i + 1) = ks.take i ++ [k] := by
  rw [List.take_add_one, h]; rfl
section
local macro_rules | `(tactic| k_mem) => `(tactic| assumption)
local macro_rules | `(tactic| k_get) => `(tactic| assumption)
local macro_rules | `(tactic| k_room) => `(tactic| ktr_room)
local macro_rules | `(tactic| k_all) => `(tactic| assumption)
local macro_rules | `(tactic| lcg_off) => `(tactic| assumption)
set_option maxRecDepth 100000 in
set_option maxHeartbeats 8000000 in
theorem pnames_spec (w : World) (news : List (Addr × Obj)) (t dt lc ld : Nat) (es : List DictEntry) (n ec ed : Nat) (cs0 : List Value) (ks : List Str)
    (h1 : (t, instObj 204 dt) ∈ news) (h2 : (dt, dictOf es n) ∈ news) (h3 : (lc, listOf cs0.toArray ec) ∈ news) (h4 : (ld, listOf #[] ed) ∈ news) (g1 : getL "components" es = some (some (.ref lc))) (g2 : getL "variant" es = some (some .none)) (g3 : getL "discriminants" es = some (some (.ref ld))) (hl : cs0.length ≤ 100)
    (hr : RowsIn news cs0 ks) :
    CSpec w 6 120 173 [.ref t] news (fun r news' => ∃ g e tl vs, r = .ref g ∧ news' = (g, listOf vs.toArray e) :: (tl ++ news) ∧ StrsAre vs ks ∧ Apart news ((g, listOf vs.toArray e) :: tl)) := by
  k_with_none
  k_with "call ref" => (k_here; (with_reducible show wpAny _ _ (call (Value.ref _) [Value.none]) _ _ _); k_dflt (refine' (vnames_spec _ _) _ _ _ _ _ _ _ _ _ _ _ _ _ _ _ _ _ _ _ _ ?Bₖ ?Fₖ ?Xₖ ?Nₖ ?Tₖ ?kkₖ ?ddₖ ?uuₖ ?_; (case Fₖ => k_asm); (case Nₖ => k_asm); (case Bₖ => k_asm); (case Xₖ => k_asm); (case Tₖ => k_asm); (case kkₖ => first | exact rfl | assumption); (case ddₖ => ktr_room); (case uuₖ => ktr_units)); intro r'ₖ n'ₖ h'ₖ tk'ₖ F'ₖ N'ₖ hp'ₖ; obtain ⟨g'ₖ, e'ₖ, er'ₖ, en'ₖ, l1ₖ⟩ := hp'ₖ; subst er'ₖ; subst en'ₖ; (try dsimp only at N'ₖ); (try k_sweep))
  k_with "binaryOp Add ref ref" => (k_here; k_dflt (refine' add_led ?k1ₖ ?k2ₖ ?k3ₖ ?k4ₖ ?zₖ ?_; (case k1ₖ => k_asm); (case k2ₖ => k_asm); (case k3ₖ => k_mem); (case k4ₖ => k_mem); (case zₖ => ((try simp only [List.length_nil]); omega))); intro D'ₖ h'ₖ F'ₖ N'ₖ l1ₖ; (try simp only [List.nil_append] at N'ₖ); (try k_lt l1ₖ); (try k_sweep))
  k_with "exec Assign cons ListComp" => (k_here; k_dflt (refine LCg.Assign_ListComp_U (F₀ := by k_asm) (by rfl) (by with_unfolding_all rfl) (by rfl) (by decide) (by rfl) (by decide) (by rfl) (by rfl) (by rfl) ?_))
  k_with "FinE" => ((unfold LCg.FinE); intro D'ₖ h'ₖ tk'ₖ F'ₖ N'ₖ o1'ₖ; (try simp only [List.nil_append, List.cons_append] at N'ₖ); (try dsimp only))
  k_with "FinA" => ((unfold LCg.FinA); intro D'ₖ h'ₖ tk'ₖ F'ₖ N'ₖ o1'ₖ; (try simp only [List.nil_append, List.cons_append] at N'ₖ); (try dsimp only))
  k_with "CompEnd" => (k_dflt (refine' LCg.CompEnd.intro ?Fₖ ?Nₖ _ (fun _ hp => hp) ?offₖ ?srcₖ ?_; (case Fₖ => assumption); (case Nₖ => assumption); (case offₖ => lcg_off); (case srcₖ => lcg_src)))
  have hseed : Seed PySem.Challenge.rw_pp0004_01 hd.heap_39 := by k_fill; trivial
  clear hseed
  unfold CSpec
  intro mean mg mb dp un gd cn cs a ccd cl outer A₀ base h₀ L m s Q E B F X N T hk hdp hun hret
  refine wpAny_call ?_
  k_dflt ktr_enter
  k_steps
  rename News _ _ _ (_ :: news) => N1
  rename (∀ p ∈ news, _) => l1
  obtain ⟨g1a, o1a, eg, eo, N2⟩ := news_gen1 N1
  subst eg; subst eo
  clear N1
  refine LCg.CompSrc.ledger (by rfl) (by k_asm) N2 (List.Mem.head _) (by simp only [List.size_toArray]; rw [sizeLine_eq]; omega) ?_
  intro g9
  refine comprest_inv (n := cs0.length) (fun i ys nw => nw = (g1a, listOf cs0.toArray 0) :: news ∧ StrsAre ys (ks.take i)) ?turn ?fin _ 0 [] _ (by simp) ⟨rfl, .nil⟩
  case turn =>
    rintro i ys nw v I oI C oC D m₂ h tk E' hi hP ⟨rfl, hys⟩ hoC hx F3 N3 off ne
    obtain ⟨r, k, t', sub, rfl, hk', hmr⟩ := hr.at (i := i) (by simpa using hP)
    k_steps
    rw [take_snoc hk']
    exact strs_snoc hys
  case fin =>
    rintro ys nw ⟨rfl, hys⟩
    have hks : ks.take cs0.length = ks := by rw [hr.len]; exact List.take_length
    rw [hks] at hys
    have hyl : ys.length ≤ 100 := by rw [StrsAre.length hys, ← hr.len]; exact hl
    k_steps
    rename (∀ p ∈ (_, LCg.lst ys) :: _, _) => l2
    rename LCg.Off1 _ _ => o1
    have kN := ‹News h₀ L _ _›
    have l3 := ‹_ ∧ _›
    refine hret _ _ _ _ (by k_asm) kN ⟨_, _, [_, _, _], ys ++ [], rfl, rfl, by simpa using hys, ?_⟩
    refine Apart.cons (fun q hq => Nat.ne_of_lt (allLt_mem l3.2.2.2 q hq)) (Apart.cons (fun q hq => Nat.ne_of_lt (l2 q (.tail _ (.tail _ hq)))) (Apart.cons (fun q hq => ne_of_off1 o1 q (.tail _ hq)) (Apart.cons (fun q hq => Nat.ne_of_lt (l1 q hq)) .nil)))
end
end Mine
end
theorem Mine.calm_C6 : True := by (w_top off); exact True.intro
-- X1
section
set_option maxRecDepth 100000
namespace Mine
section
variable {prog : Program} {w : World} {A : Around} {E : Value → Shared → Prop} {h : Heap} {g : Array GenState} {d : Drawn} {t : Nat} {os : OsState}
variable {nm q : Str} {C N : Addr} {bs bm : List Value} {hdct : Bool} {sn : List Str} {sub : List Value} {ab : Bool} {col : Option Bool} {dd : Option Addr} {k0 k1 k2 k3 k5 : Option Value}
theorem exc_new_code {rest : List Value} {R : Result → Shared → Prop} (hB : bm.contains (.type "Exception") = true) (hA : bm.contains (.type "AttributeError") = false) (hN : bm.contains (.type "NameError") = false)
    (hC : h.get? C = some (excClassObj nm q C N bs bm hdct sn sub ab col dd k0 k1 k2 k3 k5 "Exception.__new__"))
    (hq : R (.ok (.ret (.ref (h.objs.size + 1)))) ⟨(h.push { cls := .type "tuple", data := .seq rest.toArray }).push { cls := .ref C, data := .fields #[.ref h.objs.size, .none, .none, .none, .bool false, .none] }, g, d, t, os⟩) (hrest : rest.length ≤ sizeLine) :
    codeAny (model prog w) A (.builtin "Exception.__new__" ⟨.ref C :: rest, []⟩) R ⟨h, g, d, t, os⟩ := by
  have Fn := PySem.F.excBase_Exception
  have hends := Fn.ends
  have hcB : (Value.ref C :: bm).contains (.type "Exception") = true := by rw [List.contains_cons, hB, Bool.or_true]
  have hcA : (Value.ref C :: bm).contains (.type "AttributeError") = false := by rw [List.contains_cons, hA]; rfl
  have hcN : (Value.ref C :: bm).contains (.type "NameError") = false := by rw [List.contains_cons, hN]; rfl
  refine codeAny_builtinAt Fn.entry ?_
  unfold Builtin.«BaseException.__new__»
  refine PySem.wpAt_bind ?_
  show PySem.wpAt _ _ _ (stack >>= _) _ _ _
  refine PySem.wpAt_bind (PySem.wpAt_stack fun p below => PySem.wpAt_of_wpAny ?_)
  wp_walk
  refine PySem.wpAt_of_wpAny ?_
  rw [Fn.owner]
  repeat (first | with_reducible refine wpAny_madeHere_exc Fn.canon hC ?_ | with_reducible refine wpAny_loadPart_at hC ?_ | (with_reducible refine wpAny_isSubtype_exc hC ?_; first | rw [hcB] | rw [hcA] | rw [hcN]) | wp_step)
  show R _ _
  rw [Heap.size_push]
  exact hq
theorem exc_type_call {rest : List Value} {fI : Addr} {Q : Fin → Shared → Prop} (hB : bm.contains (.type "Exception") = true) (hA : bm.contains (.type "AttributeError") = false) (hN : bm.contains (.type "NameError") = false)
    (hC : h.get? C = some (excClassObj nm q C N bs bm hdct sn sub ab col dd k0 k1 k2 k3 k5 "Exception.__new__")) (hi : Looks (model prog w) h (typeLookup (.ref C) "__init__") (some (.ref fI))) (hb : ∀ self, Looks (model prog w) h (bindSpecial (.ref fI) self) (.ref fI, [self]))
    (hq : ∀ h' e, Heap.MadeExcOf h h' e (.ref C) rest → wpAny (model prog w) A (call (.ref fI) (.ref e :: rest)) (fun r s' => r = .none ∧ Q (.done (.ret (.ref e))) s') E ⟨h', g, d, t, os⟩) (hrest : rest.length ≤ sizeLine) :
    wpAny (model prog w) A (Builtin.«type.__call__» ⟨.ref C :: rest, []⟩) Q E ⟨h, g, d, t, os⟩ := by
  have Fn := PySem.F.excBase_Exception
  repeat (first | with_reducible refine wpAny_loadPart_at hC ?_ | with_reducible refine wpAny_madeBy_exc hC ?_ | wp_step)
  refine codeAny_call_builtin_code (Code.quiet_builtin _ Fn.quiet) (wpAny_check_new_subU Fn hB .base hC ?_)
  refine exc_new_code hB hA hN hC ?_ hrest
  show wpAny _ _ _ _ _ _
  have k2 : ∀ b o, h.get? b = some o → ((h.push { cls := .type "tuple", data := .seq rest.toArray }).push { cls := .ref C, data := .fields #[.ref h.objs.size, .none, .none, .none, .bool false, .none] }).get? b = some o := fun b o e => Heap.get?_push_of_some _ (Heap.get?_push_of_some _ e)
  have hC₁ := k2 _ _ hC
  have hget : ((h.push { cls := .type "tuple", data := .seq rest.toArray }).push
      { cls := .ref C, data := .fields #[.ref h.objs.size, .none, .none, .none, .bool false, .none] }).get? (h.objs.size + 1) = some
      { cls := .ref C, data := .fields #[.ref h.objs.size, .none, .none, .none, .bool false, .none] } := by heap_get
  have hcC : (Value.ref C :: bm).contains (.ref C) = true := by simp
  unfold isInstance
  repeat (first | with_reducible refine wpAny_loadPart_at hget ?_ | (with_reducible refine wpAny_isSubtype_exc hC₁ ?_; rw [hcC]) | wp_step)
  show wpAny _ _ (typeLookup (.ref C) _) _ _ _
  refine (hi.keeps k2).at ?_
  refine wpAny_holding (wpAny_bind (((hb _).keeps k2).at ?_))
  refine wpAny_bind (wpAny_mono (hq _ (h.objs.size + 1) ⟨k2, Heap.get?_none_of_le (Nat.le_succ _), h.objs.size, hget, Heap.get?_none_of_le (Nat.le_refl _), ?_⟩) (fun r s' hr => ?_) fun _ _ e => e)
  · exact Heap.get?_push_of_some _ (Heap.get?_push_at rfl rfl)
  · obtain ⟨rfl, hQ⟩ := hr
    wp_walk
    exact hQ
theorem exc_call {rest : List Value} {fI : Addr} {Q : Value → Shared → Prop} (hB : bm.contains (.type "Exception") = true) (hA : bm.contains (.type "AttributeError") = false) (hN : bm.contains (.type "NameError") = false)
    (hC : h.get? C = some (excClassObj nm q C N bs bm hdct sn sub ab col dd k0 k1 k2 k3 k5 "Exception.__new__")) (hi : Looks (model prog w) h (typeLookup (.ref C) "__init__") (some (.ref fI))) (hb : ∀ self, Looks (model prog w) h (bindSpecial (.ref fI) self) (.ref fI, [self]))
    (hq : ∀ h' e, Heap.MadeExcOf h h' e (.ref C) rest → wpAny (model prog w) (A.under (.builtin "type.__call__" ⟨.ref C :: rest, []⟩)) (call (.ref fI) (.ref e :: rest)) (fun r s' => r = .none ∧ Q (.ref e) s') E ⟨h', g, d, t, os⟩) (hrest : rest.length ≤ sizeLine) :
    wpAny (model prog w) A (call (.ref C) rest) Q E ⟨h, g, d, t, os⟩ := by
  have f1 := tc_lookup
  have f2 := tc_bind (.ref C)
  have hT : (⟨h, g, d, t, os⟩ : Shared).TypeIs (.ref C) "type" := ⟨_, hC, rfl⟩
  refine wpAny_call (codeAny_of_tree ?_)
  show wpAny _ _ (callAny (.ref C) _) _ _ _
  repeat (any_goals (first | assumption | with_reducible refine wpAny_loadPart_at hC ?_ | wp_step))
  refine ⟨rfl, ?_⟩
  refine codeAny_call_builtin_at (Code.quiet_builtin _ (by decide +kernel)) entry_typeCall (wpAny_check_type_call_sub hC (exc_type_call hB hA hN hC hi hb (fun h' e hm => ?_) hrest))
  exact hq h' e hm
end
end Mine
end
-- X2
section
set_option maxRecDepth 100000
namespace Mine
section
variable {prog : Program} {w : World} {A : Around} {E : Value → Shared → Prop} {h : Heap} {g : Array GenState} {d : Drawn} {t : Nat} {os : OsState}
variable {nm q : Str} {C N : Addr} {bs bm : List Value} {hdct : Bool} {sn : List Str} {sub : List Value} {ab : Bool} {col : Option Bool} {dd : Option Addr} {k0 k1 k2 k3 k5 : Option Value} {newId : String}
theorem exc_init_check {M : Model} {e : Addr} {oe : Obj} {v : Value} {Q : Unit → Shared → Prop} (hB : bm.contains (.type "Exception") = true)
    (hC : h.get? C = some (excClassObj nm q C N bs bm hdct sn sub ab col dd k0 k1 k2 k3 k5 newId)) (he : h.get? e = some oe) (hcls : oe.cls = .ref C) (hq : Q () ⟨h, g, d, t, os⟩) :
    wpAny M A (checkBuiltinCall "Exception.__init__" ⟨[.ref e, v], []⟩) Q E ⟨h, g, d, t, os⟩ := by
  have F := PySem.F.excBase_Exception
  have hcB : (Value.ref C :: bm).contains (.type "Exception") = true := by rw [List.contains_cons, hB, Bool.or_true]
  have hshort := F.noStar
  simp only [checkBuiltinCall, F.initKind, F.initSplit, F.initRow]
  repeat (first | (with_reducible refine wpAny_loadPart_at he ?_; rw [hcls]) | with_reducible refine wpAny_loadPart_at hC ?_ | (with_reducible refine wpAny_isSubtype_exc hC ?_; rw [hcB]) | wp_step)
  exact hq
theorem exc_init {e tp : Addr} {dx : Option Addr} {v : Value} {Q : Value → Shared → Prop} (hB : bm.contains (.type "Exception") = true)
    (hC : h.get? C = some (excClassObj nm q C N bs bm hdct sn sub ab col dd k0 k1 k2 k3 k5 newId)) (he : h.get? e = some { cls := .ref C, dict := dx, data := .fields #[.ref tp, .none, .none, .none, .bool false, .none] })
    (hq : Q .none ⟨(h.push { cls := .type "tuple", data := .seq #[v] }).update e (Obj.mapFields (·.setIfInBounds 0 (.ref h.objs.size))), g, d, t, os⟩) :
    wpAny (model prog w) A (call (.builtin "Exception.__init__") [.ref e, v]) Q E ⟨h, g, d, t, os⟩ := by
  have F := PySem.F.excBase_Exception
  refine wpAny_call (codeAny_call_builtin F.init.plain F.initEntry (exc_init_check hB hC he rfl ?_))
  wp_walk
  exact hq
end
end Mine
end
-- X3
section
set_option maxRecDepth 100000
namespace Mine
/-- every object's dict stays -/
def DictsStay (h h' : Heap) : Prop := ∀ b o, h.get? b = some o → ∃ o', h'.get? b = some o' ∧ o'.dict = o.dict
theorem DictsStay.refl (h : Heap) : DictsStay h h := fun _ o e => ⟨o, e, rfl⟩
theorem DictsStay.trans {a b c : Heap} (x : DictsStay a b) (y : DictsStay b c) : DictsStay a c := fun d o e =>
  let ⟨_, e1, e2⟩ := x d o e; let ⟨o2, e3, e4⟩ := y d _ e1; ⟨o2, e3, e4.trans e2⟩
theorem DictsStay.of_keeps {a b : Heap} (k : ∀ d o, a.get? d = some o → b.get? d = some o) : DictsStay a b := fun d o e => ⟨o, k d o e, rfl⟩
theorem DictsStay.field {h : Heap} {a : Addr} {oa : Obj} {vs : Array Value} (i : Nat) (v : Value) (ha : h.get? a = some oa) (hd : oa.data = .fields vs) : DictsStay h (h.update a (Obj.mapFields (·.setIfInBounds i v))) := fun b o e => by
  by_cases hb : a = b
  · subst hb
    rw [ha] at e
    cases e
    refine ⟨_, Heap.get?_update_self _ ha (Obj.isFreed_of_fields (Obj.data_mapFields hd _)), ?_⟩
    obtain ⟨c, dd, dt, sl⟩ := oa
    cases hd
    rfl
  · exact ⟨o, (Heap.get?_update_other _ _ hb).trans e, rfl⟩
section
variable {M : Model} {A : Around} {E : Value → Shared → Prop} {s : Shared}
theorem entryD {base : Heap} {env : Env} {outer : List Env} {L e : Addr} {oe : Obj} {vs : Array Value} {head a0 : Value} {hadNext : Bool} {Q : Unit → Shared → Prop}
    (hfr : A.frames = some (env :: outer)) (hl : s.heap.FunFrames base (env :: outer)) (hf : env.frame = some L)
    (he : s.heap.get? e = some oe) (hkb : base.StaysIn s.heap) (hen : base.get? e = none) (hd : oe.data = .fields vs) (hsz : 1 < vs.size) (h0 : vs[0]? = some a0)
    (h : ∀ h', Heap.NotedW base (env :: outer) e oe.cls a0 (rawInt L) s.heap h' → DictsStay s.heap h' → Q () { s with heap := h' }) :
    wpAny M A (do let a ← frameOf env; let pl ← entryPlaceOf L hadNext; let b ← EntryCells.newEntry head a .none (rawInt L) .none pl; setField (.ref e) 1 b) Q E s := by
  have hene : e ∉ (env :: outer).filterMap (·.frame) := fun hm => by
    obtain ⟨_, o, ho, hnf⟩ := hl.mem hm
    rw [he] at ho; cases ho; exact hnf vs hd
  refine wpAny_bind (wpAny_frameOf_fun hfr hl hf fun h₁ hs₁ => ?_)
  refine wpAny_bind (wpAny_entryPlaceOf fun pl hpl => ?_)
  unfold EntryCells.newEntry newFields
  generalize htb : ([head, Value.ref L, .none, rawInt L, .none] ++ (if pl.isEmpty then List.replicate 6 Value.none else pl)).toArray = tb
  have h3 : tb[3]? = some (rawInt L) := by
    subst htb
    first | (simp; done) | (rcases hpl with rfl | ⟨_, _, _, _, _, _, _, rfl⟩ <;> simp)
  refine wpAny_bind (wpAny_newObj_type ?_ (by rw [← htb]; exact hpl.sizeOk5 _ _ _ _ _))
  have he₁ : h₁.get? e = some oe := (hs₁.2.1 e hene).trans he
  have kb₁ : base.StaysIn h₁ := fun b o hbo => (hs₁.2.1 b fun hm => by rw [(hl.mem hm).1] at hbo; cases hbo).trans (hkb b o hbo)
  have D₁ : DictsStay s.heap h₁ := fun b o hb => by
    obtain ⟨sl, hs⟩ := hs₁.2.2 b o hb
    exact ⟨_, hs, rfl⟩
  generalize htr : ({ cls := .type "traceback", dict := none, data := .fields tb } : Obj) = tr
  have htrd : tr.data = .fields tb := by rw [← htr]
  have htrf : tr.isFreed = false := by rw [← htr]; rfl
  have he₂ := Heap.get?_push_of_some (h := h₁) tr he₁
  have D₂ : DictsStay h₁ (h₁.push tr) := .of_keeps fun b o hb => Heap.get?_push_of_some _ hb
  refine wpAny_setField he₂ hd hsz (h _ ?_ ((D₁.trans D₂).trans (.field 1 _ he₂ hd)))
  have hTe : h₁.objs.size ≠ e := Nat.ne_of_gt (Heap.lt_size he₁)
  have keep : ∀ b o, b ≠ e → h₁.get? b = some o → ((h₁.push tr).update e (Obj.mapFields (·.setIfInBounds 1 (Value.ref h₁.objs.size)))).get? b = some o := fun b o hbe hb => by
    rw [Heap.get?_update_other _ _ (Ne.symm hbe)]
    exact Heap.get?_push_of_some _ hb
  have noRecord : ∀ b o, s.heap.get? b = some o → (∀ vs, o.data ≠ .fields vs) → b ≠ e := fun b o hb hnf q => by
    rw [q, he] at hb; cases hb; exact hnf vs hd
  refine ⟨fun b o hbo => keep b o (fun q => by rw [q, hen] at hbo; cases hbo) (kb₁ b o hbo), hl.of_keeps fun b o hb hnf => ?_, ?_, fun b o hb hnf => ?_⟩
  · obtain ⟨sl, hs⟩ := hs₁.2.2 b o hb
    exact ⟨_, keep b _ (noRecord b o hb hnf) hs, rfl⟩
  · refine ⟨_, _, h₁.objs.size, tr, tb, Heap.get?_update_self _ he₂ (Obj.isFreed_of_fields (Obj.data_mapFields hd _)), ⟨Obj.cls_mapFields _ _, ?_⟩, Obj.data_mapFields hd _, by simp [hsz], kb₁.fresh, hTe, ?_, htrd, h3⟩
    · rw [Array.getElem?_setIfInBounds_ne (by decide)]; exact h0
    · exact (Heap.get?_update_other _ _ (Ne.symm hTe)).trans (Heap.get?_push_size h₁ htrf)
  · obtain ⟨sl, hs⟩ := hs₁.2.2 b o hb
    exact ⟨sl, keep b _ (noRecord b o hb hnf) hs⟩
theorem note_firstD {base : Heap} {env : Env} {outer : List Env} {L e : Addr} {oe : Obj} {vs : Array Value} {a0 : Value} {Q : Unit → Shared → Prop}
    (hfr : A.frames = some (env :: outer)) (hl : s.heap.FunFrames base (env :: outer)) (hf : env.frame = some L)
    (he : s.heap.get? e = some oe) (hkb : base.StaysIn s.heap) (hen : base.get? e = none) (hd : oe.data = .fields vs) (h1 : vs[1]? = some .none) (h0 : vs[0]? = some a0)
    (h : ∀ h', Heap.NotedW base (env :: outer) e oe.cls a0 (rawInt L) s.heap h' → DictsStay s.heap h' → Q () { s with heap := h' }) : wpAny M A (noteFrame (.ref e) env) Q E s := by
  unfold noteFrame
  simp only [hf]
  refine wpAny_bind (wpAny_field he hd h1 ?_)
  rw [if_neg (by decide)]
  exact entryD hfr hl hf he hkb hen hd (Array.getElem?_eq_some_iff.mp h1).1 h0 h
theorem note_onD {base : Heap} {env : Env} {outer : List Env} {L e : Addr} {cls a0 : Value} {Q : Unit → Shared → Prop}
    (hfr : A.frames = some (env :: outer)) (hl : s.heap.FunFrames base (env :: outer)) (hf : env.frame = some L) (ht : s.heap.TracedW base e cls a0) (hkb : base.StaysIn s.heap) (hen : base.get? e = none)
    (h : ∀ h', Heap.NotedW base (env :: outer) e cls a0 (rawInt L) s.heap h' → DictsStay s.heap h' → Q () { s with heap := h' }) : wpAny M A (noteFrame (.ref e) env) Q E s := by
  obtain ⟨oe, vs, T, oT, ts, he, ⟨hcls, h0⟩, hd, h1, hnT, hTe, hT, hdT, h3⟩ := ht
  subst hcls
  unfold noteFrame
  simp only [hf]
  refine wpAny_bind (wpAny_field he hd h1 ?_)
  rw [if_pos (show (Value.ref T != Value.none) = true from by simp)]
  refine wpAny_bind (wpAny_field hT hdT h3 ?_)
  rw [if_neg (show ¬ ((Value.none == rawInt L) = true) from by simp [rawInt])]
  refine wpAny_bind (wpAny_setField hT hdT (Array.getElem?_eq_some_iff.mp h3).1 ?_)
  have other : ∀ b, b ≠ T → (s.heap.update T (Obj.mapFields (·.setIfInBounds 3 Value.none))).get? b = s.heap.get? b := fun b hb => Heap.get?_update_other _ _ (Ne.symm hb)
  have noRecord : ∀ b o, s.heap.get? b = some o → (∀ vs, o.data ≠ .fields vs) → b ≠ T := fun b o hb hnf q => by
    rw [q, hT] at hb; cases hb; exact hnf ts hdT
  refine entryD hfr (hl.of_keeps fun b o hb hnf => ⟨o, (other b (noRecord b o hb hnf)).trans hb, rfl⟩) hf ((other e (Ne.symm hTe)).trans he)
    (fun b o hbo => (other b fun q => by rw [q, hnT] at hbo; cases hbo).trans (hkb b o hbo)) hen hd (Array.getElem?_eq_some_iff.mp h1).1 h0
    fun h' ⟨x1, x2, x3, x4⟩ D => h h' ⟨x1, x2, x3, fun b o hb hnf => x4 b o ((other b (noRecord b o hb hnf)).trans hb) hnf⟩ ((DictsStay.field 3 _ hT hdT).trans D)
theorem flightD {base : Heap} {l : List Env} {e : Addr} {cls a0 fl : Value} {Q : Unit → Shared → Prop}
    (hkb : base.StaysIn s.heap) (hl : s.heap.FunFrames base l) (hen : base.get? e = none) (ht : s.heap.TracedAtW base e cls a0 fl)
    (h : ∀ h', Heap.FlyingW base l e cls a0 h' → s.heap.UpToSlots h' → DictsStay s.heap h' → Q () { s with heap := h' }) : wpAny M A (setFlight (.ref e) none) Q E s := by
  obtain ⟨oe, vs, T, oT, ts, he, hcls, hd, h1, hnT, hTe, hT, hdT, h3⟩ := ht
  have hsz3 : 3 < ts.size := (Array.getElem?_eq_some_iff.mp h3).1
  have other : ∀ b, b ≠ T → (s.heap.update T (Obj.mapFields (·.setIfInBounds 3 Value.none))).get? b = s.heap.get? b := fun b hb => Heap.get?_update_other _ _ (Ne.symm hb)
  have noRecord : ∀ b o, s.heap.get? b = some o → (∀ vs, o.data ≠ .fields vs) → b ≠ T := fun b o hb hnf q => by
    rw [q, hT] at hb; cases hb; exact hnf ts hdT
  unfold setFlight
  refine wpAny_bind (wpAny_field he hd h1 ?_)
  rw [if_pos (show (Value.ref T != Value.none) = true from by simp)]
  refine wpAny_setField hT hdT hsz3 (h _ ⟨fun b o hbo => (other b fun q => by rw [q, hnT] at hbo; cases hbo).trans (hkb b o hbo), hen, hl.of_keeps fun b o hb hnf => ⟨o, (other b (noRecord b o hb hnf)).trans hb, rfl⟩, ?_⟩ (fun b o hb hnf => ⟨o.slots, (other b (noRecord b o hb hnf)).trans hb⟩) (.field 3 _ hT hdT))
  exact ⟨oe, vs, T, _, _, (other e (Ne.symm hTe)).trans he, hcls, hd, h1, hnT, hTe, Heap.get?_update_self _ hT (Obj.isFreed_of_fields (Obj.data_mapFields hdT _)), Obj.data_mapFields hdT _, by simp [hsz3]⟩
theorem leave_firstD {base : Heap} {env : Env} {outer : List Env} {L e : Addr} {oe : Obj} {vs : Array Value} {a0 : Value} {Q : Unit → Shared → Prop}
    (hfr : A.frames = some (env :: outer)) (hl : s.heap.FunFrames base (env :: outer)) (hf : env.frame = some L)
    (he : s.heap.get? e = some oe) (hkb : base.StaysIn s.heap) (hen : base.get? e = none) (hd : oe.data = .fields vs) (h1 : vs[1]? = some .none) (h0 : vs[0]? = some a0)
    (h : ∀ h', Heap.FlyingW base outer e oe.cls a0 h' → s.heap.UpToSlots h' → DictsStay s.heap h' → Q () { s with heap := h' }) : wpAny M A (leaving env (.ref e)) Q E s := by
  unfold leaving
  refine wpAny_bind (note_firstD hfr hl hf he hkb hen hd h1 h0 fun h₁ ⟨x1, x2, x3, x4⟩ D₁ => ?_)
  refine flightD x1 x2 hen x3 fun h₂ ⟨y1, y2, ⟨_, _, y3⟩, y4⟩ U₂ D₂ => ?_
  exact h h₂ ⟨y1, y2, y3, y4⟩ (Heap.UpToSlots.trans x4 U₂) (D₁.trans D₂)
theorem leave_onD {base : Heap} {env : Env} {outer : List Env} {L e : Addr} {cls a0 : Value} {Q : Unit → Shared → Prop}
    (hfr : A.frames = some (env :: outer)) (hf : env.frame = some L) (hfl : Heap.FlyingW base (env :: outer) e cls a0 s.heap)
    (h : ∀ h', Heap.FlyingW base outer e cls a0 h' → s.heap.UpToSlots h' → DictsStay s.heap h' → Q () { s with heap := h' }) : wpAny M A (leaving env (.ref e)) Q E s := by
  obtain ⟨f1, f2, f3, f4⟩ := hfl
  unfold leaving
  refine wpAny_bind (note_onD hfr f3 hf f4 f1 f2 fun h₁ ⟨x1, x2, x3, x4⟩ D₁ => ?_)
  refine flightD x1 x2 f2 x3 fun h₂ ⟨y1, y2, ⟨_, _, y3⟩, y4⟩ U₂ D₂ => ?_
  exact h h₂ ⟨y1, y2, y3, y4⟩ (Heap.UpToSlots.trans x4 U₂) (D₁.trans D₂)
end
end Mine
end
-- X4
section
set_option maxRecDepth 100000
namespace Mine
open Builtin Builtin.ObjectAttr
/-- an exception of the program's own class, its attributes mA, its first text at tp -/
def ExcAt (h : Heap) (C e tp : Addr) (mA : Str → Option Value) : Prop :=
  ∃ o, h.get? e = some o ∧ o.cls = .ref C ∧ o.data = .fields #[.ref tp, .none, .none, .none, .bool false, .none] ∧ ((o.dict = none ∧ ∀ n, mA n = none) ∨ ∃ d, o.dict = some d ∧ d ≠ e ∧ h.Ns1 d mA)
def excMro : List Value := [.type "Exception", .type "BaseException", .type "object"]
section
variable {prog : Program} {w : World} {A : Around} {E : Value → Shared → Prop} {K : Frag} {C C2 e tp : Addr} {cd : ClassData} {mA : Str → Option Value} {name : Str} {v : Value}
theorem exc_osa {s : Shared} {x : Addr} {ox : Obj} {od : Option Obj} {tk : Tok} {R : Result → Shared → Prop} (X : K.In s.heap) (I : InstAt s.heap x ox C od) (hc : clsIn K C = some cd) (hm : cd.mro = .ref C :: .ref C2 :: excMro) (ht : takerIn K C name = some none)
    (h : ∀ b, wpAny (model prog w) A.in1 (storeInOwnDict (.ref x) (.ref C) (.str name tk) name v b)
      (fun fin s' => match fin with | .done f => R (.ok f) s' | .again c' => c'.quiet = true ∧ codeAny (model prog w) A c' R s') (fun e s' => R (.error e) s') s) :
    codeAny (model prog w) A (.call (.builtin "object.__setattr__") ⟨[.ref x, .str name tk, v], []⟩) R s := by
  have SF := PySem.F.store_object
  have SE := PySem.F.store_Exception
  have ne : cd.mro.isEmpty = false := by rw [hm]; rfl
  have sub : Looks (model prog w) s.heap (isInstance (.ref x) (.type "object")) true := I.type.andThen (looks_mroIn X (by unfold mroIn; rw [hc, Option.bind_some, if_neg (by rw [ne]; decide), hm]; rfl))
  refine codeAny_call_builtin SF.slot.plain SF.entry (@check_slot (model prog w) _ _ s "object.__setattr__" "object" "__setattr__" (.ref x) [.str name tk, v] [] _ SF.kind SF.split sub (SF.args (.ref x) (.str name tk) v) ?_)
  obtain ⟨attr, ha, hr⟩ := Option.bind_eq_some_iff.mp ht
  have hml : Looks (model prog w) s.heap (mroOf (.ref C)) cd.mro := (looks_clsIn X hc).andThen .now
  have L3 : Looks (model prog w) s.heap (storeTaker? attr) none := by
    cases attr with
    | none => exact .now
    | some a =>
      obtain ⟨b, hb, hb2⟩ := Option.map_eq_some_iff.mp hr
      refine (looks_takesIn X hb).andThen ?_
      cases b
      · exact .now
      · cases hb2
  rw [osa_eq, refuse_eq]
  refine wpAny_bind (wpAny_bind (I.type.here (wpAny_bind (hml.here ?_))))
  rw [hm, refuseLoop_ref, refuseLoop_ref, show excMro = [.type "Exception", .type "BaseException", .type "object"] from rfl, SE.passes]
  refine wpAny_pure (wpAny_bind (I.type.here (wpAny_bind ((looks_findIn X ha).here (wpAny_bind (L3.here ?_))))))
  exact h _
theorem exc_store {h : Heap} {g : Array GenState} {d : Drawn} {t : Nat} {os : OsState} {Q : Unit → Shared → Prop} {ns : List Str} (X : K.In h) (hc : clsIn K C = some cd) (hm : cd.mro = .ref C :: .ref C2 :: excMro) (hdict : cd.hasDict = true)
    (hs : findIn K (.ref C) "__setattr__" = some (some (.builtin "object.__setattr__"))) (ht : takerIn K C name = some none) (I : ExcAt h C e tp mA) (hw : Within mA ns) (hsz : ns.length ≤ 100)
    (hq : ∀ h' tk', ExcAt h' C e tp (fun y => if y = name then some v else mA y) → (∀ b o, b ≠ e → (∀ o₀ dx, h.get? e = some o₀ → o₀.dict = some dx → b ≠ dx) → h.get? b = some o → h'.get? b = some o) →
      (∀ o₀ dx o₁, h'.get? e = some o₀ → o₀.dict = some dx → h.get? e = some o₁ → (o₁.dict = none → h.get? dx = none) ∧ ∀ d₁, o₁.dict = some d₁ → d₁ = dx) → Q () ⟨h', g, d, tk', os⟩) :
    wpAny (model prog w) A (setAttr (.ref e) name v) Q E ⟨h, g, d, t, os⟩ := by
  obtain ⟨o, he, hcls, hdat, hd⟩ := I
  have hno : notCls o = true := by unfold notCls; rw [hdat]
  obtain ⟨oc, odi, oda, osl⟩ := o
  dsimp only at hcls hdat hd
  subst hcls hdat
  rcases hd with ⟨hdn, hmA⟩ | ⟨dx, hdx, hne, hns⟩
  · subst hdn
    have I' : InstAt h e _ C none := ⟨he, rfl, hno, trivial⟩
    refine set_plain (s := ⟨h, g, d, t, os⟩) X I' hs (exc_osa (s := ⟨h, g, d, t + 1, os⟩) X I' hc hm ht fun b => ?_)
    refine wpAny_bind (wpAny_pure (wpAny_bind ?_))
    show wpAny _ _ (instanceDict e true) _ _ _
    unfold instanceDict
    refine wpAny_bind (wpAny_loadPart he ?_)
    dsimp only
    refine wpAny_bind ((looks_clsIn X hc).here ?_)
    rw [hdict]
    rw [if_neg (by decide), if_neg (by simp [typeHasDict])]
    have he₁ : (h.push { cls := .type "dict", data := .dict #[] }).get? e = _ := Heap.get?_push_of_some _ he
    have hes : e ≠ h.objs.size := Nat.ne_of_lt (Heap.lt_size he)
    refine wpAny_bind (wpAny_alloc' (wpAny_bind (wpAny_update' he₁ ?_)))
    refine wpAny_pure (a := some h.objs.size) ?_
    have hgd : ((h.push { cls := .type "dict", data := .dict #[] }).update e fun o => { cls := o.cls, dict := some h.objs.size, data := o.data, slots := o.slots }).get? h.objs.size = some { cls := .type "dict", data := .dict #[] } :=
      (Heap.get?_update_ne _ _ _ _ hes.symm).trans (Heap.get?_push_at rfl rfl)
    have hnd : ((h.push { cls := .type "dict", data := .dict #[] }).update e fun o => { cls := o.cls, dict := some h.objs.size, data := o.data, slots := o.slots }).Ns h.objs.size (fun _ => none) :=
      ⟨_, #[], _, hgd, rfl, fun e he => absurd he (by simp), fun _ => rfl⟩
    show wpAny _ _ (storeInDict h.objs.size (.str name _) name v) _ _ _
    unfold storeInDict newKeyGuard
    refine wpAny_bind (wpAny_pure (wpAny_bind (wpAny_nsSet1 (Heap.Ns1.of_empty hnd) fun h' hn' hs' => ?_)))
    obtain ⟨o2, es2, ep2, ho2, hd2, hc2⟩ := hn'.count (Within.cons name v Within.nil)
    refine wpAny_bind (wpAny_lookBehind ho2 (by rw [hd2]; exact pastItsLine_dict (Nat.le_trans hc2 (by rw [List.length_cons, List.length_nil, sizeLine_eq]; omega))) ?_)
    refine wpAny_pure ?_
    have he' : h'.get? e = some ⟨.ref C, some h.objs.size, .fields #[.ref tp, .none, .none, .none, .bool false, .none], osl⟩ := (hs'.2 e hes).trans (Heap.get?_update_self _ he₁ rfl)
    refine hq h' _ ⟨_, he', rfl, rfl, .inr ⟨_, rfl, hes.symm, ?_⟩⟩ (fun b ob hbe _ hb => ?_) (fun o₀ d₀ o₁ h₀ h₁ h₂ => ⟨fun _ => ?_, fun d₁ h₃ => ?_⟩)
    · obtain ⟨o', es, ep, e1, e2, e3, eu, e4⟩ := hn'
      exact ⟨o', es, ep, e1, e2, e3, eu, fun y => by rw [e4 y]; by_cases hy : y = name <;> simp [hy, hmA]⟩
    · exact (hs'.2 b (Nat.ne_of_lt (Heap.lt_size hb))).trans ((Heap.get?_update_ne _ _ _ _ hbe).trans (Heap.get?_push_of_some _ hb))
    · rw [he'] at h₀
      cases h₀
      cases h₁
      exact Heap.get?_none_of_le (Nat.le_refl _)
    · rw [he] at h₂
      cases h₂
      cases h₃
  · subst hdx
    obtain ⟨oD, esD, epD, hoD, hrest⟩ := id hns
    have I' : InstAt h e _ C (some oD) := ⟨he, rfl, hno, hoD⟩
    refine set_plain (s := ⟨h, g, d, t, os⟩) X I' hs (exc_osa (s := ⟨h, g, d, t + 1, os⟩) X I' hc hm ht fun b => ?_)
    refine wpAny_bind (wpAny_pure (wpAny_bind ?_))
    show wpAny _ _ (instanceDict e true) _ _ _
    unfold instanceDict
    refine wpAny_bind (wpAny_loadPart he ?_)
    dsimp only
    refine wpAny_bind ((looks_clsIn X hc).here ?_)
    rw [hdict]
    refine wpAny_pure (a := some dx) ?_
    show wpAny _ _ (storeInDict dx (.str name _) name v) _ _ _
    unfold storeInDict newKeyGuard
    refine wpAny_bind (wpAny_pure (wpAny_bind (wpAny_nsSet1 hns fun h' hn' hs' => ?_)))
    obtain ⟨o2, es2, ep2, ho2, hd2, hc2⟩ := hn'.count (Within.cons name v hw)
    refine wpAny_bind (wpAny_lookBehind ho2 (by rw [hd2]; exact pastItsLine_dict (Nat.le_trans hc2 (by rw [List.length_cons, sizeLine_eq]; omega))) ?_)
    refine wpAny_pure ?_
    have he' : h'.get? e = some ⟨.ref C, some dx, .fields #[.ref tp, .none, .none, .none, .bool false, .none], osl⟩ := (hs'.2 e (Ne.symm hne)).trans he
    refine hq h' _ ⟨_, he', rfl, rfl, .inr ⟨dx, rfl, hne, hn'⟩⟩ (fun b ob _ hbd hb => (hs'.2 b (hbd _ dx he rfl)).trans hb) (fun o₀ d₀ o₁ h₀ h₁ h₂ => ⟨fun h₃ => ?_, fun d₁ h₃ => ?_⟩)
    · rw [he] at h₂
      cases h₂
      cases h₃
    · rw [he'] at h₀
      rw [he] at h₂
      cases h₀
      cases h₂
      cases h₁
      cases h₃
      rfl
end
end Mine
end
-- X5
section
set_option maxRecDepth 100000
namespace Mine
abbrev excObj (tp : Addr) : Obj := { cls := .ref 51, data := .fields #[.ref tp, .none, .none, .none, .bool false, .none] }
/-- an exception with a dict of its own -/
structure ExcLike (o : Obj) (tp dx : Addr) : Prop where
  (cls : o.cls = .ref 51) (data : o.data = .fields #[.ref tp, .none, .none, .none, .bool false, .none]) (dict : o.dict = some dx)
/-- a dict object that maps names as mA says -/
def DictMap (o : Obj) (mA : Str → Option Value) : Prop := ∃ es ep, o.data = .dict es ep ∧ StrKeys es ∧ UniqKeys es ∧ ∀ name, nsFind es name = mA name
abbrev excCls : Obj := excClassObj (Str.ofString "AdaRaise") (Str.ofString "AdaRaise") 51 50 [.ref 31] [.ref 31, .type "Exception", .type "BaseException", .type "object"] true [] [] false none none (some (.ref 35)) none (some (.str (Str.ofString "AdaRaise") 218)) (some (.str (Str.ofString "AdaRaise") 226)) (some (.bool true)) "Exception.__new__"
theorem excCls_in {w : World} {h : Heap} (X : (hd.heap_39 w.params).In h) : h.get? 51 = some excCls := X 51 _ (by with_unfolding_all rfl)
section
variable {w : World} {A : Around} {E : Value → Shared → Prop} {s : Shared} {h₀ : Heap} {L e tp : Addr} {m : Str → Option Value} {news : List (Addr × Obj)}
theorem exc_make_K {rest : List Value} {Q : Value → Shared → Prop} (F : Fr h₀ L s.heap m) (N : News h₀ L s.heap news) (X₀ : (hd.heap_39 w.params).In h₀)
    (h : ∀ e tp h', Fr h₀ L h' m → News h₀ L h' ((e, excObj tp) :: news) → (∀ p ∈ news, p.1 ≠ e) → wpAny (model PG w) (A.under (.builtin "type.__call__" ⟨.ref 51 :: rest, []⟩)) (call (.ref 48) (.ref e :: rest)) (fun r s' => r = .none ∧ Q (.ref e) s') E { s with heap := h' })
    (hrest : rest.length ≤ sizeLine) : wpAny (model PG w) A (call (.ref 51) rest) Q E s := by
  have X := X₀.keeps F.keep
  obtain ⟨hp, g, d, t, os⟩ := s
  refine exc_call (fI := 48) (by decide) (by decide) (by decide) (excCls_in X) (looks_findIn X (by with_unfolding_all rfl)) (fun self => bind_fn X self (by with_unfolding_all rfl)) (fun h' e hm => ?_) hrest
  obtain ⟨tp, he, _, _⟩ := hm.there
  refine h e tp h' (F.keeps hm.keeps) (fun p hp => ?_) (fun p hp q => ?_)
  · rcases List.mem_cons.mp hp with rfl | hp
    · refine ⟨he, fun q => ?_, ?_⟩
      · obtain ⟨oL, es, ep, hL, _⟩ := F.ns
        have := hm.new
        dsimp only at q
        rw [q] at this
        rw [this] at hL
        cases hL
      · cases hq : h₀.get? e with
        | none => rfl
        | some o => have := F.keep e o hq; rw [hm.new] at this; cases this
    · exact ⟨hm.keeps _ _ (N p hp).1, (N p hp).2⟩
  · have h1 := (N p hp).1
    rw [q, hm.new] at h1
    cases h1
theorem exc_init_K {v : Value} {Q : Value → Shared → Prop} (F : Fr h₀ L s.heap m) (N : News h₀ L s.heap ((e, excObj tp) :: news)) (hne : ∀ p ∈ news, p.1 ≠ e) (X₀ : (hd.heap_39 w.params).In h₀)
    (h : ∀ tp' h', Fr h₀ L h' m → News h₀ L h' ((e, excObj tp') :: news) → Q .none { s with heap := h' }) :
    wpAny (model PG w) A (call (.builtin "Exception.__init__") [.ref e, v]) Q E s := by
  have X := X₀.keeps F.keep
  obtain ⟨hp, g, d, t, os⟩ := s
  have he := (N _ (.head _)).1
  refine exc_init (by decide) (excCls_in X) he ?_
  have F1 := F.push { cls := .type "tuple", data := .seq #[v] }
  have N0 := News.push F N { cls := .type "tuple", data := .seq #[v] }
  have N1 : News h₀ L (hp.push { cls := .type "tuple", data := .seq #[v] }) ((e, excObj tp) :: news) := fun p hp => N0 p (.tail _ hp)
  obtain ⟨F2, N2⟩ := news_upd (pre := []) (f := Obj.mapFields (·.setIfInBounds 0 (.ref hp.objs.size))) (o' := excObj hp.objs.size) F1 N1 (fun _ h => nomatch h) hne rfl rfl
  exact h _ _ F2 N2
theorem fresh_ne {h h' : Heap} {b : Addr} {o : Obj} (F : Fr h₀ L h m) (F' : Fr h₀ L h' m) (hf : h.get? b = none) (hb : h'.get? b = some o) : News h₀ L h' [(b, o)] := fun p hp => by
  rw [List.mem_singleton.mp hp]
  refine ⟨hb, fun q => ?_, ?_⟩
  · obtain ⟨oL, es, ep, hL, _⟩ := F.ns
    dsimp only at q
    rw [q, hL] at hf
    cases hf
  · cases hq : h₀.get? b with
    | none => rfl
    | some o => have := F.keep b o hq; rw [hf] at this; cases this
theorem exc_set1_K {name : Str} {v : Value} {Q : Unit → Shared → Prop} (F : Fr h₀ L s.heap m) (N : News h₀ L s.heap ((e, excObj tp) :: news)) (hne : ∀ p ∈ news, p.1 ≠ e) (X₀ : (hd.heap_39 w.params).In h₀) (ht : takerIn (hd.heap_39 w.params) 51 name = some none)
    (h : ∀ (dx : Nat) oe od h' tk', Fr h₀ L h' m → News h₀ L h' ((e, oe) :: (dx, od) :: news) → ExcLike oe tp dx → DictMap od (fun y => if y = name then some v else none) → dx ≠ e → (∀ p ∈ news, p.1 ≠ dx) → Q () { s with heap := h', toks := tk' }) :
    wpAny (model PG w) A (setAttr (.ref e) name v) Q E s := by
  have X := X₀.keeps F.keep
  obtain ⟨hp, g, d, t, os⟩ := s
  have he := (N _ (.head _)).1
  refine exc_store (K := hd.heap_39 w.params) (C := 51) (C2 := 31) (cd := _) (ns := []) X (by with_unfolding_all rfl) (by with_unfolding_all rfl) (by with_unfolding_all rfl) (by with_unfolding_all rfl) ht ⟨_, he, rfl, rfl, .inl ⟨rfl, fun _ => rfl⟩⟩ (mA := fun _ => none) ?hw (by simp) (fun h' tk' I' hk hfr => ?_)
  case hw => exact Within.nil
  obtain ⟨oe, he', hcls, hdat, ⟨hno, hm⟩ | ⟨dx, hdx, hxe, hns⟩⟩ := I'
  · have := hm name
    dsimp only at this
    rw [if_pos rfl] at this
    cases this
  · obtain ⟨od, es, ep, hod, hdd, hsk, hu, hfind⟩ := hns
    have hfree : hp.get? dx = none := (hfr _ dx _ he' hdx he).1 rfl
    have kall : ∀ b o, b ≠ e → hp.get? b = some o → h'.get? b = some o := fun b o hb h1 => hk b o hb (fun o₀ d₀ h2 h3 => by rw [he] at h2; cases h2; cases h3) h1
    have F' : Fr h₀ L h' m := by
      obtain ⟨⟨oL, es, ep, hL, r⟩, hkeep, hab⟩ := F
      refine ⟨⟨oL, es, ep, kall L oL (fun q => (N _ (.head _)).2.1 q.symm) hL, r⟩, fun b o hb => kall b o (fun q => ?_) (hkeep b o hb), hab⟩
      have := (N _ (.head _)).2.2
      dsimp only at this
      rw [q, this] at hb
      cases hb
    refine h dx oe od h' tk' F' (fun p hp => ?_) ⟨hcls, hdat, hdx⟩ ⟨es, ep, hdd, hsk, hu, hfind⟩ hxe (fun p hp q => ?_)
    · rcases List.mem_cons.mp hp with rfl | hp
      · exact ⟨he', (N _ (.head _)).2⟩
      rcases List.mem_cons.mp hp with rfl | hp
      · exact fresh_ne F F' hfree hod _ (.head _)
      · exact ⟨kall _ _ (hne p hp) (N p (.tail _ hp)).1, (N p (.tail _ hp)).2⟩
    · have h1 := (N p (.tail _ hp)).1
      rw [q, hfree] at h1
      cases h1
theorem exc_set2_K {name : Str} {v : Value} {dx : Nat} {oe od : Obj} {mA : Str → Option Value} {ns : List Str} {Q : Unit → Shared → Prop} (F : Fr h₀ L s.heap m) (N : News h₀ L s.heap ((e, oe) :: (dx, od) :: news)) (hne : ∀ p ∈ news, p.1 ≠ e) (hnd : ∀ p ∈ news, p.1 ≠ dx) (hxe : dx ≠ e) (hl : ExcLike oe tp dx) (hm : DictMap od mA) (hw : Within mA ns) (hsz : ns.length ≤ 100)
    (X₀ : (hd.heap_39 w.params).In h₀) (ht : takerIn (hd.heap_39 w.params) 51 name = some none)
    (h : ∀ oe' od' h' tk', Fr h₀ L h' m → News h₀ L h' ((e, oe') :: (dx, od') :: news) → ExcLike oe' tp dx → DictMap od' (fun y => if y = name then some v else mA y) → Q () { s with heap := h', toks := tk' }) :
    wpAny (model PG w) A (setAttr (.ref e) name v) Q E s := by
  have X := X₀.keeps F.keep
  obtain ⟨hp, g, d, t, os⟩ := s
  have he := (N _ (.head _)).1
  have hod := (N _ (.tail _ (.head _))).1
  obtain ⟨es, ep, hdd, hsk, hu, hfind⟩ := hm
  refine exc_store (K := hd.heap_39 w.params) (C := 51) (C2 := 31) (cd := _) (ns := ns) X (by with_unfolding_all rfl) (by with_unfolding_all rfl) (by with_unfolding_all rfl) (by with_unfolding_all rfl) ht ⟨_, he, hl.cls, hl.data, .inr ⟨dx, hl.dict, hxe, ⟨_, es, ep, hod, hdd, hsk, hu, hfind⟩⟩⟩ hw hsz (fun h' tk' I' hk hfr => ?_)
  obtain ⟨oe', he', hcls, hdat, ⟨hno, hm⟩ | ⟨dx', hdx, hxe', hns⟩⟩ := I'
  · have := hm name
    dsimp only at this
    rw [if_pos rfl] at this
    cases this
  · obtain rfl : dx = dx' := (hfr _ dx' _ he' hdx he).2 dx hl.dict
    obtain ⟨od', es', ep', hod', hdd', hsk', hu', hfind'⟩ := hns
    have kall : ∀ b o, b ≠ e → b ≠ dx → hp.get? b = some o → h'.get? b = some o := fun b o hb hb2 h1 => hk b o hb (fun o₀ d₀ h2 h3 => by rw [he] at h2; cases h2; rw [hl.dict] at h3; cases h3; exact hb2) h1
    have F' : Fr h₀ L h' m := by
      obtain ⟨⟨oL, es, ep, hL, r⟩, hkeep, hab⟩ := F
      refine ⟨⟨oL, es, ep, kall L oL (fun q => (N _ (.head _)).2.1 q.symm) (fun q => (N _ (.tail _ (.head _))).2.1 q.symm) hL, r⟩, fun b o hb => kall b o (fun q => ?_) (fun q => ?_) (hkeep b o hb), hab⟩
      · have := (N _ (.head _)).2.2
        dsimp only at this
        rw [q, this] at hb
        cases hb
      · have := (N _ (.tail _ (.head _))).2.2
        dsimp only at this
        rw [q, this] at hb
        cases hb
    refine h oe' od' h' tk' F' (fun p hp => ?_) ⟨hcls, hdat, hdx⟩ ⟨es', ep', hdd', hsk', hu', hfind'⟩
    · rcases List.mem_cons.mp hp with rfl | hp
      · exact ⟨he', (N _ (.head _)).2⟩
      rcases List.mem_cons.mp hp with rfl | hp
      · exact ⟨hod', (N _ (.tail _ (.head _))).2⟩
      · exact ⟨kall _ _ (hne p hp) (hnd p hp) (N p (.tail _ (.tail _ hp))).1, (N p (.tail _ (.tail _ hp))).2⟩
end
end Mine
end
-- X6
section
namespace Mine
/-- a dict object that maps names as mA says, as a namespace is read -/
def NsOf (o : Obj) (mA : Str → Option Value) : Prop := ∃ es ep, o.data = .dict es ep ∧ StrKeys es ∧ ∀ name, nsFind es name = mA name
theorem NsOf.slots {o : Obj} {mA : Str → Option Value} (x : NsOf o mA) (sl : Array (Option Value)) : NsOf { o with slots := sl } mA := x
theorem NsOf.noFields {o : Obj} {mA : Str → Option Value} (x : NsOf o mA) : ∀ vs, o.data ≠ .fields vs := fun vs q => by
  obtain ⟨es, ep, h, _⟩ := x
  rw [h] at q
  cases q
/-- the program's own exception is on its way: AdaRaise, its word in a dict of its own -/
def RaisedAda (B : Heap) (l : List Env) (e : Addr) (h : Heap) : Prop :=
  ∃ a0 oe dx mA t od, Heap.FlyingW B l e (.ref 51) a0 h ∧ h.get? e = some oe ∧ oe.dict = some dx ∧ h.get? dx = some od ∧ NsOf od mA ∧ mA "word" = some (.str "constraint_error" t) ∧ B.get? dx = none ∧ ∀ env ∈ l, env.frame ≠ some dx

/-- a contract of a call that comes back or raises AdaRaise -/
def CSpecE (w : World) (dpN unN : Nat) (f : Addr) (vs : List Value) (news : List (Addr × Obj)) (Post : Value → List (Addr × Obj) → Prop) (Exc : Prop) : Prop :=
  ∀ (mean : ExcName → Option Value) (mg mb : Str → Option Value) (dp un : Nat) (gd : Option (List Code)) (cn : Str) (cs : Scope) (a : Addr) (ccd : Value) (cl : List (Str × Addr)) (outer : List Env) (A₀ : Around) (base h₀ : Heap) (L : Addr) (m : Str → Option Value) (s : Shared) (Q E : Value → Shared → Prop),
    Below A₀ base outer h₀ → Fr h₀ L s.heap m → (hd.heap_39 w.params).In h₀ → News h₀ L s.heap news → Top VW (looseW VW []) mean mg mb h₀ → cs.kind = .function →
    dp + dpN < recursionLimit → un + unN < cLine →
    (∀ r news' h' tk', Fr h₀ L h' m → News h₀ L h' news' → Post r news' → Q r { s with heap := h', toks := tk' }) →
    (∀ e h' tk' B g, Exc → RaisedAda B (envX cn cs L a ccd cl :: outer) e h' → base.StaysIn B → Fr h₀ L g m → g.UpToSlots h' → E (.ref e) { s with heap := h', toks := tk' }) →
      wpAny (model PG w) (ktrTop dp un gd cn cs L a ccd cl outer) (call (.ref f) vs) Q E s

theorem leave_ada {M : Model} {A : Around} {E : Value → Shared → Prop} {s : Shared} {B : Heap} {env : Env} {outer : List Env} {L e : Addr} {Q : Unit → Shared → Prop}
    (hfr : A.frames = some (env :: outer)) (hf : env.frame = some L) (R : RaisedAda B (env :: outer) e s.heap) (hQ : ∀ h', RaisedAda B outer e h' → s.heap.UpToSlots h' → Q () { s with heap := h' }) :
    wpAny M A (leaving env (.ref e)) Q E s := by
  obtain ⟨a0, oe, dx, mA, t, od, hfl, he, hdx, hod, hns, hw, hB, hfd⟩ := R
  refine leave_onD hfr hf hfl fun h' hfl' U D => ?_
  obtain ⟨oe', he', hd'⟩ := D e oe he
  obtain ⟨sl, hod'⟩ := U dx od hod hns.noFields
  exact hQ h' ⟨a0, oe', dx, mA, t, _, hfl', he', hd'.trans hdx, hod', hns.slots sl, hw, hB, fun env hm => hfd env (.tail _ hm)⟩ U
/-- a goal laid by -/
structure Held (P : Prop) : Prop where
  out : P
theorem DictMap.ns {od : Obj} {mA : Str → Option Value} (hm : DictMap od mA) : NsOf od mA := let ⟨es, ep, a, b, _, c⟩ := hm; ⟨es, ep, a, b, c⟩
theorem raise_own {M : Model} {A : Around} {E : Value → Shared → Prop} {s : Shared} {env : Env} {x : Expr} {pos : Pos} {Q : Flow → Shared → Prop} (hh : A.handled = none)
    (h : wpAny M A (eval x env) (fun v s₁ => Held (∃ a ob vs, v = .ref a ∧ s₁.heap.get? a = some ob ∧ ob.cls = .ref 51 ∧ ob.data = .fields vs ∧ vs[1]? = some .none ∧ s₁.heap.get? 51 = some excCls ∧ E (.ref a) s₁)) E s) : wpAny M A (exec (.Raise (some x) none pos) env) Q E s := by
  show wpAny M A (do standAt pos; raiseStmt env (some (do let v ← eval x env; standAt pos; pure v)) none) Q E s
  refine wpAny_bind (wpAny_standAt ?_)
  unfold raiseStmt
  dsimp only
  refine wpAny_bind (wpAny_bind (wpAny_mono h (fun v s₁ h₁ => wpAny_bind (wpAny_standAt (wpAny_pure ?_))) fun _ _ x => x))
  obtain ⟨a, ob, vs, rfl, he, hcls, hd, h1, hC, hE⟩ := h₁.out
  obtain ⟨hp, g, d, tk, os⟩ := s₁
  obtain ⟨oc, od, oda, osl⟩ := ob
  dsimp only at hcls hd he hC
  subst hcls hd
  have hcB : (Value.ref 51 :: [.ref 31, .type "Exception", .type "BaseException", .type "object"]).contains (.type "BaseException") = true := by decide
  repeat (first | with_reducible refine wpAny_loadPart_at he ?_ | with_reducible refine wpAny_loadPart_at hC ?_ | (with_reducible refine wpAny_isSubtype_exc hC ?_; rw [hcB]) | wp_step)
  rw [h1]
  refine wpAny_pure ?_
  rw [if_neg (by decide)]
  exact wpAny_pure (wpAny_raiseNew_none hh hE)
set_option maxRecDepth 100000 in
theorem exc_getm {w : World} {A : Around} {E : Value → Shared → Prop} {s : Shared} {K : Frag} {pl : Sem Bool} {Q : Value × List Value → Shared → Prop} (X : K.In s.heap)
    (e : findCls K (.type "Exception") (.type "type") (PySem.Str.ofString "__init__") = some (.val (.builtin "Exception.__init__"))) (h : Q (.builtin "Exception.__init__", []) { s with toks := s.toks + 1 }) :
    wpAny (model PG w) A (getMethod (.type "Exception") (PySem.Str.ofString "__init__") pl) Q E s := by
  have hstub : opaqueClassAbove (.type "Exception") = pure none := by unfold opaqueClassAbove; dsimp only; rw [show Manifest.isStub "Exception" = false by decide +kernel]; rfl
  have ht : typeOf (.type "Exception") = pure (.type "type") := by first | rfl | kernel_rfl
  have L0 : Looks (model PG w) s.heap (typeOf (.type "Exception")) (.type "type") := Looks.of_pure ht
  have hg : findIn K (.type "type") "__getattribute__" = some (some (.builtin "type.__getattribute__")) := type_tga
  have LO : Looks (model PG w) s.heap (opaqueClassAbove (.type "Exception")) none := Looks.of_pure hstub
  unfold getMethod specialOf
  refine wpAny_bind (wpAny_bind (L0.here ((looks_findIn X hg).here ?_)))
  dsimp only
  rw [if_pos canon_tga]
  refine wpAny_bind (wpAny_mono (Q := fun v => Q (v, [])) (E := E) ?_ (fun _ _ z => wpAny_pure z) fun _ _ z => z)
  refine cls_open X LO L0 hg (looks_hook X (r := none) (by rfl)) (by show subIn K _ _ = _; rfl) e ?_
  show wpAny _ _ (ret (Value.builtin "Exception.__init__")) _ _ _
  refine wpAny_pure ?_
  show wpAny _ _ (handedOut _) _ _ _
  rw [handedOut_of (by decide +kernel)]
  exact wpAny_pure h
theorem within1 {a : Str} {v : Value} : Within (fun y => if y = a then some v else none) [a] := .cons a v .nil
theorem within2 {a b : Str} {v u : Value} : Within (fun y => if y = b then some u else if y = a then some v else none) [b, a] := .cons b u within1
theorem within3 {a b c : Str} {v u z : Value} : Within (fun y => if y = c then some z else if y = b then some u else if y = a then some v else none) [c, b, a] := .cons c z within2
theorem leave_first {M : Model} {A : Around} {E : Value → Shared → Prop} {s : Shared} {base g : Heap} {outer : List Env} {L a e dx tp : Addr} {m mA : Str → Option Value} {name : Str} {scope : Scope} {cd : Value} {oe od : Obj} {t : Tok} {Q : Unit → Shared → Prop}
    (K : Below A base outer g) (F : Fr g L s.heap m) (he : s.heap.get? e = some oe) (hge : g.get? e = none) (hl : ExcLike oe tp dx) (hod : s.heap.get? dx = some od) (hgd : g.get? dx = none) (hns : NsOf od mA) (hw : mA "word" = some (.str "constraint_error" t)) (hk : scope.kind = .function)
    (hQ : ∀ h' B, RaisedAda B outer e h' → base.StaysIn B → g.UpToSlots h' → Q () { s with heap := h' }) :
    wpAny M (A.deeper (envOf name scope L a cd)) (leaving (envOf name scope L a cd) (.ref e)) Q E s := by
  have K' := K.push (name := name) (a := a) (cd := cd) F hk
  have hin : ∀ env ∈ (envOf name scope L a cd :: outer), ∀ b, env.frame = some b → b ∈ e :: dx :: (envOf name scope L a cd :: outer).filterMap (·.frame) := fun env he b hb => .tail _ (.tail _ (List.mem_filterMap.mpr ⟨env, he, hb⟩))
  have hb0 : ∀ {b : Addr}, g.get? b = none → base.get? b = none := fun {b} hb => by
    cases q : base.get? b with
    | none => rfl
    | some o => have := K.stays b o q; rw [hb] at this; cases this
  have st : base.StaysIn (hideAll s.heap (e :: dx :: (envOf name scope L a cd :: outer).filterMap (·.frame))) := fun b o q => hideAll_get _ (K'.stays b o q) fun hm => by
    rcases List.mem_cons.mp hm with rfl | hm
    · rw [hb0 hge] at q; cases q
    rcases List.mem_cons.mp hm with rfl | hm
    · rw [hb0 hgd] at q; cases q
    · rw [(K'.frames.mem hm).1] at q; cases q
  have hfd : ∀ env ∈ outer, env.frame ≠ some dx := fun env hm hf => by
    obtain ⟨L₁, o₁, hf₁, ho₁⟩ := funFrames_in K.frames env hm
    rw [hf₁] at hf
    rw [Option.some.inj hf, hgd] at ho₁
    cases ho₁
  have hfirst : ((#[.ref tp, .none, .none, .none, .bool false, .none] : Array Value))[0]? = some (.ref tp) := rfl
  refine leave_firstD (base := hideAll s.heap (e :: dx :: (envOf name scope L a cd :: outer).filterMap (·.frame))) K'.stack (funFrames_hide K'.frames hin) rfl he (fun b o q => of_hideAll _ q) (hideAll_none _ (.head _)) hl.data rfl hfirst fun h' hfl U D => ?_
  obtain ⟨oe', he', hd'⟩ := D e oe he
  obtain ⟨sl, hod'⟩ := U dx od hod hns.noFields
  rw [hl.cls] at hfl
  exact hQ h' _ ⟨_, oe', dx, mA, t, _, hfl, he', hd'.trans hl.dict, hod', hns.slots sl, hw, hideAll_none _ (.tail _ (.head _)), hfd⟩ st ((Heap.UpToSlots.of_keeps F.keep).trans U)
section
local macro_rules | `(tactic| k_all) => `(tactic| assumption)
local macro_rules | `(tactic| k_room) => `(tactic| ktr_room)
set_option maxRecDepth 100000 in
set_option maxHeartbeats 8000000 in
theorem raise_spec (w : World) (x : Str) (t : Tok) (news : List (Addr × Obj)) : CSpecE w 10 120 60 [.str x t] news (fun _ _ => False) True := by
  k_with_none
  k_with "exec Raise some none" => (k_here; k_dflt (refine raise_own rfl ?_))
  k_with "call ref" => (k_here; (with_reducible show wpAny _ _ (call (Value.ref 51) _) _ _ _); k_dflt (refine exc_make_K (by k_asm) (by k_asm) (by k_asm) ?_ (by (simp only [List.length_cons, List.length_nil]; rw [sizeLine_eq]; omega))); intro e'ₖ tp'ₖ h'ₖ F'ₖ N'ₖ ne'ₖ)
  k_with "call builtin:Exception.__init__" => (k_here; k_dflt (refine exc_init_K (by k_asm) (by k_asm) (by assumption) (by k_asm) ?_); intro tp'ₖ h'ₖ F'ₖ N'ₖ)
  k_with "getMethod type:Exception" => (k_here; k_dflt (refine exc_getm (Frag.In.keeps (by k_asm) (Fr.keep (by k_asm))) (by with_unfolding_all rfl) ?_))
  k_with "setAttr ref" => (k_here; k_dflt (refine exc_set1_K (by k_asm) (by k_asm) (by assumption) (by k_asm) (by with_unfolding_all rfl) ?_); intro dx'ₖ oe'ₖ od'ₖ h'ₖ tk'ₖ F'ₖ N'ₖ hl'ₖ hm'ₖ nx'ₖ nd'ₖ)
  k_with "setAttr ref" => (k_here; k_dflt (refine exc_set2_K (by k_asm) (by k_asm) (by assumption) (by assumption) (by assumption) (by assumption) (by assumption) (by first | exact within1 | exact within2 | exact within3) (by (simp only [List.length_cons, List.length_nil]; omega)) (by k_asm) (by with_unfolding_all rfl) ?_); intro oe'ₖ od'ₖ h'ₖ tk'ₖ F'ₖ N'ₖ hl'ₖ hm'ₖ)
  have hseed : Seed PySem.Challenge.rw_pp0004_01 hd.heap_39 := by k_fill; trivial
  clear hseed
  unfold CSpecE
  intro mean mg mb dp un gd cn cs a ccd cl outer A₀ base h₀ L m s Q E B F X N T hk hdp hun hret hretE
  refine wpAny_call ?_
  k_dflt ktr_enter
  k_steps
  rename ExcLike _ _ _ => hl9
  rename DictMap _ _ => hm9
  have N9 := ‹News _ _ _ (_ :: _ :: news)›
  rename Fr h₀ L _ m => FG9
  refine Held.mk ⟨_, _, _, rfl, (N9 _ (.head _)).1, hl9.cls, hl9.data, rfl, excCls_in (Frag.In.keeps (by k_asm) (Fr.keep (by k_asm))), ?_⟩
  exact leave_first (by assumption) (by k_asm) (N9 _ (.head _)).1 (N9 _ (.head _)).2.2 hl9 (N9 _ (.tail _ (.head _))).1 (N9 _ (.tail _ (.head _))).2.2 hm9.ns ((if_neg (by decide)).trans (if_pos rfl)) rfl fun h' B9 R9 st9 U9 => hretE _ _ _ _ _ trivial R9 st9 (by assumption) U9
end
end Mine
end
theorem Mine.calm_X6 : True := by (w_top off); exact True.intro
-- C7
section
namespace Mine
abbrev rvDict (P : Params) (t1 t2 : Tok) (t d : Addr) : Obj := dictOf [⟨PyData.keyHash P "type", .str "type" t1, .ref t⟩, ⟨PyData.keyHash P "fields", .str "fields" t2, .ref d⟩] 2
theorem notin_led {w : World} {A : Around} {E : Value → Shared → Prop} {s : Shared} {h₀ : Heap} {L d : Addr} {news : List (Addr × Obj)} {o : Obj} {kvs : List (Str × Value)} {k : Str} {t : Tok} {Q : Value → Shared → Prop} (N : News h₀ L s.heap news) (hp : (d, o) ∈ news) (hd : o.IsDictOf (strKind PG w) kvs) (lo : (d == sysModules) = false) {v : Option Value} (hb : valueAt kvs k = v) (h : Q (.bool (!v.isSome)) { s with toks := s.toks + 1 }) :
    wpAny (model PG w) A (compareOp .NotIn (.str k t) (.ref d)) Q E s := wpAny_notIn_of (strKind_is _ _ _ _) lo (kda_dict N hp hd).mapOf (by rw [hb]; exact h)
theorem news_gen3 {h₀ h : Heap} {L a b c : Addr} {oa ob oc : Obj} {l : List (Addr × Obj)} (N : News h₀ L h ((a, oa) :: (b, ob) :: (c, oc) :: l)) :
    ∃ (a' b' c' : Nat) (oa' ob' oc' : Obj), a' = a ∧ b' = b ∧ c' = c ∧ oa' = oa ∧ ob' = ob ∧ oc' = oc ∧ News h₀ L h ((a', oa') :: (b', ob') :: (c', oc') :: l) := ⟨a, b, c, oa, ob, oc, rfl, rfl, rfl, rfl, rfl, rfl, N⟩
/-- what the loop over the components has gathered so far -/
def Gathered (kvs fk : List (Str × Value)) (kd : List Str) : Prop := fk.map (·.1) = kd ∧ ∀ p ∈ fk, valueAt kvs p.1 = some p.2
/-- nothing is missing, nothing is unknown -/
def AggOk (kvs : List (Str × Value)) (ks : List Str) : Prop := (∀ k ∈ ks, valueAt kvs k ≠ none) ∧ ks.length = kvs.length
theorem Gathered.snoc {kvs fk : List (Str × Value)} {kd : List Str} {k : Str} {x : Value} (h : Gathered kvs fk kd) (hx : valueAt kvs k = some x) : Gathered kvs (fk ++ [(k, x)]) (kd ++ [k]) := by
  refine ⟨by simp [h.1], fun p hp => ?_⟩
  rcases List.mem_append.mp hp with hp | hp
  · exact h.2 p hp
  · rw [List.mem_singleton.mp hp]; exact hx
theorem agg_fin {h₀ h : Heap} {L : Addr} {a b c d e : Addr × Obj} {news : List (Addr × Obj)} (N : News h₀ L h (a :: b :: c :: d :: e :: news)) : News h₀ L h (a :: b :: d :: ([c, e] ++ news)) := fun p hp => N p (by
  simp only [List.cons_append, List.nil_append, List.mem_cons] at hp ⊢
  rcases hp with h | h | h | h | h | h <;> simp only [h, true_or, or_true])
section
local macro_rules | `(tactic| k_mem) => `(tactic| assumption)
local macro_rules | `(tactic| k_get) => `(tactic| assumption)
local macro_rules | `(tactic| k_room) => `(tactic| ktr_room)
local macro_rules | `(tactic| k_all) => `(tactic| assumption)
set_option maxRecDepth 100000 in
set_option maxHeartbeats 8000000 in
theorem agg_spec (w : World) (news : List (Addr × Obj)) (t dt lc ld gd0 : Nat) (go : Obj) (es : List DictEntry) (n ec ed : Nat) (cs0 : List Value) (ks : List Str) (kvs : List (Str × Value))
    (h1 : (t, instObj 204 dt) ∈ news) (h2 : (dt, dictOf es n) ∈ news) (h3 : (lc, listOf cs0.toArray ec) ∈ news) (h4 : (ld, listOf #[] ed) ∈ news) (g1 : getL "components" es = some (some (.ref lc))) (g2 : getL "variant" es = some (some .none)) (g3 : getL "discriminants" es = some (some (.ref ld))) (hl : cs0.length ≤ 100)
    (hr : RowsIn news cs0 ks) (h5 : (gd0, go) ∈ news) (hg : go.IsDictOf (strKind PG w) kvs) (lo : (gd0 == sysModules) = false) (hkl : kvs.length ≤ 100) (hnd : ks.Nodup) :
    CSpecE w 16 200 180 [.ref t, .ref gd0] news (fun r news' => ∃ x dx d o fk tl t1 t2, r = .ref x ∧ news' = (x, instObj 119 dx) :: (dx, rvDict w.params t1 t2 t d) :: (d, o) :: (tl ++ news) ∧ o.IsDictOf (strKind PG w) fk ∧ Gathered kvs fk ks ∧ AggOk kvs ks ∧ Apart news ((x, instObj 119 dx) :: (dx, rvDict w.params t1 t2 t d) :: (d, o) :: tl) ∧ (d == sysModules) = false) (¬ AggOk kvs ks) := by
  k_with_none
  k_with "call ref" => (k_here; (with_reducible show wpAny _ _ (call (Value.ref _) [Value.ref _, Value.ref _]) _ _ _); k_dflt (refine' (present_spec _ _ _ _ _ _ _ _ _ _ ?p1ₖ ?p2ₖ ?p3ₖ ?p4ₖ ?p5ₖ ?p6ₖ) _ _ _ _ _ _ _ _ _ _ _ _ _ _ _ _ _ _ _ _ ?Bₖ ?Fₖ ?Xₖ ?Nₖ ?Tₖ ?kkₖ ?ddₖ ?uuₖ ?_; (case Fₖ => k_asm); (case Nₖ => k_asm); (case p1ₖ => k_mem); (case p2ₖ => k_mem); (case p4ₖ => assumption); (case p5ₖ => assumption); (case p3ₖ => k_mem); (case p6ₖ => assumption); (case Bₖ => k_asm); (case Xₖ => k_asm); (case Tₖ => k_asm); (case kkₖ => first | exact rfl | assumption); (case ddₖ => ktr_room); (case uuₖ => ktr_units)); intro r'ₖ n'ₖ h'ₖ tk'ₖ F'ₖ N'ₖ hp'ₖ; obtain ⟨g'ₖ, e'ₖ, er'ₖ, en'ₖ, l1ₖ⟩ := hp'ₖ; subst er'ₖ; subst en'ₖ; (try dsimp only at N'ₖ); (try k_sweep))
  k_with "exec For Tuple Attribute cons nil" => (k_here; (rename Fr _ _ _ _ => lF'ₖ); (with_unfolding_all refine' For_turns lF'ₖ ?_; k_whole))
  k_with "exec For Tuple Call cons nil" => (k_here; (rename Fr _ _ _ _ => lF'ₖ); (with_unfolding_all refine' For_turns lF'ₖ ?_; k_whole))
  k_with "call ref" => (k_here; (with_reducible show wpAny _ _ (call (Value.ref _) [Value.str _ _]) _ _ _); k_dflt (refine' (raise_spec _ _ _ _) _ _ _ _ _ _ _ _ _ _ _ _ _ _ _ _ _ _ _ _ ?Bₖ ?Fₖ ?Xₖ ?Nₖ ?Tₖ ?kkₖ ?ddₖ ?uuₖ (fun _ _ _ _ _ _ hp => hp.elim) ?_; (case Fₖ => k_asm); (case Nₖ => k_asm); (case Bₖ => k_asm); (case Xₖ => k_asm); (case Tₖ => k_asm); (case kkₖ => first | exact rfl | assumption); (case ddₖ => ktr_room); (case uuₖ => ktr_units)); intro e'ₖ h'ₖ tk'ₖ B2'ₖ g2'ₖ _ R'ₖ hB'ₖ F2'ₖ U'ₖ)
  k_with "leaving ref" => (k_dflt (refine' leave_ada rfl rfl ?Rₖ ?_; (case Rₖ => assumption)); intro h'ₖ R2'ₖ U2'ₖ)
  k_with "compareOp NotIn str ref" => (k_here; k_dflt (refine' notin_led ?nNₖ ?nMₖ ?nDₖ ?nLₖ ?nVₖ ?_; (case nNₖ => k_asm); (case nMₖ => k_mem); (case nDₖ => assumption); (case nLₖ => assumption); (case nVₖ => assumption)); (try simp only [Option.isSome, Bool.not_true, Bool.not_false]))
  k_with "eval Name" => (k_here; k_dflt (refine' PyProof.Rows.ld ?k1ₖ ?k2ₖ ?_; (case k1ₖ => k_asm); (case k2ₖ => first | exact rfl | assumption | ((try dsimp only); (repeat (first | exact if_pos rfl | assumption | refine (if_neg (by decide)).trans ?_)))); k_whole))
  k_with "subscriptTail" => (k_here; (with_reducible show wpAny _ _ (subscriptTail _ _ (Value.ref _) (Value.str _ _)) _ _ _); k_dflt (refine' kda_item (knd := PySem.strKind _ _) ?aNₖ ?aMₖ ?aDₖ (strKind_is _ _ _ _) ?aVₖ ?_; (case aNₖ => k_asm); (case aMₖ => k_mem); (case aDₖ => assumption); (case aVₖ => assumption)))
  k_with "setItem ref str" => (k_here; k_dflt (refine' kda_set (knd := PySem.strKind _ _) ?Fₖ ?Nₖ ?Uₖ ?dₖ (strKind_is _ _ _ _) ?zₖ ?_; (case Fₖ => k_asm); (case Nₖ => k_asm); (case Uₖ => k_updF); (case dₖ => assumption); (case zₖ => (rw [sizeLine_eq]; omega))); intro h'ₖ o'ₖ F'ₖ N'ₖ hd'ₖ; (try dsimp only at N'ₖ))
  k_with "call builtin:len" => (k_here; k_dflt (refine' kda_len (knd := PySem.strKind _ _) ?aNₖ ?aMₖ ?aDₖ ?aLₖ ?aFₖ ?_; (case aNₖ => k_asm); (case aMₖ => k_mem); (case aDₖ => assumption); (case aLₖ => assumption); (case aFₖ => omega)))
  have hseed : Seed PySem.Challenge.rw_pp0004_01 hd.heap_39 := by k_fill; trivial
  clear hseed
  unfold CSpecE
  intro mean mg mb dp un gd cn cs a ccd cl outer A₀ base h₀ L m s Q E B F X N T hk hdp hun hret hretE
  refine wpAny_call ?_
  k_dflt ktr_enter
  k_steps
  rename Fr _ _ _ _ => F1
  rename News _ _ _ _ => N1
  obtain ⟨m₀, em₀, F2⟩ := Fr.gen F1
  obtain ⟨ledg, eledg, N2⟩ : ∃ l, l = _ ∧ News _ _ _ l := ⟨_, rfl, N1⟩
  refine for_list_inv (vs := []) (n := ed) (fun r m nw => r = [] ∧ m = m₀ ∧ nw = ledg) rfl F2 N2 (by rw [eledg]; exact .tail _ h4) ⟨rfl, rfl, rfl⟩ (fun I v r m nw oI h tk hJ => by cases hJ.1) ?_
  rintro m nw h tk ⟨_, rfl, rfl⟩ F3 N3
  subst eledg
  subst em₀
  clear F1 F2 N1 N2
  dsimp only
  k_steps
  rename PyProof.V.FlatPairs PyData.str _ [] => hf9
  cases hf9
  rename Obj.IsDictOf (strKind PG w) _ [] => hfd
  rename Fr _ _ _ _ => F1
  rename News _ _ _ ((_, listOf cs0.toArray _) :: _) => N1
  rename (∀ p ∈ _ :: _ :: news, _) => l3
  rename (_ ∧ AllLt _ news) => l2
  rename (∀ p ∈ news, _) => l1
  obtain ⟨gl, fd, dd0, glo, fo, do0, q1, q2, q3, q4, q5, q6, N2⟩ := news_gen3 N1
  subst q1; subst q2; subst q3; subst q4; subst q5; subst q6
  clear N1
  obtain ⟨m₀, em₀, F2⟩ := Fr.gen F1
  have e1 : m₀ "given" = some (.ref gd0) := by rw [em₀]; rfl
  have e2 : m₀ "fields" = some (.ref fd) := by rw [em₀]; rfl
  have e3 : m₀ "t" = some (.ref t) := by rw [em₀]; rfl
  clear F1 em₀
  refine for_list_inv (vs := cs0) (fun r m nw => ∃ done kd kr fo fk, cs0 = done ++ r ∧ ks = kd ++ kr ∧ RowsIn news r kr ∧ m "given" = some (.ref gd0) ∧ m "fields" = some (.ref fd) ∧ m "t" = some (.ref t) ∧ nw = (gl, listOf cs0.toArray _) :: (fd, fo) :: (dd0, do0) :: news ∧ fo.IsDictOf (strKind PG w) fk ∧ Gathered kvs fk kd) rfl F2 N2 (.head _) ⟨[], [], ks, fo, [], rfl, rfl, hr, e1, e2, e3, rfl, hfd, rfl, fun _ h => nomatch h⟩ ?turn ?fin
  case turn =>
    clear N2 F2 hfd e1 e2 e3
    rintro I v r m nw oI h tk ⟨done, kd, kr, fo', fk, ek, eks, hrr, m1, m2, m3, rfl, hfk, hga⟩ hoff hc F3 N3
    cases hrr with
    | @cons ra k tk2 sub _ kr hmr hrr =>
    have hmr' : (ra, tupOf [.str k tk2, sub, .none]) ∈ (dd0, do0) :: news := .tail _ hmr
    have hfl : fk.length ≤ 100 := by
      have := congrArg List.length hga.1
      have h2 := congrArg List.length eks
      have h3 := congrArg List.length ek
      have h4 := hrr.len
      have h5 := hr.len
      simp only [List.length_map, List.length_append, List.length_cons] at this h2 h3
      omega
    have hIf : @Ne Nat fd I := hoff (fd, fo') (.tail _ (.head _))
    have hgl : @LT.lt Nat _ fd gl := l3 _ (.head _)
    have hdf : @LT.lt Nat _ dd0 fd := l2.1
    have hnf : ∀ p ∈ news, @Ne Nat p.1 fd := fun p hp => Nat.ne_of_lt (allLt_mem l2.2 p hp)
    cases hv : valueAt kvs k with
    | none =>
      k_steps
      rename RaisedAda _ (envX cn cs L a ccd cl :: outer) _ _ => R9
      rename Fr h₀ L _ _ => FG9
      rename Heap.StaysIn _ _ => B9
      have U9 := ‹Heap.UpToSlots _ _›
      exact hretE _ _ _ _ _ (fun ok => ok.1 k (by rw [eks]; simp) hv) R9 B9 FG9 ((Heap.UpToSlots.of_keeps (Fr.keep (by assumption))).trans ((by assumption : Heap.UpToSlots _ _).trans U9))
    | some x =>
      k_steps
      rename Obj.IsDictOf (strKind PG w) _ (stored _ _ _) => hd9
      have hk : k ∉ fk.map (·.1) := by
        rw [hga.1]
        intro hc
        rw [eks] at hnd
        exact (List.nodup_append.mp hnd).2.2 k hc k (by simp) rfl
      rw [stored_snoc hk] at hd9
      have kN := ‹News _ _ _ _›
      refine ⟨_, _, _, (gl, _) :: (fd, _) :: (dd0, do0) :: news, rfl, (by k_asm), kN, ?_, .head _, done ++ [.ref ra], kd ++ [k], kr, _, fk ++ [(k, x)], by simp [ek], by simp [eks], hrr, ?_, ?_, ?_, rfl, hd9, hga.snoc hv⟩
      · intro p hp
        rcases List.mem_cons.mp hp with rfl | hp
        · exact hoff _ (.head _)
        rcases List.mem_cons.mp hp with rfl | hp
        · exact hIf
        exact hoff p (.tail _ (.tail _ hp))
      all_goals ((try dsimp only); (repeat (first | assumption | refine (if_neg (by decide)).trans ?_)))
  case fin =>
    rintro m nw h tk ⟨done, kd, kr, fo', fk, ek, eks, hrr, m1, m2, m3, rfl, hfk, hga⟩ F3 N3
    have ekr : kr = [] := by cases hrr; rfl
    subst ekr
    rw [List.append_nil] at eks
    subst eks
    have hksl : ks.length ≤ 100 := by rw [← hr.len]; exact hl
    have hkl2 : fk.length = ks.length := by have := congrArg List.length hga.1; simpa using this
    dsimp only
    k_steps
    · rename RaisedAda _ (envX cn cs L a ccd cl :: outer) _ _ => R9
      rename Fr h₀ L _ _ => FG9
      rename Heap.StaysIn _ _ => B9
      have U9 := ‹Heap.UpToSlots _ _›
      exact hretE _ _ _ _ _ (fun ok => by have := ok.2; omega) R9 B9 FG9 ((Heap.UpToSlots.of_keeps (Fr.keep (by assumption))).trans ((by assumption : Heap.UpToSlots _ _).trans U9))
    · have kN := ‹News h₀ L _ _›
      refine hret _ _ _ _ (by k_asm) (agg_fin kN) ⟨_, _, fd, _, fk, [_, _], _, _, rfl, rfl, hfk, hga, ⟨?_, by omega⟩, ?_, by assumption⟩
      · intro k hk
        rw [← hga.1] at hk
        obtain ⟨p, hp, rfl⟩ := List.mem_map.mp hk
        rw [hga.2 p hp]
        exact nofun
      · (repeat ((with_reducible rename (_ ∧ _) => hc); obtain ⟨_, _⟩ := hc))
        refine Apart.cons (fun q hq => ?_) (Apart.cons (fun q hq => ?_) (Apart.cons (fun q hq => ?_) (Apart.cons (fun q hq => ?_) (Apart.cons (fun q hq => ?_) .nil))))
        all_goals (
          refine Nat.ne_of_lt ?_
          have h8 : @LT.lt Nat _ q.1 dd0 := l1 q hq
          have h9 : @LT.lt Nat _ dd0 gl := l3 _ (.tail _ (.head _))
          show @LT.lt Nat _ _ _
          omega)
end
end Mine
end
theorem Mine.calm_C7 : True := by (w_top off); exact True.intro
-- C8
section
namespace Mine
/-- the keys of the whole: the ancestor's that the type has, then what is given -/
def addKey (a : List Str) (k : Str) : List Str := if k ∈ a then a else a ++ [k]
def extKeys (ka kg ks : List Str) : List Str := kg.foldl addKey (ka.filter fun k => ks.any (· == k))
def ExtOk (ka kg ks : List Str) : Prop := (∀ k ∈ ks, k ∈ extKeys ka kg ks) ∧ ks.length = (extKeys ka kg ks).length
def putAll (a kvg : List (Str × Value)) : List (Str × Value) := kvg.foldl (fun a p => stored a p.1 p.2) a
theorem stored_keys (a : List (Str × Value)) (k : Str) (v : Value) : (stored a k v).map (·.1) = addKey (a.map (·.1)) k := by
  unfold stored addKey
  by_cases h : k ∈ a.map (·.1)
  · rw [if_pos h, if_pos, keys_map_store]
    obtain ⟨p, hp, rfl⟩ := List.mem_map.mp h
    exact List.any_eq_true.mpr ⟨p, hp, by simp⟩
  · rw [if_neg h, if_neg]
    · simp
    · intro hc
      obtain ⟨p, hp, e⟩ := List.any_eq_true.mp hc
      exact h (List.mem_map.mpr ⟨p, hp, of_decide_eq_true e⟩)
theorem putAll_keys (kvg a : List (Str × Value)) : (putAll a kvg).map (·.1) = (kvg.map (·.1)).foldl addKey (a.map (·.1)) := by
  unfold putAll
  induction kvg generalizing a with
  | nil => rfl
  | cons p r ih => simp only [List.foldl_cons, List.map_cons]; rw [ih, stored_keys]
theorem valueAt_isSome (a : List (Str × Value)) (k : Str) : valueAt a k ≠ none ↔ k ∈ a.map (·.1) := by
  unfold valueAt
  constructor
  · intro h
    cases hf : a.find? fun kv => decide (kv.1 = k) with
    | none => rw [hf] at h; exact absurd rfl h
    | some p =>
      have h1 := List.find?_some hf
      exact List.mem_map.mpr ⟨p, List.mem_of_find?_eq_some hf, of_decide_eq_true h1⟩
  · intro h
    obtain ⟨p, hp, rfl⟩ := List.mem_map.mp h
    cases hf : a.find? fun kv => decide (kv.1 = p.1) with
    | none =>
      have := List.find?_eq_none.mp hf p hp
      simp at this
    | some q => exact nofun
theorem aggOk_iff {ka ks : List Str} {wk kvg : List (Str × Value)} (hk : wk.map (·.1) = ka.filter fun k => ks.any (· == k)) : AggOk (putAll wk kvg) ks ↔ ExtOk ka (kvg.map (·.1)) ks := by
  unfold AggOk ExtOk extKeys
  rw [← hk, ← putAll_keys, List.length_map]
  constructor
  · rintro ⟨a, b⟩; exact ⟨fun k h => (valueAt_isSome _ _).mp (a k h), b⟩
  · rintro ⟨a, b⟩; exact ⟨fun k h => (valueAt_isSome _ _).mpr (a k h), b⟩
/-- copies of worths, each with a list of items of its own in own -/
def CopiesIn (P : Params) (led own : List (Addr × Obj)) (ws : List (Str × Worth)) (wk : List (Str × Value)) : Prop := ∀ p ∈ wk, ∃ wo, (p.1, wo) ∈ ws ∧ WorthIn P led own p.2 wo
theorem CopiesIn.mono {P : Params} {led led' own own' : List (Addr × Obj)} {ws wk} (h : CopiesIn P led own ws wk) (hs : ∀ p ∈ led, p ∈ led') (ho : ∀ p ∈ own, p ∈ own') : CopiesIn P led' own' ws wk :=
  fun p hp => let ⟨wo, a, b⟩ := h p hp; ⟨wo, a, b.mono hs ho⟩
theorem CopiesIn.snoc {P : Params} {led own : List (Addr × Obj)} {ws wk} {k : Str} {v : Value} {wo : Worth} (h : CopiesIn P led own ws wk) (a : (k, wo) ∈ ws) (b : WorthIn P led own v wo) : CopiesIn P led own ws (wk ++ [(k, v)]) := fun p hp => by
  rcases List.mem_append.mp hp with hp | hp
  · exact h p hp
  · rw [List.mem_singleton.mp hp]; exact ⟨wo, a, b⟩
theorem news_perm2 {h₀ h : Heap} {L : Addr} {a b : Addr × Obj} {tl rest : List (Addr × Obj)} (N : News h₀ L h (tl ++ a :: b :: rest)) : News h₀ L h (a :: b :: (tl ++ rest)) := fun p hp => N p (by
  simp only [List.mem_append, List.mem_cons] at hp ⊢
  rcases hp with h | h | h | h <;> simp only [h, true_or, or_true])
theorem apart_head2 {a b : Addr × Obj} {tl rest : List (Addr × Obj)} (ap : Apart (a :: b :: rest) tl) (h : ∀ p ∈ rest, @Ne Nat p.1 b.1) : ∀ p ∈ tl ++ rest, @Ne Nat p.1 b.1 := fun p hp => by
  rcases List.mem_append.mp hp with hp | hp
  · exact Ne.symm (ap b (.tail _ (.head _)) p hp)
  · exact h p hp

theorem names_gen {h₀ h : Heap} {L a : Addr} {wh : Nat} {wo o : Obj} {tl news : List (Addr × Obj)} (N : News h₀ L h ((wh, wo) :: (a, o) :: (tl ++ news))) (ap : Apart news ((a, o) :: tl)) (l1 : @LT.lt Nat _ a wh ∧ AllLt wh (tl ++ news)) :
    ∃ (gn : Nat) (tl0 : List (Addr × Obj)), gn = a ∧ (gn, o) ∈ tl0 ∧ Apart news tl0 ∧ News h₀ L h ((wh, wo) :: (tl0 ++ news)) ∧ ∀ p ∈ tl0 ++ news, @Ne Nat p.1 wh := by
  refine ⟨a, (a, o) :: tl, rfl, .head _, ap, N, fun p hp => Nat.ne_of_lt ?_⟩
  rcases List.mem_cons.mp hp with rfl | hp
  · exact l1.1
  · exact allLt_mem l1.2 p hp
theorem putAll_len (kvg a : List (Str × Value)) : (putAll a kvg).length ≤ a.length + kvg.length := by
  unfold putAll
  induction kvg generalizing a with
  | nil => simp
  | cons p r ih =>
    simp only [List.foldl_cons, List.length_cons]
    have := ih (stored a p.1 p.2)
    have := stored_length_le a p.1 p.2
    omega
theorem putAll_snoc (a kvg : List (Str × Value)) (k : Str) (v : Value) : putAll a (kvg ++ [(k, v)]) = stored (putAll a kvg) k v := by simp [putAll]
theorem ext_fin {h₀ h : Heap} {L : Addr} {a b c d : Addr × Obj} {u tl news : List (Addr × Obj)} (N : News h₀ L h (a :: b :: c :: (u ++ d :: (tl ++ news)))) : News h₀ L h (a :: b :: c :: ((u ++ d :: tl) ++ news)) := fun p hp => N p (by
  simp only [List.cons_append, List.append_assoc, List.mem_append, List.mem_cons] at hp ⊢
  exact hp)
theorem in_names {w : World} {A : Around} {E : Value → Shared → Prop} {s : Shared} {h₀ : Heap} {L a : Addr} {news : List (Addr × Obj)} {vs : List Value} {ks : List Str} {e : Nat} {k : Str} {t : Tok} {Q : Value → Shared → Prop} {b : Bool} (N : News h₀ L s.heap news) (hm : (a, listOf vs.toArray e) ∈ news) (hi : StrsAre vs ks) (hb : (ks.any fun y => y == k) = b) (h : Q (.bool b) s) :
    wpAny (model PG w) A (compareOp .In (.str k t) (.ref a)) Q E s := in_list_strs (isList_led N hm) hi (by rw [hb]; exact h)
section
local macro_rules | `(tactic| k_mem) => `(tactic| (refine List.mem_append_left _ ?_; k_mem))
local macro_rules | `(tactic| k_mem) => `(tactic| (refine List.mem_append_right _ ?_; k_mem))
local macro_rules | `(tactic| k_mem) => `(tactic| assumption)
local macro_rules | `(tactic| k_get) => `(tactic| assumption)
local macro_rules | `(tactic| k_room) => `(tactic| ktr_room)
local macro_rules | `(tactic| k_all) => `(tactic| assumption)
set_option maxRecDepth 100000 in
set_option maxHeartbeats 8000000 in
theorem ext_spec (w : World) (news own : List (Addr × Obj)) (t dt lc ld gd0 an adx tt af : Nat) (go ao : Obj) (es : List DictEntry) (n ec ed : Nat) (cs0 : List Value) (ks : List Str) (kvg kva : List (Str × Value)) (ws : List (Str × Worth)) (t1 t2 : Tok)
    (h1 : (t, instObj 204 dt) ∈ news) (h2 : (dt, dictOf es n) ∈ news) (h3 : (lc, listOf cs0.toArray ec) ∈ news) (h4 : (ld, listOf #[] ed) ∈ news) (g1 : getL "components" es = some (some (.ref lc))) (g2 : getL "variant" es = some (some .none)) (g3 : getL "discriminants" es = some (some (.ref ld))) (hl : cs0.length ≤ 20)
    (hr : RowsIn news cs0 ks) (h5 : (gd0, go) ∈ news) (hg : go.IsDictOf (strKind PG w) kvg) (lo : (gd0 == sysModules) = false) (hkl : kvg.length ≤ 20) (hnd : ks.Nodup)
    (h6 : (an, instObj 119 adx) ∈ news) (h7 : (adx, rvDict w.params t1 t2 tt af) ∈ news) (h8 : (af, ao) ∈ news) (ha : ao.IsDictOf (strKind PG w) kva) (lo2 : (af == sysModules) = false) (hal : kva.length ≤ 20) (hws : WorthsIn w.params news own kva ws) :
    CSpecE w 20 300 187 [.ref t, .ref an, .ref gd0] news (fun r news' => ∃ x dx d o fk wk tl t1 t2, r = .ref x ∧ news' = (x, instObj 119 dx) :: (dx, rvDict w.params t1 t2 t d) :: (d, o) :: (tl ++ news) ∧ o.IsDictOf (strKind PG w) fk ∧ (d == sysModules) = false ∧ Gathered (putAll wk kvg) fk ks ∧ CopiesIn w.params (tl ++ news) tl ws wk ∧ ExtOk (kva.map (·.1)) (kvg.map (·.1)) ks ∧ wk.map (·.1) = (kva.map (·.1)).filter (fun k => ks.any (· == k)) ∧ Apart news ((x, instObj 119 dx) :: (dx, rvDict w.params t1 t2 t d) :: (d, o) :: tl)) (¬ ExtOk (kva.map (·.1)) (kvg.map (·.1)) ks) := by
  k_with_none
  k_with "call ref" => (k_here; (with_reducible show wpAny _ _ (call (Value.ref _) [Value.ref _]) _ _ _); k_dflt (refine' (pnames_spec _ _ _ _ _ _ _ _ _ _ _ _ ?p1ₖ ?p2ₖ ?p3ₖ ?p4ₖ ?p5ₖ ?p6ₖ ?p7ₖ ?p8ₖ ?p9ₖ) _ _ _ _ _ _ _ _ _ _ _ _ _ _ _ _ _ _ _ _ ?Bₖ ?Fₖ ?Xₖ ?Nₖ ?Tₖ ?kkₖ ?ddₖ ?uuₖ ?_; (case Fₖ => k_asm); (case Nₖ => k_asm); (case p1ₖ => k_mem); (case p2ₖ => k_mem); (case p5ₖ => assumption); (case p3ₖ => k_mem); (case p6ₖ => assumption); (case p7ₖ => assumption); (case p4ₖ => k_mem); (case p8ₖ => assumption); (case p9ₖ => assumption); (case Bₖ => k_asm); (case Xₖ => k_asm); (case Tₖ => k_asm); (case kkₖ => first | exact rfl | assumption); (case ddₖ => ktr_room); (case uuₖ => ktr_units)); intro r'ₖ n'ₖ h'ₖ tk'ₖ F'ₖ N'ₖ hp'ₖ; obtain ⟨g'ₖ, e'ₖ, tl'ₖ, vs'ₖ, er'ₖ, en'ₖ, hvs'ₖ, ap'ₖ⟩ := hp'ₖ; subst er'ₖ; subst en'ₖ; (try dsimp only at N'ₖ); (try k_sweep))
  k_with "exec For Name Attribute cons nil" => (k_here; (rename Fr _ _ _ _ => lF'ₖ); (with_unfolding_all refine' For_turns lF'ₖ ?_; k_whole))
  k_with "exec For Name Name cons nil" => (k_here; (rename Fr _ _ _ _ => lF'ₖ); (with_unfolding_all refine' For_turns lF'ₖ ?_; k_whole))
  k_with "compareOp In str ref" => (k_here; k_dflt (refine' in_names ?nNₖ ?nMₖ ?nDₖ ?nBₖ ?_; (case nNₖ => k_asm); (case nMₖ => k_mem); (case nDₖ => assumption); (case nBₖ => assumption)))
  k_with "eval Name" => (k_here; k_dflt (refine' PyProof.Rows.ld ?k1ₖ ?k2ₖ ?_; (case k1ₖ => k_asm); (case k2ₖ => first | exact rfl | assumption | ((try dsimp only); (repeat (first | exact if_pos rfl | assumption | refine (if_neg (by decide)).trans ?_)))); k_whole))
  k_with "subscriptTail" => (k_here; (with_reducible show wpAny _ _ (subscriptTail _ _ (Value.ref _) (Value.str _ _)) _ _ _); k_dflt (refine' kda_item (knd := PySem.strKind _ _) ?aNₖ ?aMₖ ?aDₖ (strKind_is _ _ _ _) ?aVₖ ?_; (case aNₖ => k_asm); (case aMₖ => k_mem); (case aDₖ => assumption); (case aVₖ => assumption)))
  k_with "setItem ref str" => (k_here; k_dflt (refine' kda_set (knd := PySem.strKind _ _) ?Fₖ ?Nₖ ?Uₖ ?dₖ (strKind_is _ _ _ _) ?zₖ ?_; (case Fₖ => k_asm); (case Nₖ => k_asm); (case Uₖ => k_updF); (case dₖ => assumption); (case zₖ => (rw [sizeLine_eq]; omega))); intro h'ₖ o'ₖ F'ₖ N'ₖ hd'ₖ; (try dsimp only at N'ₖ))
  k_with "call ref" => (k_here; (with_reducible show wpAny _ _ (call (Value.ref _) [_]) _ _ _); k_dflt (refine' (copy_spec _ _ _ _ _ _ ?hsₖ ?hvₖ) _ _ _ _ _ _ _ _ _ _ _ _ _ _ _ _ _ _ _ _ ?Bₖ ?Fₖ ?Xₖ ?Nₖ ?Tₖ ?kkₖ ?ddₖ ?uuₖ ?_; (case Fₖ => k_asm); (case Nₖ => k_asm); (case hvₖ => assumption); (case hsₖ => exact (fun p hp => by (repeat (first | exact hp | refine List.Mem.tail _ ?_)))); (case Bₖ => k_asm); (case Xₖ => k_asm); (case Tₖ => k_asm); (case kkₖ => first | exact rfl | assumption); (case ddₖ => ktr_room); (case uuₖ => ktr_units)); intro r'ₖ n'ₖ h'ₖ tk'ₖ F'ₖ N'ₖ hp'ₖ; obtain ⟨tl'ₖ, hwo'ₖ, ap'ₖ, en'ₖ⟩ := hp'ₖ; subst en'ₖ; (try dsimp only at N'ₖ); replace N'ₖ := news_perm2 N'ₖ; have hA'ₖ := apart_head2 ap'ₖ (by assumption); (try k_sweep))
  k_with "call ref" => (k_here; (with_reducible show wpAny _ _ (call (Value.ref _) [Value.ref _, Value.ref _]) _ _ _); k_dflt (refine' (agg_spec _ _ _ _ _ _ _ _ _ _ _ _ _ _ _ ?p1ₖ ?p2ₖ ?p3ₖ ?p4ₖ ?p5ₖ ?p6ₖ ?p7ₖ ?p8ₖ ?p9ₖ ?q1ₖ ?q2ₖ ?q3ₖ ?q4ₖ ?q5ₖ) _ _ _ _ _ _ _ _ _ _ _ _ _ _ _ _ _ _ _ _ ?Bₖ ?Fₖ ?Xₖ ?Nₖ ?Tₖ ?kkₖ ?ddₖ ?uuₖ ?okₖ ?excₖ; (case Fₖ => k_asm); (case Nₖ => k_asm); (case p1ₖ => k_mem); (case p2ₖ => k_mem); (case p5ₖ => assumption); (case p3ₖ => k_mem); (case p6ₖ => assumption); (case p7ₖ => assumption); (case p4ₖ => k_mem); (case p8ₖ => omega); (case p9ₖ => exact RowsIn.mono (by assumption) (fun p hp => List.Mem.tail _ (List.mem_append_right _ hp))); (case q1ₖ => k_mem); (case q2ₖ => assumption); (case q3ₖ => assumption); (case q4ₖ => omega); (case q5ₖ => assumption); (case Bₖ => k_asm); (case Xₖ => k_asm); (case Tₖ => k_asm); (case kkₖ => first | exact rfl | assumption); (case ddₖ => ktr_room); (case uuₖ => ktr_units); (case' okₖ => (intro r'ₖ n'ₖ h'ₖ tk'ₖ F'ₖ N'ₖ hp'ₖ; obtain ⟨x'ₖ, dx'ₖ, d'ₖ, o'ₖ, fk'ₖ, tl'ₖ, t1'ₖ, t2'ₖ, er'ₖ, en'ₖ, hfk'ₖ, hga'ₖ, hok'ₖ, ap'ₖ, lo'ₖ⟩ := hp'ₖ; subst er'ₖ; subst en'ₖ; (try dsimp only at N'ₖ); (try k_sweep))); (case' excₖ => (intro e'ₖ h'ₖ tk'ₖ B2'ₖ g2'ₖ hex'ₖ R'ₖ hB'ₖ F2'ₖ U'ₖ))))
  k_with "leaving ref" => (k_dflt (refine' leave_ada rfl rfl ?Rₖ ?_; (case Rₖ => assumption)); intro h'ₖ R2'ₖ U2'ₖ)
  have hseed : Seed PySem.Challenge.rw_pp0004_01 hd.heap_39 := by k_fill; trivial
  clear hseed
  have hl' : cs0.length ≤ 100 := by omega
  unfold CSpecE
  intro mean mg mb dp un gd cn cs a ccd cl outer A₀ base h₀ L m s Q E B F X N T hk hdp hun hret hretE
  refine wpAny_call ?_
  k_dflt ktr_enter
  k_steps
  have hD := ‹Obj.IsDictOf (strKind PG w) _ ([] : List (Str × Value))›
  rename Fr _ _ _ _ => F1
  rename News _ _ _ (_ :: _ :: _) => N1
  rename (_ == sysModules) = false => lo1
  rename Apart news (_ :: _) => ap1
  rename StrsAre _ ks => hvs
  rename (_ ∧ AllLt _ _) => l1
  obtain ⟨m₀, em₀, F2⟩ := Fr.gen F1
  obtain ⟨wh, wo, eg, ego, N2⟩ := news_gen1 N1
  subst eg; subst ego
  obtain ⟨gn, tl0, egn, hn0, ap0, N3, hw0⟩ := names_gen N2 ap1 l1
  subst egn
  have e1 : m₀ "ancestor" = some (.ref an) := by rw [em₀]; rfl
  have e2 : m₀ "names" = some (.ref gn) := by rw [em₀]; rfl
  have e3 : m₀ "whole" = some (.ref wh) := by rw [em₀]; rfl
  have e4 : m₀ "given" = some (.ref gd0) := by rw [em₀]; rfl
  have e5 : m₀ "t" = some (.ref t) := by rw [em₀]; rfl
  clear F1 em₀ N1 N2 l1 ap1
  have hnk := isDictOf_nodup ha
  refine for_dict_inv (fun r m nw => ∃ done wd wr wo' tl wk, kva = done ++ r ∧ ws = wd ++ wr ∧ WorthsIn w.params news own r wr ∧ (m "ancestor" = some (.ref an) ∧ m "names" = some (.ref gn) ∧ m "whole" = some (.ref wh) ∧ m "given" = some (.ref gd0) ∧ m "t" = some (.ref t)) ∧ nw = (wh, wo') :: (tl ++ news) ∧ wo'.IsDictOf (strKind PG w) wk ∧
    wk.map (·.1) = (done.map (·.1)).filter (fun k => ks.any (· == k)) ∧ CopiesIn w.params (tl ++ news) tl ws wk ∧ (gn, listOf _ _) ∈ tl ∧ Apart news tl ∧ ∀ p ∈ tl ++ news, @Ne Nat p.1 wh) rfl F2 N3 (.tail _ (List.mem_append_right _ h8)) ha lo2 ⟨[], [], ws, wo, tl0, [], rfl, rfl, hws, ⟨e1, e2, e3, e4, e5⟩, rfl, hD, rfl, (fun _ h => nomatch h), hn0, ap0, hw0⟩ ?turn ?fin
  case turn =>
    clear N3 F2 hD e1 e2 e3 e4 e5 hn0 ap0 hw0
    rintro I k x tk2 r m nw oI h tk ⟨done, wd, wr, wo', tl, wk, ek, ew, hrr, ⟨m1, m2, m3, m4, m5⟩, rfl, hwk, hkk, hcp, hn, ap, hw⟩ hoff hc F3 N3
    cases hrr with
    | cons hx hrr =>
    rename_i wo9 wr
    have hval : valueAt kva k = some x := by rw [ek]; rw [ek] at hnk; exact valueAt_mid hnk
    have hIw : @Ne Nat wh I := hoff (wh, wo') (.head _)
    have hwl : wk.length ≤ 100 := by
      have h1 := congrArg List.length hkk
      have h2 := List.length_filter_le (fun k => ks.any (· == k)) (done.map (·.1))
      have h3 := congrArg List.length ek
      simp only [List.length_map, List.length_append, List.length_cons] at h1 h2 h3
      omega
    have hx' := hx.mono (led' := tl ++ news) (own' := own) (fun p hp => List.mem_append_right _ hp) fun p hp => hp
    have haf : (af, ao) ∈ tl ++ news := List.mem_append_right _ h8
    cases hb : ks.any (· == k) with
    | false =>
      k_steps
      have kN := ‹News _ _ _ _›
      refine ⟨_, _, _, (wh, wo') :: (tl ++ news), rfl, (by k_asm), kN, hoff, .tail _ haf, done ++ [(k, x)], wd ++ [(k, wo9)], wr, wo', tl, wk, by simp [ek], by simp [ew], hrr, ⟨?_, ?_, ?_, ?_, ?_⟩, rfl, hwk, ?_, hcp, hn, ap, hw⟩
      case refine_6 => rw [List.map_append, List.filter_append, ← hkk]; simp [hb]
      all_goals ((try dsimp only); (repeat (first | assumption | refine (if_neg (by decide)).trans ?_)))
    | true =>
      k_steps
      rename Obj.IsDictOf (strKind PG w) _ (stored _ _ _) => hd9
      rename WorthIn _ _ _ _ wo9 => hwo
      have kN := ‹News _ _ _ _›
      rename Apart (_ :: _ :: _) _ => ap9
      rename (∀ p ∈ _ ++ (tl ++ news), _) => hA9
      have hk : k ∉ wk.map (·.1) := by
        rw [hkk]
        intro hc
        rw [ek, List.map_append, List.map_cons] at hnk
        exact (List.nodup_append.mp hnk).2.2 k (List.mem_filter.mp hc).1 k (by simp) rfl
      rw [stored_snoc hk] at hd9
      rw [← List.append_assoc] at kN hwo hA9
      refine ⟨_, _, _, (wh, _) :: (_ ++ news), rfl, (by k_asm), kN, ?_, .tail _ (List.mem_append_right _ h8), done ++ [(k, x)], wd ++ [(k, wo9)], wr, _, _, wk ++ [(k, _)], by simp [ek], by simp [ew], hrr, ⟨?_, ?_, ?_, ?_, ?_⟩, rfl, hd9, ?_, ?_, List.mem_append_right _ hn, ?_, hA9⟩
      case refine_1 =>
        intro p hp
        rcases List.mem_cons.mp hp with rfl | hp
        · exact hIw
        rw [List.append_assoc] at hp
        rcases List.mem_append.mp hp with hp | hp
        · exact Ne.symm (ap9 (I, oI) (.head _) p hp)
        · exact hoff p (.tail _ hp)
      case refine_7 => rw [List.map_append, List.map_append, List.filter_append, ← hkk]; simp [hb]
      case refine_8 =>
        refine CopiesIn.snoc (hcp.mono (fun p hp => ?_) fun p hp => List.mem_append_right _ hp) (by rw [ew]; simp) (hwo.mono (fun p hp => hp) fun p hp => List.mem_append_left _ hp)
        rw [List.append_assoc]; exact List.mem_append_right _ hp
      case refine_9 => exact (ap9.sub fun p hp => .tail _ (.tail _ (List.mem_append_right _ hp))).append ap
      all_goals ((try dsimp only); (repeat (first | assumption | refine (if_neg (by decide)).trans ?_)))
  case fin =>
    rintro m nw h tk ⟨done, wd, wr, wo', tl, wk, ek, ew, hrr, ⟨m1, m2, m3, m4, m5⟩, rfl, hwk, hkk, hcp, hn, ap, hw⟩ F3 N3
    have ewr : wr = [] := by cases hrr; rfl
    subst ewr
    simp only [List.append_nil] at ek ew
    subst ek; subst ew
    dsimp only
    k_steps
    rename Fr _ _ _ m => F4
    refine for_dict_inv (fun r m nw => ∃ done wo', kvg = done ++ r ∧ (m "whole" = some (.ref wh) ∧ m "given" = some (.ref gd0) ∧ m "t" = some (.ref t)) ∧ nw = (wh, wo') :: (tl ++ news) ∧ wo'.IsDictOf (strKind PG w) (putAll wk done)) rfl F4 N3 (.tail _ (List.mem_append_right _ h5)) hg lo ⟨[], wo', rfl, ⟨m3, m4, m5⟩, rfl, hwk⟩ ?turn2 ?fin2
    case turn2 =>
      clear F4 N3 hwk m1 m2 m3 m4 m5
      rintro I k x tk2 r m nw oI h tk ⟨done2, wo2, ek2, ⟨m3, m4, m5⟩, rfl, hwk⟩ hoff hc F3 N3
      have hnk2 := isDictOf_nodup hg
      have hval : valueAt kvg k = some x := by rw [ek2]; rw [ek2] at hnk2; exact valueAt_mid hnk2
      have hIw : @Ne Nat wh I := hoff (wh, wo2) (.head _)
      have hgt : (gd0, go) ∈ tl ++ news := List.mem_append_right _ h5
      have hwl : (putAll wk done2).length ≤ 100 := by
        have h1 := congrArg List.length hkk
        have h2 := List.length_filter_le (fun k => ks.any (· == k)) (kva.map (·.1))
        have h3 := congrArg List.length ek2
        have h4 := putAll_len done2 wk
        simp only [List.length_map, List.length_append, List.length_cons] at h1 h2 h3
        omega
      k_steps
      rename Obj.IsDictOf (strKind PG w) _ (stored _ _ _) => hd9
      rw [← putAll_snoc] at hd9
      have kN := ‹News _ _ _ _›
      refine ⟨_, _, _, (wh, _) :: (tl ++ news), rfl, (by k_asm), kN, ?_, .tail _ hgt, done2 ++ [(k, x)], _, by simp [ek2], ⟨?_, ?_, ?_⟩, rfl, hd9⟩
      · intro p hp
        rcases List.mem_cons.mp hp with rfl | hp
        · exact hIw
        · exact hoff p (.tail _ hp)
      all_goals ((try dsimp only); (repeat (first | assumption | refine (if_neg (by decide)).trans ?_)))
    case fin2 =>
      clear F4 N3 hwk m1 m2 m3 m4 m5
      rintro m nw h tk ⟨done2, wo2, ek2, ⟨m3, m4, m5⟩, rfl, hwk⟩ F3 N3
      simp only [List.append_nil] at ek2
      subst ek2
      have hwl : (putAll wk kvg).length ≤ 100 := by
        have h1 := congrArg List.length hkk
        have h2 := List.length_filter_le (fun k => ks.any (· == k)) (kva.map (·.1))
        have h4 := putAll_len kvg wk
        simp only [List.length_map] at h1 h2
        omega
      dsimp only
      k_steps
      · rename RaisedAda _ (envX cn cs L a ccd cl :: outer) _ _ => R9
        rename Fr h₀ L _ _ => FG9
        rename Heap.StaysIn _ _ => B9
        have U9 := ‹Heap.UpToSlots _ _›
        exact hretE _ _ _ _ _ (fun ok => (by assumption : ¬ AggOk _ _) ((aggOk_iff hkk).mpr ok)) R9 B9 FG9 ((Heap.UpToSlots.of_keeps (Fr.keep (by assumption))).trans ((by assumption : Heap.UpToSlots _ _).trans U9))
      · have kN := ‹News h₀ L _ _›
        rename Apart _ (_ :: _ :: _ :: _) => ap9
        rename Obj.IsDictOf (strKind PG w) _ _ => hfk9
        rename Gathered _ _ _ => hga9
        rename AggOk _ _ => hok9
        refine hret _ _ _ _ (by k_asm) (ext_fin kN) ⟨_, _, _, _, _, wk, _, _, _, rfl, rfl, hfk9, (by assumption), hga9, ?_, (aggOk_iff hkk).mp hok9, hkk, ?_⟩
        · exact hcp.mono (fun p hp => by
            simp only [List.mem_append, List.mem_cons] at hp ⊢
            rcases hp with h | h <;> simp only [h, true_or, or_true]) (fun p hp => by
            simp only [List.mem_append, List.mem_cons]
            simp only [hp, or_true])
        · intro q hq p hp
          have hq' : q ∈ (wh, wo2) :: (tl ++ news) := .tail _ (List.mem_append_right _ hq)
          simp only [List.mem_cons, List.mem_append] at hp
          rcases hp with rfl | rfl | rfl | hp | rfl | hp
          · exact ap9 q hq' _ (by simp)
          · exact ap9 q hq' _ (by simp)
          · exact ap9 q hq' _ (by simp)
          · exact ap9 q hq' p (by simp [hp])
          · exact hw q (List.mem_append_right _ hq)
          · exact ap q hq p hp
end
end Mine
end
theorem Mine.calm_C8 : True := by (w_top off); exact True.intro
-- CT
section
namespace Mine
theorem ne_of_lt_all {l : List (Addr × Obj)} {d : Addr} (h : ∀ p ∈ l, p.1 < d) : ∀ p ∈ l, p.1 ≠ d := fun p hp => Nat.ne_of_lt (h p hp)
theorem ne_of_allLt {l : List (Addr × Obj)} {d : Addr} (h : AllLt d l) : ∀ p ∈ l, p.1 ≠ d := fun p hp => Nat.ne_of_lt (allLt_mem h p hp)
/-- one entry of an object's own dict -/
abbrev ent (P : Params) (k : Str) (t : Tok) (v : Value) : DictEntry := ⟨PyData.keyHash P k, .str k t, v⟩
/-- what a call of the class Type leaves in the ledger -/
inductive TMade (w : World) (v1 v2 : Value) (news : List (Addr × Obj)) : Value → List (Addr × Obj) → Prop
  | mk (x d li sm ix di co op : Nat) (o : Obj)
    (l1 : ∀ p ∈ news, @LT.lt Nat _ p.1 d) (l2 : d < x)
    (l3 : x < li ∧ d < li ∧ ∀ p ∈ news, @LT.lt Nat _ p.1 li)
    (l4 : li < sm ∧ x < sm ∧ d < sm ∧ ∀ p ∈ news, @LT.lt Nat _ p.1 sm)
    (l5 : sm < ix ∧ li < ix ∧ x < ix ∧ d < ix ∧ ∀ p ∈ news, @LT.lt Nat _ p.1 ix)
    (l6 : ix < di ∧ sm < di ∧ li < di ∧ x < di ∧ d < di ∧ ∀ p ∈ news, @LT.lt Nat _ p.1 di)
    (l7 : di < co ∧ ix < co ∧ sm < co ∧ li < co ∧ x < co ∧ d < co ∧ ∀ p ∈ news, @LT.lt Nat _ p.1 co)
    (l8 : co < op ∧ di < op ∧ ix < op ∧ sm < op ∧ li < op ∧ x < op ∧ d < op ∧ ∀ p ∈ news, @LT.lt Nat _ p.1 op)
    (lo : (op == sysModules) = false) (hs : o.IsDictOf (strKind PG w) []) (fs : PyProof.V.FlatPairs PyData.str [] []) (hi : o.IsDictOf (intKind PG w) []) (fi : PyProof.V.FlatPairs PyData.int [] [])
    (t1 t2 t3 t4 t5 t6 t7 t8 t9 t10 t11 t12 t13 t14 t15 t16 t17 t18 t19 t20 t21 t22 t23 t24 n1 n2 n3 n4 : Tok) :
    TMade w v1 v2 news (.ref x) ((op, o) :: (co, listOf #[] 0) :: (di, listOf #[] 0) :: (ix, listOf #[] 0) :: (sm, tupOf [.int 1 n1, .int 1 n2]) :: (li, listOf #[] 0) :: (x, instObj 204 d) ::
      (d, dictOf [ent w.params "kind" t1 v1, ent w.params "name" t2 v2, ent w.params "number" t3 (.int 0 n3), ent w.params "parent" t4 .none, ent w.params "low" t5 .none, ent w.params "high" t6 .none, ent w.params "literals" t7 (.ref li),
        ent w.params "modulus" t8 (.int 0 n4), ent w.params "small" t9 (.ref sm), ent w.params "index" t10 (.ref ix), ent w.params "component" t11 .none, ent w.params "is_constrained" t12 (.bool true), ent w.params "discriminants" t13 (.ref di),
        ent w.params "components" t14 (.ref co), ent w.params "variant" t15 .none, ent w.params "designated" t16 .none, ent w.params "is_tagged" t17 (.bool false), ent w.params "wide" t18 .none, ent w.params "is_limited" t19 (.bool false),
        ent w.params "is_private" t20 (.bool false), ent w.params "is_abstract" t21 (.bool false), ent w.params "is_constant" t22 (.bool false), ent w.params "is_late" t23 (.bool false), ent w.params "operations" t24 (.ref op)] 24) :: news)
section
local macro_rules | `(tactic| k_mem) => `(tactic| (refine List.mem_append_left _ ?_; k_mem))
local macro_rules | `(tactic| k_mem) => `(tactic| (refine List.mem_append_right _ ?_; k_mem))
local macro_rules | `(tactic| k_mem) => `(tactic| assumption)
local macro_rules | `(tactic| k_get) => `(tactic| assumption)
local macro_rules | `(tactic| k_room) => `(tactic| ktr_room)
local macro_rules | `(tactic| k_all) => `(tactic| first | assumption | exact ne_of_lt_all (by assumption) | ((repeat ((with_reducible rename (_ ∧ _) => hc); obtain ⟨_, _⟩ := hc)); exact ne_of_allLt (by assumption)))
set_option maxRecDepth 100000 in
set_option maxHeartbeats 8000000 in
theorem type_spec (w : World) (v1 v2 : Value) (news : List (Addr × Obj)) : CSpec w 8 110 204 [v1, v2] news (TMade w v1 v2 news) := by
  k_with_none
  have hseed : Seed PySem.Challenge.rw_pp0004_01 hd.heap_39 := by k_fill; trivial
  clear hseed
  unfold CSpec
  intro mean mg mb dp un gd cn cs a ccd cl outer A₀ base h₀ L m s Q E B F X N T hk hdp hun hret
  k_dflt (refine' call_cls ?k1 ?k2 ?k3 ?k4 ?k5 ?k6 ?_; (case k1 => k_asm); (case k2 => k_asm); (case k3 => k_asm); (case k4 => k_is); (case k5 => k_is); (case k6 => k_is))
  intro x9 d9 h9 F9 N9 l1 l2
  (try k_lt l1)
  k_lt2 l2
  k_dflt ktr_enter
  k_steps
  (repeat ((with_reducible rename (_ ∧ _) => hc); obtain ⟨_, _⟩ := hc))
  refine hret _ _ _ _ (by k_asm) (by k_asm) (.mk _ _ _ _ _ _ _ _ _ ?_ ?_ ?_ ?_ ?_ ?_ ?_ ?_ ?_ ?_ ?_ ?_ ?_ _ _ _ _ _ _ _ _ _ _ _ _ _ _ _ _ _ _ _ _ _ _ _ _ _ _ _ _)
  all_goals (repeat' (first | assumption | exact allLt_mem (by assumption) | apply And.intro))
end
end Mine
end
theorem Mine.calm_CT : True := by (w_top off); exact True.intro
-- C9
section
namespace Mine
section
local macro_rules | `(tactic| k_mem) => `(tactic| (refine List.mem_append_left _ ?_; k_mem))
local macro_rules | `(tactic| k_mem) => `(tactic| (refine List.mem_append_right _ ?_; k_mem))
local macro_rules | `(tactic| k_mem) => `(tactic| assumption)
local macro_rules | `(tactic| k_get) => `(tactic| assumption)
local macro_rules | `(tactic| k_room) => `(tactic| ktr_room)
local macro_rules | `(tactic| k_all) => `(tactic| first | assumption | exact ne_of_lt_all (by assumption) | ((repeat ((with_reducible rename (_ ∧ _) => hc); obtain ⟨_, _⟩ := hc)); exact ne_of_allLt (by assumption)))
set_option maxRecDepth 100000 in
set_option maxHeartbeats 8000000 in
theorem wsub_spec (w : World) (v : Value) (news : List (Addr × Obj)) :
    CSpec w 8 120 271 [v] news (fun r news' => ∃ x tl, r = .ref x ∧ news' = tl ++ news ∧ Apart news tl) := by
  k_with_none
  have hseed : Seed PySem.Challenge.rw_pp0004_01 hd.heap_39 := by k_fill; trivial
  clear hseed
  unfold CSpec
  intro mean mg mb dp un gd cn cs a ccd cl outer A₀ base h₀ L m s Q E B F X N T hk hdp hun hret
  refine wpAny_call ?_
  k_dflt ktr_enter
  k_steps
  rename (∀ p ∈ news, p.1 < _) => l1
  refine hret _ _ _ _ (by k_asm) (by k_asm) ⟨_, [_, _], rfl, rfl, ?_⟩
  refine Apart.cons (fun q hq => ?_) (Apart.cons (fun q hq => ?_) .nil)
  all_goals (refine Nat.ne_of_lt ?_; have hq1 : @LT.lt Nat _ q.1 _ := l1 q hq; omega)
set_option maxRecDepth 100000 in
set_option maxHeartbeats 8000000 in
theorem itype_spec (w : World) (t : Tok) (news : List (Addr × Obj)) :
    CSpec w 12 160 278 [.int 16 t] news (fun r news' => ∃ x tl, r = .ref x ∧ news' = tl ++ news ∧ Apart news tl) := by
  k_with_none
  k_with "call ref" => (k_here; (with_reducible show wpAny _ _ (call (Value.ref 204) [_, _]) _ _ _); k_dflt (refine' (type_spec _ _ _ _) _ _ _ _ _ _ _ _ _ _ _ _ _ _ _ _ _ _ _ _ ?Bₖ ?Fₖ ?Xₖ ?Nₖ ?Tₖ ?kkₖ ?ddₖ ?uuₖ ?_; (case Fₖ => k_asm); (case Nₖ => k_asm); (case Bₖ => k_asm); (case Xₖ => k_asm); (case Tₖ => k_asm); (case kkₖ => first | exact rfl | assumption); (case ddₖ => ktr_room); (case uuₖ => ktr_units)); intro r'ₖ n'ₖ h'ₖ tk'ₖ F'ₖ N'ₖ hp'ₖ; obtain ⟨x'ₖ, d'ₖ, li'ₖ, sm'ₖ, ix'ₖ, di'ₖ, co'ₖ, op'ₖ, o'ₖ, l1'ₖ, l2'ₖ, ⟨l3a'ₖ, l3b'ₖ, l3'ₖ⟩, ⟨l4a'ₖ, l4b'ₖ, l4c'ₖ, l4'ₖ⟩, ⟨l5a'ₖ, l5b'ₖ, l5c'ₖ, l5d'ₖ, l5'ₖ⟩, ⟨l6a'ₖ, l6b'ₖ, l6c'ₖ, l6d'ₖ, l6e'ₖ, l6'ₖ⟩, ⟨l7a'ₖ, l7b'ₖ, l7c'ₖ, l7d'ₖ, l7e'ₖ, l7f'ₖ, l7'ₖ⟩, ⟨l8a'ₖ, l8b'ₖ, l8c'ₖ, l8d'ₖ, l8e'ₖ, l8f'ₖ, l8g'ₖ, l8'ₖ⟩, lo'ₖ, hs'ₖ, fs'ₖ, hi'ₖ, fi'ₖ⟩ := hp'ₖ; (try k_lt l1'ₖ); (replace l3'ₖ := allLt_of l3'ₖ); (try simp only [AllLt, and_true] at l3'ₖ); (replace l4'ₖ := allLt_of l4'ₖ); (try simp only [AllLt, and_true] at l4'ₖ); (replace l5'ₖ := allLt_of l5'ₖ); (try simp only [AllLt, and_true] at l5'ₖ); (replace l6'ₖ := allLt_of l6'ₖ); (try simp only [AllLt, and_true] at l6'ₖ); (replace l7'ₖ := allLt_of l7'ₖ); (try simp only [AllLt, and_true] at l7'ₖ); (replace l8'ₖ := allLt_of l8'ₖ); (try simp only [AllLt, and_true] at l8'ₖ); (try k_sweep))
  have hseed : Seed PySem.Challenge.rw_pp0004_01 hd.heap_39 := by k_fill; trivial
  clear hseed
  unfold CSpec
  intro mean mg mb dp un gd cn cs a ccd cl outer A₀ base h₀ L m s Q E B F X N T hk hdp hun hret
  refine wpAny_call ?_
  k_dflt ktr_enter
  k_steps
  (repeat ((with_reducible rename (_ ∧ _) => hc); obtain ⟨_, _⟩ := hc))
  rename (∀ p ∈ news, p.1 < _) => l1
  refine hret _ _ _ _ (by k_asm) (by k_asm) ⟨_, [_, _, _, _, _, _, _, _, _], rfl, rfl, ?_⟩
  refine (Apart.cons (fun q hq => ?_) (Apart.cons (fun q hq => ?_) (Apart.cons (fun q hq => ?_) (Apart.cons (fun q hq => ?_) (Apart.cons (fun q hq => ?_) (Apart.cons (fun q hq => ?_) (Apart.cons (fun q hq => ?_) (Apart.cons (fun q hq => ?_) (Apart.cons (fun q hq => ?_) .nil)))))))))
  all_goals (refine Nat.ne_of_lt ?_; have hq1 : @LT.lt Nat _ q.1 _ := l1 q hq; omega)
end
end Mine
end
theorem Mine.calm_C9 : True := by (w_top off); exact True.intro
-- D1
section
namespace Mine
theorem off3_all {I C D : Addr} {l : List (Addr × Obj)} (h : LCg.Off3 I C D l) : ∀ p ∈ l, (@Ne Nat p.1 I) ∧ (@Ne Nat p.1 C) ∧ (@Ne Nat p.1 D) := by
  induction l with
  | nil => intro p hp; cases hp
  | cons a l ih =>
    intro p hp
    rcases List.mem_cons.mp hp with rfl | hp
    · exact ⟨h.1.1, h.1.2.1, h.1.2.2⟩
    · exact ih h.2 p hp
theorem off3_of {I C D : Addr} {l : List (Addr × Obj)} (h : ∀ p ∈ l, (@Ne Nat p.1 I) ∧ (@Ne Nat p.1 C) ∧ (@Ne Nat p.1 D)) : LCg.Off3 I C D l := by
  induction l with
  | nil => trivial
  | cons a l ih => exact ⟨⟨(h a (.head _)).1, (h a (.head _)).2.1, (h a (.head _)).2.2⟩, ih fun p hp => h p (.tail _ hp)⟩
theorem rows_snoc {led : List (Addr × Obj)} {ys : List Value} {ks : List Str} {r : Addr} {k : Str} {t : Tok} {sub : Value} (h : RowsIn led ys ks) (hm : (r, tupOf [.str k t, sub, .none]) ∈ led) : RowsIn led (ys ++ [.ref r]) (ks ++ [k]) := h.append (.cons hm .nil)
theorem StrsAre_at {vs : List Value} {ks : List Str} (h : StrsAre vs ks) : ∀ {i : Nat} {v : Value}, vs[i]? = some v → ∃ k t, v = .str k t ∧ ks[i]? = some k := by
  induction h with
  | nil => intro i v h; simp at h
  | cons k t _ ih =>
    intro i v h
    cases i with
    | zero => simp at h; subst h; exact ⟨k, t, rfl, rfl⟩
    | succ i => simp only [List.getElem?_cons_succ] at h ⊢; exact ih h
theorem comp_end3 {h₀ : Heap} {L I C D T : Addr} {m : Str → Option Value} {s₁ : Shared} {oI oC oD oT : Obj} {S : List (Addr × Obj) → Prop} {rest : Value → List (Addr × Obj) → Prop} {y : Value} {h' : Heap} {tk : Nat} {tl tl1 tl2 news : List (Addr × Obj)}
    (F : Fr h₀ L h' m) (N : News h₀ L h' ((T, oT) :: (tl2 ++ (tl1 ++ (I, oI) :: (C, oC) :: (D, oD) :: (tl ++ news))))) (a1 : Apart ((I, oI) :: (C, oC) :: (D, oD) :: (tl ++ news)) tl1) (a2 : Apart (tl1 ++ (I, oI) :: (C, oC) :: (D, oD) :: (tl ++ news)) tl2)
    (l1 : ∀ p ∈ tl2 ++ (tl1 ++ (I, oI) :: (C, oC) :: (D, oD) :: (tl ++ news)), p.1 < T) (off : LCg.Off3 I C D (tl ++ news)) (hS : S (((T, oT) :: (tl2 ++ (tl1 ++ tl))) ++ news)) (r : rest y (((T, oT) :: (tl2 ++ (tl1 ++ tl))) ++ news)) :
    LCg.CompEnd h₀ L m s₁ I oI C oC D oD S rest y { s₁ with heap := h', toks := tk } := by
  have o3 := off3_all off
  refine LCg.CompEnd.intro F N _ (fun p hp => ?_) (off3_of ?_) hS r
  · simp only [List.mem_cons, List.mem_append] at hp ⊢
    rcases hp with h | h | h | ((h | h | h | h) | h) <;> simp only [h, true_or, or_true]
  · intro p hp
    simp only [List.mem_cons, List.mem_append] at hp
    have h1 : ∀ q ∈ ((I, oI) : Addr × Obj) :: (C, oC) :: (D, oD) :: (tl ++ news), p ∈ tl1 → @Ne Nat p.1 q.1 := fun q hq h => Ne.symm (a1 q hq p h)
    have h2 : ∀ q ∈ ((I, oI) : Addr × Obj) :: (C, oC) :: (D, oD) :: (tl ++ news), p ∈ tl2 → @Ne Nat p.1 q.1 := fun q hq h => Ne.symm (a2 q (List.mem_append_right _ hq) p h)
    rcases hp with (rfl | hp | hp | hp) | hp
    · exact ⟨Nat.ne_of_gt (l1 (I, oI) (by simp)), Nat.ne_of_gt (l1 (C, oC) (by simp)), Nat.ne_of_gt (l1 (D, oD) (by simp))⟩
    · exact ⟨h2 _ (.head _) hp, h2 _ (.tail _ (.head _)) hp, h2 _ (.tail _ (.tail _ (.head _))) hp⟩
    · exact ⟨h1 _ (.head _) hp, h1 _ (.tail _ (.head _)) hp, h1 _ (.tail _ (.tail _ (.head _))) hp⟩
    · exact o3 p (List.mem_append_left _ hp)
    · exact o3 p (List.mem_append_right _ hp)
section
local macro_rules | `(tactic| k_mem) => `(tactic| (refine List.mem_append_left _ ?_; k_mem))
local macro_rules | `(tactic| k_mem) => `(tactic| (refine List.mem_append_right _ ?_; k_mem))
local macro_rules | `(tactic| k_mem) => `(tactic| assumption)
local macro_rules | `(tactic| k_get) => `(tactic| assumption)
local macro_rules | `(tactic| k_room) => `(tactic| ktr_room)
local macro_rules | `(tactic| k_all) => `(tactic| first | assumption | exact ne_of_lt_all (by assumption) | ((repeat ((with_reducible rename (_ ∧ _) => hc); obtain ⟨_, _⟩ := hc)); exact ne_of_allLt (by assumption)))
local macro_rules | `(tactic| lcg_off) => `(tactic| assumption)
set_option maxRecDepth 100000 in
set_option maxHeartbeats 8000000 in
theorem rows_spec (w : World) (news : List (Addr × Obj)) (nl e : Nat) (vs : List Value) (ks : List Str) (h1 : (nl, listOf vs.toArray e) ∈ news) (hs : StrsAre vs ks) (hl : vs.length ≤ 20) :
    CSpec w 16 220 297 [.ref nl] news (fun r news' => ∃ g e tl rs, r = .ref g ∧ news' = (g, listOf rs.toArray e) :: (tl ++ news) ∧ RowsIn tl rs ks ∧ Apart news ((g, listOf rs.toArray e) :: tl)) := by
  k_with_none
  k_with "call ref" => (k_here; (with_reducible show wpAny _ _ (call (Value.ref _) [Value.ref _]) _ _ _); k_dflt (refine' (wsub_spec _ _ _) _ _ _ _ _ _ _ _ _ _ _ _ _ _ _ _ _ _ _ _ ?Bₖ ?Fₖ ?Xₖ ?Nₖ ?Tₖ ?kkₖ ?ddₖ ?uuₖ ?_; (case Fₖ => k_asm); (case Nₖ => k_asm); (case Bₖ => k_asm); (case Xₖ => k_asm); (case Tₖ => k_asm); (case kkₖ => first | exact rfl | assumption); (case ddₖ => ktr_room); (case uuₖ => ktr_units)); intro r'ₖ n'ₖ h'ₖ tk'ₖ F'ₖ N'ₖ hp'ₖ; obtain ⟨x'ₖ, tl'ₖ, er'ₖ, en'ₖ, ap'ₖ⟩ := hp'ₖ; subst er'ₖ; subst en'ₖ; (try dsimp only at N'ₖ); (try k_sweep))
  k_with "call ref" => (k_here; (with_reducible show wpAny _ _ (call (Value.ref _) [Value.int _ _]) _ _ _); k_dflt (refine' (itype_spec _ _ _) _ _ _ _ _ _ _ _ _ _ _ _ _ _ _ _ _ _ _ _ ?Bₖ ?Fₖ ?Xₖ ?Nₖ ?Tₖ ?kkₖ ?ddₖ ?uuₖ ?_; (case Fₖ => k_asm); (case Nₖ => k_asm); (case Bₖ => k_asm); (case Xₖ => k_asm); (case Tₖ => k_asm); (case kkₖ => first | exact rfl | assumption); (case ddₖ => ktr_room); (case uuₖ => ktr_units)); intro r'ₖ n'ₖ h'ₖ tk'ₖ F'ₖ N'ₖ hp'ₖ; obtain ⟨x'ₖ, tl'ₖ, er'ₖ, en'ₖ, ap'ₖ⟩ := hp'ₖ; subst er'ₖ; subst en'ₖ; (try dsimp only at N'ₖ); (try k_sweep))
  k_with "newTuple" => (k_here; k_dflt (refine' kup_newTuple ?k1ₖ ?k2ₖ ?zₖ ?_; (case k1ₖ => k_asm); (case k2ₖ => k_asm); (case zₖ => ((try simp only [List.length_cons, List.length_nil]); omega))); intro D'ₖ h'ₖ F'ₖ N'ₖ l1ₖ)
  k_with "eval ListComp" => (k_here; k_dflt (refine LCg.ListComp_U (F₀ := by k_asm) (by with_unfolding_all rfl) (by decide) (by rfl) (by decide) (by rfl) ?_))
  k_with "FinE" => ((unfold LCg.FinE); intro D'ₖ h'ₖ tk'ₖ F'ₖ N'ₖ o1'ₖ; (try simp only [List.nil_append, List.cons_append] at N'ₖ); (try dsimp only))
  have hseed : Seed PySem.Challenge.rw_pp0004_01 hd.heap_39 := by k_fill; trivial
  clear hseed
  unfold CSpec
  intro mean mg mb dp un gd cn cs a ccd cl outer A₀ base h₀ L m s Q E B F X N T hk hdp hun hret
  refine wpAny_call ?_
  k_dflt ktr_enter
  k_steps
  refine LCg.CompSrc.ledger (by rfl) (by k_asm) (by k_asm) (by k_mem) (by simp only [List.size_toArray]; rw [sizeLine_eq]; omega) ?_
  intro g9
  refine comprest_inv (n := vs.length) (fun i ys nw => ∃ tl, nw = tl ++ news ∧ RowsIn tl ys (ks.take i) ∧ Apart news tl) ?turn ?fin _ 0 [] _ (by simp) ⟨[], rfl, .nil, Apart.nil⟩
  case turn =>
    rintro i ys nw v I oI C oC D m₂ h tk E' hi hP ⟨tl, rfl, hys, ap⟩ hoC hx F3 N3 off ne
    obtain ⟨k, t', rfl, hk'⟩ := StrsAre_at hs (i := i) (by simpa using hP)
    k_steps
    rename Apart (_ :: _ :: _ :: _) _ => a1
    rename Apart (_ ++ _) _ => a2
    rename (∀ p ∈ (_ ++ _ : List (Addr × Obj)), p.1 < (_ : Addr)) => l1
    have kN := ‹News _ _ _ (_ :: (_ ++ _))›
    have o3 := off3_all off
    refine comp_end3 (by assumption) kN a1 a2 l1 off (Or.inr ⟨_, by k_mem, rfl, _, rfl⟩) ⟨_, rfl, ?_, ?_⟩
    · rw [take_snoc hk']
      exact rows_snoc (hys.mono fun p hp => by simp only [List.mem_cons, List.mem_append, hp, or_true]) (by exact .head _)
    · have hin : ∀ q ∈ news, q ∈ ((I, oI) : Addr × Obj) :: (C, oC) :: (D, LCg.lst ys) :: (tl ++ news) := fun q hq => by simp only [List.mem_cons, List.mem_append, hq, or_true]
      exact Apart.cons (fun q hq => Nat.ne_of_lt (l1 q (List.mem_append_right _ (List.mem_append_right _ (hin q hq))))) (Apart.append (fun q hq => a2 q (List.mem_append_right _ (hin q hq))) (Apart.append (fun q hq => a1 q (hin q hq)) ap))
  case fin =>
    rintro ys nw ⟨tl, rfl, hys, ap⟩
    have hks : ks.take vs.length = ks := by rw [StrsAre.length hs]; exact List.take_length
    rw [hks] at hys
    k_steps
    rename LCg.Off1 _ _ => o1
    have ho := ne_of_off1 o1
    exact hret _ _ _ _ (by k_asm) (by k_asm) ⟨_, _, tl, ys, rfl, rfl, hys, Apart.cons (fun q hq => ho q (List.mem_append_right _ hq)) ap⟩
end
end Mine
end
theorem Mine.calm_D1 : True := by (w_top off); exact True.intro
-- D2
section
namespace Mine
/-- a record type as the ledger bears it: its number and the names of its own parts -/
inductive TypeIn (w : World) (led : List (Addr × Obj)) (x : Nat) (num : Int) (ks : List Str) : Prop
  | mk (d lc ld op : Nat) (es : List DictEntry) (n ec ed : Nat) (oo : Obj) (cs : List Value) (t : Tok) (v1 v2 v3 v4 v5 v6 v7 v8 v9 v10 v11 v12 v13 : Value)
    (h1 : (x, instObj 204 d) ∈ led) (h2 : (d, dictOf es n) ∈ led) (h3 : (lc, listOf cs.toArray ec) ∈ led) (h4 : (ld, listOf #[] ed) ∈ led) (h5 : (op, oo) ∈ led) (h6 : oo.IsDictOf (strKind PG w) []) (h7 : (op == sysModules) = false) (hr : RowsIn led cs ks)
    (g1 : getL "components" es = some (some (.ref lc))) (g2 : getL "variant" es = some (some .none)) (g3 : getL "discriminants" es = some (some (.ref ld))) (g4 : getL "operations" es = some (some (.ref op))) (g5 : getL "number" es = some (some (.int num t)))
    (g6 : getL "kind" es = some (some v1)) (g7 : getL "low" es = some (some v2)) (g8 : getL "high" es = some (some v3)) (g9 : getL "literals" es = some (some v4)) (g10 : getL "modulus" es = some (some v5)) (g11 : getL "small" es = some (some v6)) (g12 : getL "index" es = some (some v7))
    (g13 : getL "component" es = some (some v8)) (g14 : getL "is_constrained" es = some (some v9)) (g15 : getL "designated" es = some (some v10)) (g16 : getL "is_constant" es = some (some v11)) (g17 : getL "is_tagged" es = some (some v12)) (g18 : getL "is_limited" es = some (some v13))
    (e1 : handedIn v1 = true) (e2 : handedIn v2 = true) (e3 : handedIn v3 = true) (e4 : handedIn v4 = true) (e5 : handedIn v5 = true) (e6 : handedIn v6 = true) (e7 : handedIn v7 = true) (e8 : handedIn v8 = true) (e9 : handedIn v9 = true) (e10 : handedIn v10 = true) (e11 : handedIn v11 = true) (e12 : handedIn v12 = true) (e13 : handedIn v13 = true) :
    TypeIn w led x num ks
theorem TypeIn.mono {w : World} {led led' : List (Addr × Obj)} {x : Nat} {num : Int} {ks : List Str} (h : TypeIn w led x num ks) (hs : ∀ p ∈ led, p ∈ led') : TypeIn w led' x num ks := by
  cases h with
  | mk d lc ld op es n ec ed oo cs t v1 v2 v3 v4 v5 v6 v7 v8 v9 v10 v11 v12 v13 h1 h2 h3 h4 h5 h6 h7 hr g1 g2 g3 g4 g5 g6 g7 g8 g9 g10 g11 g12 g13 g14 g15 g16 g17 g18 e1 e2 e3 e4 e5 e6 e7 e8 e9 e10 e11 e12 e13 =>
    exact .mk d lc ld op es n ec ed oo cs t v1 v2 v3 v4 v5 v6 v7 v8 v9 v10 v11 v12 v13 (hs _ h1) (hs _ h2) (hs _ h3) (hs _ h4) (hs _ h5) h6 h7 (hr.mono hs) g1 g2 g3 g4 g5 g6 g7 g8 g9 g10 g11 g12 g13 g14 g15 g16 g17 g18 e1 e2 e3 e4 e5 e6 e7 e8 e9 e10 e11 e12 e13
theorem empty_tab {w : World} {h₀ h : Heap} {L op : Addr} {oo : Obj} {news : List (Addr × Obj)} (N : News h₀ L h news) (hm : (op, oo) ∈ news) (hd : oo.IsDictOf (strKind PG w) []) (lo : (op == sysModules) = false) : TabAt (strKind PG w) PyData.str h op [] :=
  ⟨lo, [], Heap.dictOf_iff.mpr ⟨oo, (N _ hm).1, hd⟩, .nil⟩
theorem grown_mid {h₀ h : Heap} {L : Addr} {a1 a2 : Addr × Obj} {dd : Addr} {o : Obj} {tl news : List (Addr × Obj)} (bs : List (Addr × Obj)) (N : News h₀ L h (a1 :: a2 :: (tl ++ (bs ++ (dd, o) :: news)))) (hbs : ∀ p ∈ bs, @LT.lt Nat _ dd p.1) (hn : ∀ q ∈ news, @LT.lt Nat _ q.1 dd)
    (ap : Apart (bs ++ (dd, o) :: news) (a2 :: tl)) (ha : AllLt a1.1 (tl ++ (bs ++ (dd, o) :: news))) :
    ∃ T, News h₀ L h ((dd, o) :: (T ++ news)) ∧ (∀ p ∈ T ++ news, @Ne Nat p.1 dd) ∧ (∀ p ∈ a1 :: a2 :: (tl ++ bs), p ∈ T) ∧ ∀ o', Apart news ((dd, o') :: T) := by
  have ha' := allLt_mem ha
  have hd : ((dd, o) : Addr × Obj) ∈ bs ++ (dd, o) :: news := List.mem_append_right _ (.head _)
  have hT : ∀ p ∈ a1 :: a2 :: (tl ++ bs), ∀ q ∈ (dd, o) :: news, @Ne Nat q.1 p.1 := by
    intro p hp q hq
    have hq' : q ∈ bs ++ (dd, o) :: news := List.mem_append_right _ hq
    simp only [List.mem_cons, List.mem_append] at hp
    rcases hp with rfl | rfl | hp | hp
    · exact Nat.ne_of_lt (ha' q (List.mem_append_right _ hq'))
    · exact ap q hq' _ (.head _)
    · exact ap q hq' _ (.tail _ hp)
    · rcases List.mem_cons.mp hq with rfl | hq
      · exact Nat.ne_of_lt (hbs p hp)
      · exact Nat.ne_of_lt (Nat.lt_trans (hn q hq) (hbs p hp))
  refine ⟨a1 :: a2 :: (tl ++ bs), fun p hp => N p ?_, fun p hp => ?_, fun p hp => hp, fun o' => Apart.cons (fun q hq => Nat.ne_of_lt (hn q hq)) fun q hq p hp => hT p hp q (.tail _ hq)⟩
  · simp only [List.mem_cons, List.mem_append] at hp ⊢
    rcases hp with h | (h | h | h | h) | h <;> simp only [h, true_or, or_true]
  · rcases List.mem_append.mp hp with hp | hp
    · exact Ne.symm (hT p hp (dd, o) (.head _))
    · exact Nat.ne_of_lt (hn p hp)
section
local macro_rules | `(tactic| k_mem) => `(tactic| (refine List.mem_append_left _ ?_; k_mem))
local macro_rules | `(tactic| k_mem) => `(tactic| (refine List.mem_append_right _ ?_; k_mem))
local macro_rules | `(tactic| k_mem) => `(tactic| assumption)
local macro_rules | `(tactic| k_get) => `(tactic| assumption)
local macro_rules | `(tactic| k_handed) => `(tactic| assumption)
local macro_rules | `(tactic| k_room) => `(tactic| ktr_room)
local macro_rules | `(tactic| k_all) => `(tactic| first | assumption | exact ne_of_lt_all (by assumption) | ((repeat ((with_reducible rename (_ ∧ _) => hc); obtain ⟨_, _⟩ := hc)); exact ne_of_allLt (by assumption)))
set_option maxRecDepth 100000 in
set_option maxHeartbeats 8000000 in
theorem grown_spec (w : World) (news sub : List (Addr × Obj)) (hsub : ∀ p ∈ sub, p ∈ news) (px : Nat) (pn num : Int) (pk ks : List Str) (nm : Str) (t1 t2 : Tok) (nl e : Nat) (vs : List Value) (hp : TypeIn w sub px pn pk) (h1 : (nl, listOf vs.toArray e) ∈ news) (hs : StrsAre vs ks) (hl : vs.length ≤ 20) (hpl : pk.length ≤ 20) :
    CSpec w 24 400 304 [.ref px, .str nm t1, .int num t2, .ref nl] news (fun r news' => ∃ x tl, r = .ref x ∧ news' = tl ++ news ∧ TypeIn w (tl ++ sub) x num (pk ++ ks) ∧ Apart news tl) := by
  k_with_none
  k_with "call type:dict" => (k_here; (with_reducible show wpAny _ _ (call (Value.type "dict") [Value.ref _]) _ _ _); k_dflt (refine kt_dict_K (knd := PySem.strKind _ _) (enc := PyData.str) (D := []) (by k_asm) (by k_asm) (Top.nolimit (by k_asm)) (empty_tab (by k_asm) (by k_mem) (by assumption) (by assumption)) (by decide) ?_); intro d'ₖ h'ₖ o'ₖ kvs'ₖ F'ₖ N'ₖ l1ₖ lo'ₖ hd'ₖ hf'ₖ; have ek'ₖ : kvs'ₖ = [] := by (cases hf'ₖ; rfl); subst ek'ₖ; (try k_lt l1ₖ))
  k_with "call ref" => (k_here; (with_reducible show wpAny _ _ (call (Value.ref 204) [_, _]) _ _ _); k_dflt (refine' (type_spec _ _ _ _) _ _ _ _ _ _ _ _ _ _ _ _ _ _ _ _ _ _ _ _ ?Bₖ ?Fₖ ?Xₖ ?Nₖ ?Tₖ ?kkₖ ?ddₖ ?uuₖ ?_; (case Fₖ => k_asm); (case Nₖ => k_asm); (case Bₖ => k_asm); (case Xₖ => k_asm); (case Tₖ => k_asm); (case kkₖ => first | exact rfl | assumption); (case ddₖ => ktr_room); (case uuₖ => ktr_units)); intro r'ₖ n'ₖ h'ₖ tk'ₖ F'ₖ N'ₖ hp'ₖ; obtain ⟨x'ₖ, d'ₖ, li'ₖ, sm'ₖ, ix'ₖ, di'ₖ, co'ₖ, op'ₖ, o'ₖ, l1'ₖ, l2'ₖ, ⟨l3a'ₖ, l3b'ₖ, l3'ₖ⟩, ⟨l4a'ₖ, l4b'ₖ, l4c'ₖ, l4'ₖ⟩, ⟨l5a'ₖ, l5b'ₖ, l5c'ₖ, l5d'ₖ, l5'ₖ⟩, ⟨l6a'ₖ, l6b'ₖ, l6c'ₖ, l6d'ₖ, l6e'ₖ, l6'ₖ⟩, ⟨l7a'ₖ, l7b'ₖ, l7c'ₖ, l7d'ₖ, l7e'ₖ, l7f'ₖ, l7'ₖ⟩, ⟨l8a'ₖ, l8b'ₖ, l8c'ₖ, l8d'ₖ, l8e'ₖ, l8f'ₖ, l8g'ₖ, l8'ₖ⟩, lo'ₖ, hs'ₖ, fs'ₖ, hi'ₖ, fi'ₖ⟩ := hp'ₖ; (try k_lt l1'ₖ); (replace l3'ₖ := allLt_of l3'ₖ); (try simp only [AllLt, and_true] at l3'ₖ); (replace l4'ₖ := allLt_of l4'ₖ); (try simp only [AllLt, and_true] at l4'ₖ); (replace l5'ₖ := allLt_of l5'ₖ); (try simp only [AllLt, and_true] at l5'ₖ); (replace l6'ₖ := allLt_of l6'ₖ); (try simp only [AllLt, and_true] at l6'ₖ); (replace l7'ₖ := allLt_of l7'ₖ); (try simp only [AllLt, and_true] at l7'ₖ); (replace l8'ₖ := allLt_of l8'ₖ); (try simp only [AllLt, and_true] at l8'ₖ); (try k_sweep))
  k_with "call ref" => (k_here; (with_reducible show wpAny _ _ (call (Value.ref 297) [Value.ref _]) _ _ _); k_dflt (refine' (rows_spec _ _ _ _ _ _ ?h1ₖ ?hsₖ ?hlₖ) _ _ _ _ _ _ _ _ _ _ _ _ _ _ _ _ _ _ _ _ ?Bₖ ?Fₖ ?Xₖ ?Nₖ ?Tₖ ?kkₖ ?ddₖ ?uuₖ ?_; (case Fₖ => k_asm); (case Nₖ => k_asm); (case h1ₖ => k_mem); (case hsₖ => assumption); (case hlₖ => assumption); (case Bₖ => k_asm); (case Xₖ => k_asm); (case Tₖ => k_asm); (case kkₖ => first | exact rfl | assumption); (case ddₖ => ktr_room); (case uuₖ => ktr_units)); intro r'ₖ n'ₖ h'ₖ tk'ₖ F'ₖ N'ₖ hp'ₖ; obtain ⟨g'ₖ, e'ₖ, tl'ₖ, rs'ₖ, er'ₖ, en'ₖ, hrs'ₖ, ap'ₖ⟩ := hp'ₖ; subst er'ₖ; subst en'ₖ; (try dsimp only at N'ₖ); (try k_sweep))
  k_with "binaryOp Add ref ref" => (k_here; k_dflt (refine' add_led ?k1ₖ ?k2ₖ ?k3ₖ ?k4ₖ ?zₖ ?_; (case k1ₖ => k_asm); (case k2ₖ => k_asm); (case k3ₖ => k_mem); (case k4ₖ => k_mem); (case zₖ => ((try simp only [List.length_nil]); (try rename RowsIn _ _ _ => hrzₖ; have hrz'ₖ := hrzₖ.len); omega))); intro D'ₖ h'ₖ F'ₖ N'ₖ l1ₖ; (try simp only [List.nil_append] at N'ₖ); (try k_lt l1ₖ); (try k_sweep))
  have hseed : Seed PySem.Challenge.rw_pp0004_01 hd.heap_39 := by k_fill; trivial
  clear hseed
  cases hp with
  | mk d lc ld op es n ec ed oo pcs t v1 v2 v3 v4 v5 v6 v7 v8 v9 v10 v11 v12 v13 h1' h2' h3' h4' h5' h6' h7' hr g1 g2 g3 g4 g5 g6 g7 g8 g9 g10 g11 g12 g13 g14 g15 g16 g17 g18 e1 e2 e3 e4 e5 e6 e7 e8 e9 e10 e11 e12 e13 =>
  have s1 := h1'
  have s2 := h2'
  have s3 := h3'
  have s4 := h4'
  have s5 := h5'
  have sr := hr
  replace h1' := hsub _ h1'
  replace h2' := hsub _ h2'
  replace h3' := hsub _ h3'
  replace h4' := hsub _ h4'
  replace h5' := hsub _ h5'
  replace hr := hr.mono hsub
  clear s1 s2 s3 s5
  have hpcl : pcs.length ≤ 20 := by rw [hr.len]; exact hpl
  have hks : ks.length ≤ 20 := by rw [← StrsAre.length hs]; exact hl
  unfold CSpec
  intro mean mg mb dp un gd cn cs a ccd cl outer A₀ base h₀ L m s Q E B F X N T hk hdp hun hret
  refine wpAny_call ?_
  k_dflt ktr_enter
  k_steps
  rename News _ _ _ (_ :: _ :: (_ ++ _)) => N5
  rename Apart _ (_ :: _) => ap5
  rename RowsIn _ _ ks => hr5
  (repeat ((with_reducible rename (_ ∧ _) => hc); obtain ⟨_, _⟩ := hc))
  rename AllLt _ (_ ++ _) => ha5
  rename (∀ p ∈ news, p.1 < (_ : Addr)) => hn5
  obtain ⟨TT, N6, hne, hin, hap⟩ := grown_mid [_, _, _, _, _, _, _, _] N5 (by (intro p hp; simp only [List.mem_cons, List.not_mem_nil, or_false] at hp; rcases hp with rfl | rfl | rfl | rfl | rfl | rfl | rfl | rfl <;> assumption)) hn5 ap5 ha5
  have hx5 := hin _ (.tail _ (.tail _ (List.mem_append_right _ (.tail _ (.tail _ (.tail _ (.tail _ (.tail _ (.tail _ (.tail _ (.head _)))))))))))
  have hc5 := hin _ (.head _)
  have ho5 := hin _ (.tail _ (.tail _ (List.mem_append_right _ (.head _))))
  clear N5
  have hin2 : ∀ p ∈ _, p ∈ TT := fun p hp => hin p (.tail _ (.tail _ (List.mem_append_left _ hp)))
  clear hin
  k_steps
  have hf5 := ‹PyProof.V.FlatPairs _ _ _›
  cases hf5
  refine hret _ _ _ _ (by k_asm) (by k_asm) ⟨_, (_, _) :: TT, rfl, rfl, ?_, hap _⟩
  refine .mk _ _ ld _ _ _ _ ed _ (pcs ++ _) t2 v1 v2 v3 v4 v5 v6 v7 v8 v9 v10 v11 v12 v13 (List.mem_append_left _ (.tail _ hx5)) (List.mem_append_left _ (.head _)) (List.mem_append_left _ (.tail _ hc5)) (List.mem_append_right _ s4) (List.mem_append_left _ (.tail _ ho5)) (by assumption) (by assumption) ((sr.mono fun p hp => List.mem_append_right _ hp).append (hr5.mono fun p hp => List.mem_append_left _ (.tail _ (hin2 p hp)))) ?_ ?_ ?_ ?_ ?_ ?_ ?_ ?_ ?_ ?_ ?_ ?_ ?_ ?_ ?_ ?_ ?_ ?_ ?_ ?_ ?_ ?_ ?_ ?_ ?_ ?_ ?_ ?_ ?_ ?_ ?_
  all_goals first | assumption | exact rfl
end
end Mine
end
theorem Mine.calm_D2 : True := by (w_top off); exact True.intro
-- W0
section
namespace Mine
/-- a goal laid by -/
structure Hold (P : Prop) : Prop where
  out : P
theorem of_hold {P : Prop} (h : Hold P) : P := h.out
theorem execs_app (a b : List Stmt) (env : Env) : execs (a ++ b) env = (execs a env >>= fun f => match f with | .next => execs b env | f => pure f) := by
  induction a with
  | nil => rw [List.nil_append, execs_nil, pure_bind]
  | cons s a ih =>
    rw [List.cons_append, execs_cons, execs_cons, bind_assoc]
    congr 1
    funext f
    cases f <;> simp only [pure_bind, ih]
theorem execs_split {M : Model} {A : Around} {env : Env} {E : Value → Shared → Prop} {Q : Flow → Shared → Prop} {s : Shared} {l : List Stmt} (n : Nat) (J : Shared → Prop)
    (h1 : wpAny M A (execs (l.take n) env) (fun fl s₂ => match fl with | .next => J s₂ | f => Q f s₂) E s) (h2 : ∀ s₂, J s₂ → wpAny M A (execs (l.drop n) env) Q E s₂) : wpAny M A (execs l env) Q E s := by
  have e := execs_app (l.take n) (l.drop n) env
  rw [List.take_append_drop] at e
  rw [e]
  refine wpAny_bind (wpAny_mono h1 (fun f s₂ h => ?_) fun _ _ h => h)
  cases f
  case next => exact h2 s₂ h
  all_goals exact wpAny_pure h
theorem kms_take (vs : List Value) {k : Int} (hk : 0 ≤ k) : kms_pick vs none (some k) = vs.take k.toNat := by
  unfold kms_pick kms_lo kms_hi
  simp only [List.drop_zero, Nat.sub_zero]
  rw [if_neg (by omega)]
  rcases Nat.le_total k.toNat vs.length with h | h
  · rw [Nat.min_eq_left h]
  · rw [Nat.min_eq_right h, List.take_of_length_le h, List.take_of_length_le (Nat.le_refl _)]
section
variable {prog : Program} {w : World} {A : Around} {E : Value → Shared → Prop} {s : Shared} {h₀ : Heap} {L l : Addr} {m : Str → Option Value} {news : List (Addr × Obj)} {value slice : PySem.Expr} {Q : Value → Shared → Prop}
theorem slice_take {vs : List Value} {k : Int} {t : Tok} {n : Nat} (F : Fr h₀ L s.heap m) (N : News h₀ L s.heap news) (hm : (l, listOf vs.toArray n) ∈ news) (hk : 0 ≤ k)
    (h : ∀ D h', Fr h₀ L h' m → News h₀ L h' ((D, listOf (vs.take k.toNat).toArray 0) :: news) → (∀ p ∈ news, p.1 < D) → Q (.ref D) { s with heap := h' })
    (hs : subscripted slice false (.ref l) (.ref s.heap.objs.size) = operate [.ref s.heap.objs.size, .ref l] (getItem (.ref l) (.ref s.heap.objs.size))) (ht : ∀ r, letTemporaryGo value (.ref l) r = pure ()) (hz : vs.length ≤ 10000) :
    wpAny (model prog w) A (subscriptTail value slice (.ref l) (.ref s.heap.objs.size)) Q E { s with heap := s.heap.push { cls := .type "slice", data := .fields #[.none, .int k t, .none] } } :=
  kms_slice_lit F N (isList_led N hm) IsPart.none (IsPart.int k t) (by simpa using kms_take vs hk) h hs ht (by simp only [List.size_toArray]; rw [sizeLine_eq]; omega)
theorem strs_take {vs : List Value} {ks : List Str} (h : StrsAre vs ks) : ∀ n, StrsAre (vs.take n) (ks.take n) := by
  induction h with
  | nil => intro n; simpa using StrsAre.nil
  | cons k t _ ih =>
    intro n
    cases n with
    | zero => exact .nil
    | succ n => exact .cons k t (ih n)
theorem slice_strs {vs : List Value} {ks : List Str} {k : Int} {t : Tok} {n : Nat} (F : Fr h₀ L s.heap m) (N : News h₀ L s.heap news) (hm : (l, listOf vs.toArray n) ∈ news) (hv : StrsAre vs ks) (hk : 0 ≤ k)
    (h : ∀ (D : Nat) h' zs, Fr h₀ L h' m → News h₀ L h' ((D, listOf zs.toArray 0) :: news) → StrsAre zs (ks.take k.toNat) → zs.length ≤ 10 → (∀ p ∈ news, p.1 < D) → Q (.ref D) { s with heap := h' })
    (hs : subscripted slice false (.ref l) (.ref s.heap.objs.size) = operate [.ref s.heap.objs.size, .ref l] (getItem (.ref l) (.ref s.heap.objs.size))) (ht : ∀ r, letTemporaryGo value (.ref l) r = pure ()) (hz : vs.length ≤ 10) :
    wpAny (model prog w) A (subscriptTail value slice (.ref l) (.ref s.heap.objs.size)) Q E { s with heap := s.heap.push { cls := .type "slice", data := .fields #[.none, .int k t, .none] } } :=
  slice_take F N hm hk (fun D h' F' N' l1 => h D h' _ F' N' (strs_take hv _) (by rw [List.length_take]; omega) l1) hs ht (by omega)
end
theorem kms_drop (vs : List Value) {k : Int} (hk : 0 ≤ k) : kms_pick vs (some k) none = vs.drop k.toNat := by
  unfold kms_pick kms_lo kms_hi
  simp only
  rw [if_neg (by omega)]
  rcases Nat.le_total k.toNat vs.length with h | h
  · rw [Nat.min_eq_left h, List.take_of_length_le (by rw [List.length_drop]; exact Nat.le_refl _)]
  · rw [Nat.min_eq_right h, Nat.sub_self, List.take_zero, List.drop_eq_nil_of_le h]
theorem strs_drop {vs : List Value} {ks : List Str} (h : StrsAre vs ks) : ∀ n, StrsAre (vs.drop n) (ks.drop n) := by
  induction h with
  | nil => intro n; simpa using StrsAre.nil
  | cons k t h ih =>
    intro n
    cases n with
    | zero => exact .cons k t h
    | succ n => exact ih n
section
variable {prog : Program} {w : World} {A : Around} {E : Value → Shared → Prop} {s : Shared} {h₀ : Heap} {L l : Addr} {m : Str → Option Value} {news : List (Addr × Obj)} {value slice : PySem.Expr} {Q : Value → Shared → Prop}
theorem slice_drops {vs : List Value} {ks : List Str} {k : Int} {t : Tok} {n : Nat} (F : Fr h₀ L s.heap m) (N : News h₀ L s.heap news) (hm : (l, listOf vs.toArray n) ∈ news) (hv : StrsAre vs ks) (hk : 0 ≤ k)
    (h : ∀ (D : Nat) h' zs, Fr h₀ L h' m → News h₀ L h' ((D, listOf zs.toArray 0) :: news) → StrsAre zs (ks.drop k.toNat) → zs.length ≤ 10 → (∀ p ∈ news, p.1 < D) → Q (.ref D) { s with heap := h' })
    (hs : subscripted slice false (.ref l) (.ref s.heap.objs.size) = operate [.ref s.heap.objs.size, .ref l] (getItem (.ref l) (.ref s.heap.objs.size))) (ht : ∀ r, letTemporaryGo value (.ref l) r = pure ()) (hz : vs.length ≤ 10) :
    wpAny (model prog w) A (subscriptTail value slice (.ref l) (.ref s.heap.objs.size)) Q E { s with heap := s.heap.push { cls := .type "slice", data := .fields #[.int k t, .none, .none] } } :=
  kms_slice_lit F N (isList_led N hm) (IsPart.int k t) IsPart.none (by simpa using kms_drop vs hk) (fun D h' F' N' l1 => h D h' _ F' N' (strs_drop hv _) (by rw [List.length_drop]; omega) l1) hs ht (by simp only [List.size_toArray]; rw [sizeLine_eq]; omega)
end
end Mine
end
-- W2
section
namespace Mine
theorem knob_pull {h₀ h : Heap} {L kn : Addr} {ko oc : Obj} {news : List (Addr × Obj)} {g : Obj → List (Addr × Obj)} (_ : oc.data = Data.cell (some (.ref kn))) (U : UpdF kn ko news g) (N : News h₀ L h news) :
    ∃ T, News h₀ L h ((kn, ko) :: T) ∧ (∀ p ∈ T, @Ne Nat p.1 kn) ∧ (∀ p ∈ news, p ≠ (kn, ko) → p ∈ T) := by
  obtain ⟨pre, post, rfl, hg, a, b⟩ := U.split
  refine ⟨pre ++ post, fun p hp => N p ?_, fun p hp => (List.mem_append.mp hp).elim (a p) (b p), fun p hp hn => ?_⟩
  · simp only [List.mem_cons, List.mem_append] at hp ⊢
    rcases hp with h | h | h <;> simp only [h, true_or, or_true]
  · simp only [List.mem_cons, List.mem_append] at hp ⊢
    rcases hp with h | h | h
    · exact .inl h
    · exact absurd h hn
    · exact .inr h
theorem knob_pull2 {h₀ h : Heap} {L kn : Addr} {ko oc : Obj} (f1 tl f2 back : List (Addr × Obj)) (_ : oc.data = Data.cell (some (.ref kn))) (N : News h₀ L h (f1 ++ (tl ++ (f2 ++ (kn, ko) :: back)))) (h1 : ∀ p ∈ f1, @Ne Nat p.1 kn) (h2 : ∀ p ∈ tl, @Ne Nat p.1 kn) (h3 : ∀ p ∈ f2, @Ne Nat p.1 kn) (h4 : ∀ p ∈ back, @Ne Nat p.1 kn) :
    ∃ T, News h₀ L h ((kn, ko) :: T) ∧ (∀ p ∈ T, @Ne Nat p.1 kn) ∧ (∀ p ∈ f1 ++ (tl ++ (f2 ++ (kn, ko) :: back)), p ≠ (kn, ko) → p ∈ T) := by
  refine ⟨f1 ++ (tl ++ (f2 ++ back)), fun p hp => N p ?_, fun p hp => ?_, fun p hp hn => ?_⟩
  · simp only [List.mem_cons, List.mem_append] at hp ⊢
    rcases hp with h | h | h | h | h <;> simp only [h, true_or, or_true]
  · simp only [List.mem_append] at hp
    rcases hp with h | h | h | h
    · exact h1 p h
    · exact h2 p h
    · exact h3 p h
    · exact h4 p h
  · simp only [List.mem_cons, List.mem_append] at hp ⊢
    rcases hp with h | h | h | h | h
    · exact .inl h
    · exact .inr (.inl h)
    · exact .inr (.inr (.inl h))
    · exact absurd h hn
    · exact .inr (.inr (.inr h))
abbrev knobOf (sl : Addr) (i : Int) (t : Tok) (n : Nat) : Obj := listOf #[.ref sl, .int i t] n
theorem listOf_inj {a b : Array Value} {n m : Nat} (h : listOf a n = listOf b m) : a = b := by
  have h2 := congrArg Obj.data h
  simp only [W.listOf, Data.seq.injEq] at h2
  exact h2.1
theorem ne_strs {kn hl sl : Addr} {i : Int} {t : Tok} {n e : Nat} {zs : List Value} {ks : List Str} (hs : StrsAre zs ks) : ((hl, listOf zs.toArray e) : Addr × Obj) ≠ (kn, knobOf sl i t n) := by
  intro h
  have h2 := listOf_inj (Prod.mk.inj h).2
  have h3 : zs = [.ref sl, .int i t] := by simpa using congrArg Array.toList h2
  subst h3
  cases hs
theorem ne_rows {kn hl sl : Addr} {i : Int} {t : Tok} {n e : Nat} {zs : List Value} {ks : List Str} {led : List (Addr × Obj)} (hs : RowsIn led zs ks) : ((hl, listOf zs.toArray e) : Addr × Obj) ≠ (kn, knobOf sl i t n) := by
  intro h
  have h2 := listOf_inj (Prod.mk.inj h).2
  have h3 : zs = [.ref sl, .int i t] := by simpa using congrArg Array.toList h2
  subst h3
  cases hs with
  | cons _ h => cases h
theorem ne_cls {kn x sl : Addr} {i : Int} {t : Tok} {n : Nat} {o : Obj} (hs : o.cls ≠ .type "list") : ((x, o) : Addr × Obj) ≠ (kn, knobOf sl i t n) := by
  intro h
  exact hs (by rw [(Prod.mk.inj h).2])
theorem ne_ints {kn x sl : Addr} {i : Int} {t : Tok} {n e : Nat} {xs : List Value} {ns : List Int} (hs : IntsAre xs ns) : ((x, listOf xs.toArray e) : Addr × Obj) ≠ (kn, knobOf sl i t n) := by
  intro h
  have h2 := listOf_inj (Prod.mk.inj h).2
  have h3 : xs = [.ref sl, .int i t] := by simpa using congrArg Array.toList h2
  subst h3
  cases hs
theorem RowsIn.pull {led T : List (Addr × Obj)} {kn sl : Addr} {i : Int} {t : Tok} {n : Nat} {vs ks} (h : RowsIn led vs ks) (hp : ∀ p ∈ led, p ≠ (kn, knobOf sl i t n) → p ∈ T) : RowsIn T vs ks := by
  induction h with
  | nil => exact .nil
  | cons a _ ih => exact .cons (hp _ a (ne_cls (fun h => absurd h (by simp [tupOf])))) ih
theorem TypeIn.pull {w : World} {led T : List (Addr × Obj)} {kn sl : Addr} {i : Int} {t : Tok} {n : Nat} {x : Nat} {num : Int} {ks} (h : TypeIn w led x num ks) (hp : ∀ p ∈ led, p ≠ (kn, knobOf sl i t n) → p ∈ T) : TypeIn w T x num ks := by
  cases h with
  | mk d lc ld op es n ec ed oo cs t v1 v2 v3 v4 v5 v6 v7 v8 v9 v10 v11 v12 v13 h1 h2 h3 h4 h5 h6 h7 hr g1 g2 g3 g4 g5 g6 g7 g8 g9 g10 g11 g12 g13 g14 g15 g16 g17 g18 e1 e2 e3 e4 e5 e6 e7 e8 e9 e10 e11 e12 e13 =>
    refine .mk d lc ld op es n ec ed oo cs t v1 v2 v3 v4 v5 v6 v7 v8 v9 v10 v11 v12 v13 (hp _ h1 (ne_cls ?_)) (hp _ h2 (ne_cls ?_)) (hp _ h3 (ne_rows hr)) (hp _ h4 ?_) (hp _ h5 ?_) h6 h7 (hr.pull hp) g1 g2 g3 g4 g5 g6 g7 g8 g9 g10 g11 g12 g13 g14 g15 g16 g17 g18 e1 e2 e3 e4 e5 e6 e7 e8 e9 e10 e11 e12 e13
    · intro h; exact absurd h (by simp [instObj])
    · intro h; exact absurd h (by simp [dictOf])
    · exact ne_strs (zs := []) .nil
    · obtain ⟨es', ep, hx⟩ := h6
      intro h
      have h8 := congrArg Obj.data (Prod.mk.inj h).2
      rw [hx.2.1] at h8
      cases h8
/-- the law's list of draws, as the ledger bears it beside the place where it is counted -/
structure Knob (T : List (Addr × Obj)) (kn sl : Nat) (xs : List Value) (ns : List Int) (n2 : Nat) (cell : Nat) (oc : Obj) : Prop where
  hsl : (sl, listOf xs.toArray n2) ∈ T
  hx : IntsAre xs ns
  hlen : ns.length ≤ 24
  hne : kn ≠ sl
  hT : ∀ p ∈ T, @Ne Nat p.1 kn
  hc : (cell, oc) ∈ T
  hd : oc.data = Data.cell (some (.ref kn))
/-- after the base type is made -/
inductive J0 (w : World) (h₀ : Heap) (L : Nat) (s s₂ : Shared) : Prop
  | mk (h : Heap) (tk : Nat) (m : Str → Option Value) (kn sl : Nat) (xs : List Value) (ns : List Int) (n1 n2 : Nat) (i : Int) (t : Tok) (oc : Obj) (T : List (Addr × Obj)) (hl : Nat) (zs : List Value) (e : Nat) (H : List Str) (k : Int) (bx : Nat)
    (es : s₂ = { s with heap := h, toks := tk }) (F : Fr h₀ L h m) (N : News h₀ L h ((kn, knobOf sl i t n1) :: T)) (K : Knob T kn sl xs ns n2 (L + 1) oc) (i0 : 0 ≤ i) (i1 : i ≤ 5)
    (h1 : (hl, listOf zs.toArray e) ∈ T) (hz : StrsAre zs H) (hzl : zs.length ≤ 10) (hH : H = (["a", "b", "c"] : List Str).take k.toNat) (k0 : 1 ≤ k) (k1 : k ≤ 3)
    (m1 : m "heads" = some (.ref hl)) (m2 : m "base" = some (.ref bx)) (hb : TypeIn w T bx 41 H) : J0 w h₀ L s s₂
theorem Upd_app {d : Addr} {o o' : Obj} {r r' tl : List (Addr × Obj)} (h : ∀ p ∈ tl, @Ne Nat p.1 d) (u : Upd d o o' r r') : Upd d o o' (tl ++ r) (tl ++ r') := by
  induction tl with
  | nil => exact u
  | cons a tl ih => exact .tail (h a (.head _)) (ih fun p hp => h p (.tail _ hp))
theorem UpdF_app {d : Addr} {o : Obj} {r tl : List (Addr × Obj)} {g : Obj → List (Addr × Obj)} (h : ∀ p ∈ tl, @Ne Nat p.1 d) (u : UpdF d o r g) : UpdF d o (tl ++ r) (fun o' => tl ++ g o') := by
  induction tl with
  | nil => exact u
  | cons a tl ih => exact .tail (h a (.head _)) (ih fun p hp => h p (.tail _ hp))
theorem ap_ne {news tl : List (Addr × Obj)} (ap : Apart news tl) {d : Addr} {o : Obj} (hm : (d, o) ∈ news) {tl' : List (Addr × Obj)} (hs : ∀ p ∈ tl', p ∈ tl) : ∀ p ∈ tl', @Ne Nat p.1 d := fun p hp => Ne.symm (ap (d, o) hm p (hs p hp))
theorem gt_ne {l : List (Addr × Obj)} {D : Nat} (h : AllLt D l) {d : Addr} {o : Obj} (hm : (d, o) ∈ l) : @Ne Nat D d := Nat.ne_of_gt (allLt_mem h (d, o) hm)
abbrev MenuH (H : List Str) : Prop := H ∈ ([["a"], ["a", "b"], ["a", "b", "c"]] : List (List Str))
abbrev MenuX (X : List Str) : Prop := X ∈ ([[], ["x"], ["x", "y"], ["z"], ["x", "z"], ["x", "y", "z"]] : List (List Str))
/-- after the names of the value's own type are chosen -/
inductive J1 (w : World) (h₀ : Heap) (L : Nat) (s s₂ : Shared) : Prop
  | mk (h : Heap) (tk : Nat) (m : Str → Option Value) (kn sl : Nat) (xs : List Value) (ns : List Int) (n1 n2 : Nat) (i : Int) (t : Tok) (oc : Obj) (T : List (Addr × Obj)) (hl : Nat) (zs : List Value) (e : Nat) (H X : List Str) (bx ln dx fx ow : Nat) (el : Nat) (g : Int) (tg : Tok) (zo : List Value) (eo : Nat) (D1 D2 : List Str)
    (es : s₂ = { s with heap := h, toks := tk }) (F : Fr h₀ L h m) (N : News h₀ L h ((kn, knobOf sl i t n1) :: T)) (K : Knob T kn sl xs ns n2 (L + 1) oc) (i0 : 0 ≤ i) (i1 : i ≤ 10)
    (h1 : (hl, listOf zs.toArray e) ∈ T) (hz : StrsAre zs H) (hzl : zs.length ≤ 10) (hH : MenuH H) (hX : MenuX X)
    (h2 : (ln, listOf #[.ref bx, .ref dx, .ref fx] el) ∈ T) (g0 : 0 ≤ g) (g1 : g < 3) (h3 : (ow, listOf zo.toArray eo) ∈ T) (hzo : StrsAre zo (H ++ X)) (hzol : zo.length ≤ 10)
    (m1 : m "heads" = some (.ref hl)) (m2 : m "base" = some (.ref bx)) (m3 : m "line" = some (.ref ln)) (m4 : m "tag" = some (.int g tg)) (m5 : m "own" = some (.ref ow))
    (hb : TypeIn w T bx 41 H) (hd1 : TypeIn w T dx 42 D1) (hd2 : TypeIn w T fx 43 D2) : J1 w h₀ L s s₂
end Mine
end
-- LW
section
namespace Mine
noncomputable def lastStmt : List Stmt → Option Stmt
  | [] => none
  | [s] => some s
  | _ :: b :: r => lastStmt (b :: r)
def bodyOf : Option Stmt → List Stmt
  | some (.FunctionDef _ _ b _ _ _ _ _ _ _) => b
  | _ => []
def scopeOf : Option Stmt → Scope
  | some (.FunctionDef _ _ _ _ _ _ s _ _ _) => s
  | _ => { kind := .function, names := [], isGenerator := false, isCoroutine := false }
/-- the law's own statements and names -/
noncomputable def lawBody : List Stmt := bodyOf (lastStmt PySem.Challenge.pw_pp0004_01.main.body)
noncomputable def lawScope : Scope := scopeOf (lastStmt PySem.Challenge.pw_pp0004_01.main.body)
noncomputable abbrev lawEnv (h₀ : Heap) (fa : Addr) (cd : Value) : Env := envOfC (Str.ofString "law") lawScope h₀.objs.size fa cd
/-- some of the law's statements, from a condition to a condition -/
def Seg (w : World) (a n : Nat) (J J' : World → Heap → Nat → Shared → Shared → Prop) : Prop :=
  ∀ (h₀ : Heap) (mean : ExcName → Option Value) (mg mb : Str → Option Value) (fa : Addr) (cd : Value) (s s₂ : Shared) (Q : Flow → Shared → Prop) (E : Value → Shared → Prop),
    Below callerA h₀ [] h₀ → (hd.heap_39 w.params).In h₀ → Top VW (looseW VW []) mean mg mb h₀ → J w h₀ h₀.objs.size s s₂ → (∀ s₃, J' w h₀ h₀.objs.size s s₃ → Q .next s₃) →
      wpAny (model PG w) (callerA.deeper (lawEnv h₀ fa cd)) (execs ((lawBody.drop a).take n) (lawEnv h₀ fa cd)) Q E s₂
/-- the heap is a function: what lies elsewhere than the knob can be laid behind it -/
theorem knob_abs {h₀ h : Heap} {L kn : Addr} {ko : Obj} {big : List (Addr × Obj)} (N : News h₀ L h big) (hm : (kn, ko) ∈ big) :
    ∃ T, News h₀ L h ((kn, ko) :: T) ∧ (∀ p ∈ T, @Ne Nat p.1 kn) ∧ (∀ p ∈ big, p ≠ (kn, ko) → p ∈ T) := by
  refine ⟨big.filter fun p => decide (@Ne Nat p.1 kn), fun p hp => ?_, fun p hp => ?_, fun p hp hn => ?_⟩
  · rcases List.mem_cons.mp hp with rfl | hp
    · exact N _ hm
    · exact N _ (List.mem_filter.mp hp).1
  · exact of_decide_eq_true (List.mem_filter.mp hp).2
  · refine List.mem_filter.mpr ⟨hp, decide_eq_true fun e => hn ?_⟩
    obtain ⟨a, o⟩ := p
    dsimp only at e
    subst e
    have h1 := (N _ hp).1
    have h2 := (N _ hm).1
    rw [h1] at h2
    have h3 : o = ko := Option.some.inj h2
    rw [h3]
end Mine
end
-- LX
section
namespace Mine
/-- the law between two statements: its frame is m, the knob lies in front, the rest of the ledger is T -/
inductive LawAt (top : Int) (P : World → (Str → Option Value) → List (Addr × Obj) → Prop) (w : World) (h₀ : Heap) (L : Nat) (s s₂ : Shared) : Prop
  | mk (h : Heap) (tk : Nat) (m : Str → Option Value) (kn sl : Nat) (xs : List Value) (ns : List Int) (n1 n2 : Nat) (i : Int) (t : Tok) (oc : Obj) (T : List (Addr × Obj))
    (es : s₂ = { s with heap := h, toks := tk }) (F : Fr h₀ L h m) (N : News h₀ L h ((kn, knobOf sl i t n1) :: T)) (K : Knob T kn sl xs ns n2 (L + 1) oc) (i0 : 0 ≤ i) (i1 : i ≤ top) (hP : P w m T) : LawAt top P w h₀ L s s₂
theorem ne_cell {kn x sl : Addr} {i : Int} {t : Tok} {n : Nat} {o : Obj} {c : Option Value} (hs : o.data = Data.cell c) : ((x, o) : Addr × Obj) ≠ (kn, knobOf sl i t n) := by
  intro h
  have h8 := congrArg Obj.data (Prod.mk.inj h).2
  rw [hs] at h8
  cases h8
theorem LawAt.close {top : Int} {P : World → (Str → Option Value) → List (Addr × Obj) → Prop} {w : World} {h₀ : Heap} {L : Nat} {s : Shared} {h : Heap} {tk : Nat} {m : Str → Option Value} {kn sl : Nat} {xs : List Value} {ns : List Int} {n1 n2 : Nat} {i : Int} {t : Tok} {oc : Obj} {big : List (Addr × Obj)}
    (F : Fr h₀ L h m) (N : News h₀ L h big) (hk : (kn, knobOf sl i t n1) ∈ big) (hsl : (sl, listOf xs.toArray n2) ∈ big) (hx : IntsAre xs ns) (hlen : ns.length ≤ 24) (hne : kn ≠ sl) (hc : (L + 1, oc) ∈ big) (hd : oc.data = Data.cell (some (.ref kn))) (i0 : 0 ≤ i) (i1 : i ≤ top)
    (hP : ∀ T, (∀ p ∈ big, p ≠ (kn, knobOf sl i t n1) → p ∈ T) → P w m T) : LawAt top P w h₀ L s { s with heap := h, toks := tk } := by
  obtain ⟨T, N', hT, hin⟩ := knob_abs N hk
  exact .mk h tk m kn sl xs ns n1 n2 i t oc T rfl F N' ⟨hin _ hsl fun e => hne (congrArg Prod.fst e).symm, hx, hlen, hne, hT, hin _ hc (ne_cell hd), hd⟩ i0 i1 (hP T hin)
theorem ne_len {kn x sl : Addr} {i : Int} {t : Tok} {n e : Nat} {zs : List Value} (hz : zs.length ≠ 2) : ((x, listOf zs.toArray e) : Addr × Obj) ≠ (kn, knobOf sl i t n) := by
  intro h
  have h2 := listOf_inj (Prod.mk.inj h).2
  have h3 : zs = [.ref sl, .int i t] := by simpa using congrArg Array.toList h2
  subst h3
  exact hz rfl
/-- an object drawn to the front, behind the knob -/
theorem front2 {h₀ h : Heap} {L kn a : Addr} {ko o : Obj} {T : List (Addr × Obj)} (N : News h₀ L h ((kn, ko) :: T)) (hT : ∀ p ∈ T, @Ne Nat p.1 kn) (hm : (a, o) ∈ T) :
    ∃ T', News h₀ L h ((kn, ko) :: (a, o) :: T') ∧ @Ne Nat a kn ∧ (∀ p ∈ T', @Ne Nat p.1 kn) ∧ (∀ p ∈ T', @Ne Nat p.1 a) ∧ (∀ p ∈ T, p ≠ (a, o) → p ∈ T') ∧ ∀ p ∈ T', p ∈ T := by
  obtain ⟨T', N', h1, h2⟩ := knob_abs (big := T) (fun p hp => N p (.tail _ hp)) hm
  refine ⟨T.filter fun p => decide (@Ne Nat p.1 a), fun p hp => ?_, hT _ hm, fun p hp => hT p (List.mem_filter.mp hp).1, fun p hp => of_decide_eq_true (List.mem_filter.mp hp).2, fun p hp hn => ?_, fun p hp => (List.mem_filter.mp hp).1⟩
  · rcases List.mem_cons.mp hp with rfl | hp
    · exact N _ (.head _)
    · rcases List.mem_cons.mp hp with rfl | hp
      · exact N _ (.tail _ hm)
      · exact N _ (.tail _ (List.mem_filter.mp hp).1)
  · exact List.mem_filter.mpr ⟨hp, decide_eq_true (h1 p (h2 p hp hn))⟩
section
variable {prog : Program} {w : World} {A : Around} {E : Value → Shared → Prop} {s : Shared} {h₀ : Heap} {L l : Addr} {news : List (Addr × Obj)} {value slice : PySem.Expr} {Q : Value → Shared → Prop}
/-- an item at a place that is not written -/
theorem item_led {vs : List Value} {k : Int} {u : Tok} {n : Nat} (N : News h₀ L s.heap news) (hm : (l, listOf vs.toArray n) ∈ news) (h0 : 0 ≤ k) (h1 : k < vs.length) (hb : vs.length ≤ 100) (h : ∀ v, vs[k.toNat]? = some v → Q v s)
    (hs : subscripted slice false (.ref l) (.int k u) = operate [.ref l, .int k u] (getItem (.ref l) (.int k u)) := by with_unfolding_all rfl) :
    wpAny (model prog w) A (subscriptTail value slice (.ref l) (.int k u)) Q E s := by
  have hl := isList_led N hm
  obtain ⟨v, hv⟩ : ∃ v, vs[k.toNat]? = some v := ⟨_, List.getElem?_eq_getElem (by omega)⟩
  exact tail_any hl.typeIs slot_list_getitem.lookup (wpAny_getItem_list hl h0 (by omega) (by simpa using hv) (h v hv)) hs
end
/-- a list of names that a name of the frame holds -/
structure StrL (m : Str → Option Value) (T : List (Addr × Obj)) (x : Str) (K : List Str) (a : Nat) (zs : List Value) (e : Nat) : Prop where
  hm : m x = some (.ref a)
  hT : (a, listOf zs.toArray e) ∈ T
  hs : StrsAre zs K
  hl : zs.length ≤ 10
abbrev MenuM (M : List Str) : Prop := M ∈ ([[], ["x"], ["x", "y"]] : List (List Str))
abbrev MenuL (M : List Str) : Prop := M ∈ ([[], ["z"]] : List (List Str))
theorem menu_H {k : Int} (h0 : 1 ≤ k) (h1 : k ≤ 3) : MenuH ((["a", "b", "c"] : List Str).take k.toNat) := by
  rcases (show k = 1 ∨ k = 2 ∨ k = 3 by omega) with rfl | rfl | rfl <;> decide
theorem menu_M {k : Int} (h0 : 0 ≤ k) (h1 : k < 3) : MenuM ((["x", "y", "z"] : List Str).take k.toNat) := by
  rcases (show k = 0 ∨ k = 1 ∨ k = 2 by omega) with rfl | rfl | rfl <;> decide
theorem menu_L {k : Int} (h0 : 0 ≤ k) (h1 : k < 2) : MenuL (((["x", "y", "z"] : List Str).drop (Int.toNat 2)).take k.toNat) := by
  rcases (show k = 0 ∨ k = 1 by omega) with rfl | rfl <;> decide
theorem menu_X {M L : List Str} (h : MenuM M) (h2 : MenuL L) : MenuX [] ∧ MenuX M ∧ MenuX (M ++ L) := by
  simp only [MenuM, MenuL, List.mem_cons, List.not_mem_nil, or_false] at h h2
  rcases h with rfl | rfl | rfl <;> rcases h2 with rfl | rfl <;> decide
/-- the line is made -/
inductive P1 (w : World) (m : Str → Option Value) (T : List (Addr × Obj)) : Prop
  | mk (hl : Nat) (zs : List Value) (e : Nat) (H : List Str) (mo : Nat) (zm : List Value) (em : Nat) (M : List Str) (la : Nat) (zl : List Value) (ela : Nat) (La : List Str) (bx dx fx ln eln : Nat)
    (A1 : StrL m T "heads" H hl zs e) (hH : MenuH H) (A2 : StrL m T "more" M mo zm em) (hM : MenuM M) (A3 : StrL m T "last" La la zl ela) (hL : MenuL La)
    (m2 : m "base" = some (.ref bx)) (hb : TypeIn w T bx 41 H) (hd : TypeIn w T dx 42 (H ++ M)) (hf : TypeIn w T fx 43 (H ++ M ++ La))
    (m3 : m "line" = some (.ref ln)) (h3 : (ln, listOf #[.ref bx, .ref dx, .ref fx] eln) ∈ T) : P1 w m T
/-- the value's own names are chosen -/
inductive P2 (w : World) (m : Str → Option Value) (T : List (Addr × Obj)) : Prop
  | mk (hl : Nat) (zs : List Value) (e : Nat) (H : List Str) (ow : Nat) (zo : List Value) (eo : Nat) (X : List Str) (bx dx fx ln eln : Nat) (g : Int) (tg : Tok) (n1 n2 : List Str)
    (A1 : StrL m T "heads" H hl zs e) (hH : MenuH H) (A2 : StrL m T "own" (H ++ X) ow zo eo) (hX : MenuX X)
    (m2 : m "base" = some (.ref bx)) (hb : TypeIn w T bx 41 H) (hd : TypeIn w T dx 42 n1) (hf : TypeIn w T fx 43 n2)
    (m3 : m "line" = some (.ref ln)) (h3 : (ln, listOf #[.ref bx, .ref dx, .ref fx] eln) ∈ T) (m4 : m "tag" = some (.int g tg)) (g0 : 0 ≤ g) (g1 : g < 3) : P2 w m T
end Mine
end
-- XD
section
set_option maxRecDepth 100000
namespace Mine
theorem entry_dul : entryFor table "dict.update.loop" = some Builtin.«dict.update.loop» := entryFor_of_tree (by kernel_rfl)
theorem plain_dul : plainId "dict.update.loop" = true := by decide +kernel
theorem miss_keys : typeLookup (.type "list") "keys" = pure none := am_miss_of_fast (by decide +kernel)
section
variable {prog : Program} {w : World} {A : Around} {E : Value → Shared → Prop} {s : Shared}
theorem keys_missing {a : Addr} {o : Obj} {xs : Array Value} {k : Nat} {Q : Option Value → Shared → Prop} (hx : s.heap.get? a = some o) (hc : o.cls = .type "list") (hdat : o.data = .seq xs k) (hd : o.dict = none) (hA : A.handled = none)
    (h : ∀ h' tk, (∀ b o, s.heap.get? b = some o → h'.get? b = some o) → Q none { s with heap := h', toks := tk }) : wpAny (model prog w) A (getAttr? (.ref a) "keys") Q E s := by
  obtain ⟨c, dct, dat, sl⟩ := o
  simp only at hc hdat hd
  subst hc hdat hd
  obtain ⟨hp, g, d, tk, os⟩ := s
  have hT : ∀ tk', (⟨hp, g, d, tk', os⟩ : Shared).TypeIs (.ref a) "list" := fun _ => ⟨_, hx, rfl⟩
  have f1 := sub_AttributeError
  have f3 := F.slot_list_getattribute.lookup
  have f4 := F.slot_list_getattribute.bind (.ref a)
  have f5 := am_list_getattr_none
  unfold getAttr? getAttrBy? getAttrBy
  repeat (any_goals (first | assumption | exact hT _ | ((with_reducible show wpAny _ _ (call (Value.builtin "list.__getattribute__") _ _) _ _ _); refine call_meets F.slot_list_getattribute (hT _) am_entry_list_getattribute (F.args_list_getattribute_2 _ _) (meets_getattribute_miss_list a xs k sl "keys" _ miss_keys (by decide)) ⟨hx, hA, fun h' tk' e hx' => ?_⟩) | wp_step))
  obtain ⟨t', u', he⟩ := hx'.there
  show wpAny _ _ (getattributeRaised _ _ _ _ _ _ _) _ _ _
  unfold getattributeRaised
  repeat (any_goals (first | assumption | wp_step))
  exact h _ _ fun b o e => hx'.keeps b o e
end
end Mine
end
-- XE
section
set_option maxRecDepth 100000
namespace Mine
section
variable {prog : Program} {w : World} {A : Around} {E : Value → Shared → Prop} {s : Shared}
/-- what the loop over the pairs keeps -/
structure PairsSt (prog : Program) (w : World) (h₁ : Heap) (d I ax : Addr) (items : Array Value) (kvs : List (Str × Value)) (i : Nat) (h : Heap) : Prop where
  it : h.IsListIter I ax i
  li : h.IsList ax items
  di : h.DictOf (strKind prog w) d (kvs.take i)
  kp : ∀ b o, b ≠ d → b ≠ I → h₁.get? b = some o → h.get? b = some o
theorem take_nodup {kvs : List (Str × Value)} (hn : (kvs.map (·.1)).Nodup) {i : Nat} {k : Str} {x : Value} (h : kvs[i]? = some (k, x)) : k ∉ (kvs.take i).map (·.1) := by
  intro hc
  have e : kvs = kvs.take i ++ (k, x) :: kvs.drop (i + 1) := by
    have h1 := List.take_append_drop i kvs
    obtain ⟨hi, he⟩ := List.getElem?_eq_some_iff.mp h
    rw [List.drop_eq_getElem_cons hi, he] at h1
    exact h1.symm
  rw [e, List.map_append, List.map_cons] at hn
  exact (List.nodup_append.mp hn).2.2 k hc k (by simp) rfl
theorem loop_pairs {R : Result → Shared → Prop} {h₁ : Heap} {d I ax : Addr} {items : Array Value} {kvs : List (Str × Value)} (hh : A.handled = none) (hdI : d ≠ I) (hda : d ≠ ax) (hIa : I ≠ ax) (hn : (kvs.map (·.1)).Nodup) (hl : kvs.length ≤ 100) (hlen : items.size = kvs.length)
    (hp : ∀ (i : Nat) (v : Value), items[i]? = some v → ∃ (p : Addr) (k : Str) (t : Tok) (x : Value), v = .ref p ∧ kvs[i]? = some (k, x) ∧ h₁.get? p = some (tupOf [.str k t, x]) ∧ p ≠ d ∧ p ≠ I) :
    ∀ (k i : Nat) (j : Tok) (s : Shared), items.size - i = k → i ≤ items.size → PairsSt prog w h₁ d I ax items kvs i s.heap →
      (∀ h' tk, h'.DictOf (strKind prog w) d kvs → (∀ b o, b ≠ d → b ≠ I → h₁.get? b = some o → h'.get? b = some o) → R (.ok (.ret .none)) { s with heap := h', toks := tk }) →
      codeAny (model prog w) A (.builtin "dict.update.loop" ⟨[.ref d, .ref I, .int i j, .none], []⟩) R s := by
  intro k
  induction k with
  | zero =>
    intro i j s hk hi st hR
    have hin : i = items.size := by omega
    subst hin
    refine codeAny_builtin entry_dul ?_
    rw [Around.under_plainId plain_dul _]
    show wpAny _ A.in1 (pyNext (.ref I) >>= _) _ _ s
    refine wpAny_bind ((Walks.list (A := A.in1) (by simp [hh]) I ax (Ne.symm hIa) items).done _ _ _ ⟨st.it, st.li⟩ ?_)
    intro h' tk hk'
    show wpAny _ _ (Builtin.Dict.addKeywords d [] >>= _) _ _ _
    refine wpAny_bind (wpAny_pure (wpAny_pure (hR h' tk ?_ ?_)))
    · have hd := st.di
      rw [List.take_of_length_le (by omega)] at hd
      obtain ⟨o, hg, ho⟩ := Heap.dictOf_iff.mp hd
      exact Heap.dictOf_iff.mpr ⟨o, hk' _ _ (by simp [hdI]) hg, ho⟩
    · exact fun b o h1 h2 h3 => hk' b o (by simp [h2]) (st.kp b o h1 h2 h3)
  | succ k ih =>
    intro i j s hk hi st hR
    have hlt : i < items.size := by omega
    refine codeAny_builtin entry_dul ?_
    rw [Around.under_plainId plain_dul _]
    show wpAny _ A.in1 (pyNext (.ref I) >>= _) _ _ s
    refine wpAny_bind (wpAny_pyNext_list_item st.it st.li (x := items[i]) (Array.getElem?_eq_getElem hlt) fun h' hit' hs' => ?_)
    obtain ⟨p, ky, t, x, ev, hkv, hget, hpd, hpI⟩ := hp i items[i] (Array.getElem?_eq_getElem hlt)
    rw [ev]
    have hg' : h'.get? p = some (tupOf [.str ky t, x]) := by rw [hs'.2 p hpI]; exact st.kp p _ hpd hpI hget
    show wpAny _ A.in1 (holding [Value.ref p] _ >>= _) _ _ _
    refine wpAny_bind (wpAny_holding ?_)
    refine wpAny_bind (wpAny_tryCatch ?_)
    have hT : (⟨h', s.gens, s.drawn, s.toks, s.os⟩ : Shared).TypeIs (.ref p) "tuple" := ⟨_, hg', rfl⟩
    have e2 : ((Value.type "tuple" == Value.type "list" || Value.type "tuple" == Value.type "tuple") = true) := by decide
    unfold Builtin.Dict.pairItems seqItems?
    generalize hPI : dictSet = PD
    repeat (any_goals (first | assumption | with_reducible refine wpAny_loadPart_at hg' ?_ | wp_step))
    subst hPI
    have hd' : h'.DictOf (strKind prog w) d (kvs.take i) := by
      obtain ⟨o, hg, ho⟩ := Heap.dictOf_iff.mp st.di
      exact Heap.dictOf_iff.mpr ⟨o, (hs'.2 d hdI).trans hg, ho⟩
    have hli' : h'.IsList ax items := by
      obtain ⟨o, hg, ho⟩ := st.li
      exact ⟨o, (hs'.2 ax (Ne.symm hIa)).trans hg, ho⟩
    refine wpAny_dictSet_pairs (knd := strKind prog w) (strKind_is _ _ _ _) hd' (fun h'' hd'' hs'' => ?_) (by rw [List.length_take, sizeLine_eq]; omega)
    rw [stored_snoc (take_nodup hn hkv), ← take_snoc hkv] at hd''
    refine wpAny_pure ⟨plainId_quiet plain_dul _, ?_⟩
    rw [show rawInt ((i : Int) + 1) = Value.int ((i + 1 : Nat) : Int) 0 from rfl]
    refine ih (i + 1) 0 _ (by omega) (by omega) ⟨?_, ?_, hd'', ?_⟩ fun h₃ tk hd₃ hk₃ => hR h₃ tk hd₃ hk₃
    · obtain ⟨o, hg, ho⟩ := hit'
      exact ⟨o, (hs''.2 I (Ne.symm hdI)).trans hg, ho⟩
    · obtain ⟨o, hg, ho⟩ := hli'
      exact ⟨o, (hs''.2 ax (Ne.symm hda)).trans hg, ho⟩
    · exact fun b o h1 h2 h3 => (hs''.2 b h1).trans ((hs'.2 b h2).trans (st.kp b o h1 h2 h3))
theorem argsOk_dict2 (a b : Value) : argsOk "dict.__init__" ⟨[a, b], []⟩ := F.args_dict_init_2 a b
/-- dict(pairs): a list of pairs that the ledger bears -/
theorem dict_pairs_K {h₀ : Heap} {L l : Addr} {m : Str → Option Value} {news : List (Addr × Obj)} {vs : List Value} {n : Nat} {kvs : List (Str × Value)} {Q : Value → Shared → Prop} (Fh : Fr h₀ L s.heap m) (N : News h₀ L s.heap news) (hbig : h₀.NoLimit) (hh : A.handled = none)
    (hm : (l, listOf vs.toArray n) ∈ news) (hn : (kvs.map (·.1)).Nodup) (hl : kvs.length ≤ 100) (hlen : vs.length = kvs.length)
    (hp : ∀ (i : Nat) (v : Value), vs[i]? = some v → ∃ (p : Addr) (k : Str) (t : Tok) (x : Value), v = .ref p ∧ kvs[i]? = some (k, x) ∧ (p, tupOf [.str k t, x]) ∈ news)
    (h : ∀ (d : Nat) h' tk o, Fr h₀ L h' m → News h₀ L h' ((d, o) :: news) → (∀ p ∈ news, p.1 < d) → (d == sysModules) = false → o.IsDictOf (strKind prog w) kvs → Q (.ref d) { s with heap := h', toks := tk }) :
    wpAny (model prog w) A (call (.type "dict") [.ref l]) Q E s := by
  refine callType_codes (Q₁ := fun obj s₁ => obj = .ref s.heap.objs.size ∧ s₁ = { s with heap := s.heap.push { cls := .type "dict", data := .dict #[] } }) F.kt_called_dict (F.kt_typeCall_dict_1 _) F.entry_dict_init (kt_code_dict_new _ ⟨rfl, rfl⟩) ?_
  rintro obj s₁ ⟨rfl, rfl⟩
  have hnew : (s.heap.push { cls := .type "dict", data := .dict #[] }).DictOf (strKind prog w) s.heap.objs.size [] := Heap.DictOf.new s.heap
  refine ⟨hnew.typeIs, F.args_dict_init_2 _ _, ?_⟩
  unfold Builtin.«dict.__init__»
  refine wpAny_bind ?_
  unfold Builtin.Dict.selfAndRest
  refine wpAny_bind (wpAny_notOrdered_dict hnew.typeIs ?_)
  show wpAny _ _ (pure (s.heap.objs.size, [Value.ref l])) _ _ _
  refine wpAny_pure ?_
  show wpAny _ _ (Builtin.Dict.updateFrom "dict.__init__" s.heap.objs.size (.ref l) [] .none) _ _ _
  unfold Builtin.Dict.updateFrom
  have hll : (s.heap.push { cls := .type "dict", data := .dict #[] }).get? l = some (listOf vs.toArray n) := Heap.get?_push_of_some _ (N _ hm).1
  refine wpAny_bind (wpAny_typeOf (T := "list") ⟨_, hll, rfl⟩ ?_)
  rw [if_pos (by decide)]
  refine wpAny_bind (keys_missing (k := n) hll rfl rfl rfl (by simp [hh]) fun h₁ tk₁ k₁ => ?_)
  rw [if_pos (show (none : Option Value).isNone = true from rfl)]
  dsimp only
  have hl1 : h₁.IsList l vs.toArray := ⟨_, k₁ _ _ hll, rfl, n, rfl⟩
  have kall : ∀ b o, s.heap.get? b = some o → h₁.get? b = some o := fun b o e => k₁ b o (Heap.get?_push_of_some _ e)
  have hd1 : h₁.DictOf (strKind prog w) s.heap.objs.size [] := by
    obtain ⟨o, hg, ho⟩ := Heap.dictOf_iff.mp hnew
    exact Heap.dictOf_iff.mpr ⟨o, k₁ _ _ hg, ho⟩
  refine wpAny_bind (wpAny_rule (wpAny_bind (wpAny_pyIter_list hl1 ?_)))
  have kp2 : ∀ b o, h₁.get? b = some o → (h₁.push { cls := .type "list_iterator", data := .fields #[.ref l, .int 0 0] }).get? b = some o := fun b o e => Heap.get?_push_of_some _ e
  have hls : l < s.heap.objs.size := Heap.lt_size (N _ hm).1
  obtain ⟨od, hod, hdd⟩ := Heap.dictOf_iff.mp hd1
  have hsz : s.heap.objs.size < h₁.objs.size := Heap.lt_size hod
  refine wpAny_pure ⟨plainId_quiet plain_dul _, ?_⟩
  refine loop_pairs (h₁ := h₁.push { cls := .type "list_iterator", data := .fields #[.ref l, .int 0 0] }) (A := A.in1) (items := vs.toArray) (kvs := kvs) (by simp [hh]) (Nat.ne_of_lt hsz) (Nat.ne_of_gt hls) (Nat.ne_of_gt (Nat.lt_trans hls hsz)) hn hl (by simpa using hlen) ?hp _ 0 0 _ rfl (Nat.zero_le _) ⟨⟨_, Heap.get?_push_size _ rfl, rfl, rfl⟩, ⟨_, kp2 _ _ (k₁ _ _ hll), rfl, n, rfl⟩, Heap.dictOf_iff.mpr ⟨od, kp2 _ _ hod, hdd⟩, fun b o _ _ e => e⟩ ?hR
  case hp =>
    intro i v hv
    obtain ⟨p, k, t, x, e1, e2, e3⟩ := hp i v (by simpa using hv)
    have hlt : p < s.heap.objs.size := Heap.lt_size (N _ e3).1
    exact ⟨p, k, t, x, e1, e2, kp2 _ _ (kall _ _ (N _ e3).1), Nat.ne_of_lt hlt, Nat.ne_of_lt (Nat.lt_trans hlt hsz)⟩
  case hR =>
    intro h' tk hd' hk'
    obtain ⟨o, ho, hdo⟩ := Heap.dictOf_iff.mp hd'
    have kk : ∀ b o, s.heap.get? b = some o → h'.get? b = some o := fun b o e => by
      have hlt : b < s.heap.objs.size := Heap.lt_size e
      exact hk' b o (Nat.ne_of_lt hlt) (Nat.ne_of_lt (Nat.lt_trans hlt hsz)) (kp2 _ _ (kall _ _ e))
    refine And.intro rfl (h s.heap.objs.size h' tk o (Fh.keeps kk) (fun p hp => ?_) (fun p hp => Heap.lt_size (N p hp).1) (Fh.notModules (modules_low hbig)) hdo)
    rcases List.mem_cons.mp hp with rfl | hp
    · have N1 := News.push Fh N { cls := .type "dict", data := .dict #[] }
      replace N1 := N1 _ (.head _)
      exact ⟨ho, N1.2⟩
    · exact ⟨kk _ _ (N p hp).1, (N p hp).2⟩
end
end Mine
end
-- XW
section
set_option maxRecDepth 100000
namespace Mine
open Builtin Builtin.ObjectAttr
section
variable {prog : Program} {w : World} {A : Around} {E : Value → Shared → Prop} {K : Frag} {C e dx : Addr} {cd : ClassData} {mA : Str → Option Value} {name : Str} {v : Value} {oe : Obj} {s : Shared} {expr : Bool} {Q : Value → Shared → Prop}
theorem exc_own (X : K.In s.heap) (hc : clsIn K C = some cd) (hdict : cd.hasDict = true) (he : s.heap.get? e = some oe) (hcls : oe.cls = .ref C) (hno : notCls oe = true) (hdd : oe.dict = some dx) (hns : s.heap.Ns dx mA) {Q : Option Value → Shared → Prop} (h : Q (mA name) s) :
    wpAny (model prog w) A (inOwnDict name (.ref e)) Q E s := by
  obtain ⟨hp, g, d, t, os⟩ := s
  obtain ⟨oc, odi, oda, osl⟩ := oe
  dsimp only at hcls hdd
  subst hcls hdd
  have body : wpAny (model prog w) A (instanceDict e false) (fun a s' => wpAny (model prog w) A (inDict name a) Q E s') E ⟨hp, g, d, t, os⟩ := by
    unfold instanceDict
    refine wpAny_bind (wpAny_loadPart he ?_)
    dsimp only
    refine wpAny_bind ((looks_clsIn X hc).here ?_)
    rw [hdict]
    refine wpAny_pure (a := some dx) ?_
    exact wpAny_nsGet hns h
  refine wpAny_bind (wpAny_bind (wpAny_loadPart he ?_))
  cases oda <;> first | exact body | cases hno
theorem exc_get (X : K.In s.heap) (hc : clsIn K C = some cd) (hdict : cd.hasDict = true) (hga : findIn K (.ref C) "__getattribute__" = some (some (.builtin "BaseException.__getattribute__"))) (hgg : findIn K (.ref C) "__getattr__" = some none) (hna : findIn K (.ref C) name = some none)
    (hsub : subIn K (.ref C) (.type "BaseException") = some true) (he : s.heap.get? e = some oe) (hcls : oe.cls = .ref C) (hno : notCls oe = true) (hdd : oe.dict = some dx) (hns : s.heap.Ns dx mA) (hv : mA name = some v) (hh : handedIn v = true) (hq : Q v { s with toks := s.toks + 1 }) :
    wpAny (model prog w) A (getAttr (.ref e) name expr) Q E s := by
  obtain ⟨hp, g, d, t, os⟩ := s
  have L0 : Looks (model prog w) hp (typeOf (.ref e)) (.ref C) := hcls ▸ (Looks.ld he).andThen .now
  have L1 := looks_findIn (M := model prog w) X hga
  have L2 := looks_findIn (M := model prog w) X hgg
  have L3 := looks_findIn (M := model prog w) X hna
  have hx0 : (expr && onTheHeap (Value.builtin "BaseException.__getattribute__")) = false := by cases expr <;> rfl
  have hx2 : (Value.builtin "BaseException.__getattribute__" == Value.builtin "object.__getattribute__") = false := by decide +kernel
  have hx1 : (onTheHeap (Value.ref C) && Value.builtin "BaseException.__getattribute__" == Value.builtin "object.__getattribute__") = false := by rw [hx2]; rfl
  have hk : builtinKind "BaseException.__getattribute__" = some .slot := by decide +kernel
  have hsplit : splitId "BaseException.__getattribute__" = some ("BaseException", "__getattribute__") := by decide +kernel
  have FB := PySem.F.attr_Exception
  unfold getAttr getAttrBy
  refine wpAny_bind (wpAny_mkText (wpAny_holding (wpAny_bind (L0.at (wpAny_bind (L1.at ?_))))))
  dsimp only
  rw [if_neg (by rw [hx1]; decide)]
  unfold getAttrByItsOwn
  refine wpAny_bind ?_
  unfold hookBefore
  rw [if_pos (show onTheHeap (.ref C) = true from rfl)]
  refine L2.at ?_
  refine wpAny_bind (wpAny_attempt (wpAny_holding ?_))
  unfold callGetattribute
  rw [if_neg (by rw [hx0]; decide)]
  unfold boundAndCalled
  rw [FB.ga.bind]
  refine wpAny_bind (wpAny_pure ?_)
  have sub : Looks (model prog w) hp (isInstance (.ref e) (.type "BaseException")) true := L0.andThen (looks_subIn X hsub)
  refine wpAny_call (codeAny_call_builtin FB.ga.plain PySem.F.entry_bexc_ga (@check_slot (model prog w) _ _ _ "BaseException.__getattribute__" "BaseException" "__getattribute__" (.ref e) [.str name t] [] _ hk hsplit sub (PySem.F.args_bexc_ga (.ref e) (.str name t)) ?_))
  refine wpAny_bind (wpAny_pure (wpAny_bind (wpAny_pure (wpAny_bind (L0.at (wpAny_bind ?_))))))
  unfold ObjectAttr.find
  refine wpAny_bind (L3.at (wpAny_bind (wpAny_pure (wpAny_bind (wpAny_pure ?_)))))
  dsimp only
  unfold ownThenClass
  refine wpAny_bind (exc_own (s := ⟨hp, g, d, t + 1, os⟩) X hc hdict he hcls hno hdd hns ?_)
  rw [hv]
  refine wpAny_bind (wpAny_rule (wpAny_pure ?_))
  dsimp only
  refine wpAny_pure ?_
  show wpAny _ _ (handedOut v) _ _ _
  rw [handedOut_of hh]
  exact wpAny_pure hq
end
end Mine
end
-- XC
section
set_option maxRecDepth 100000
namespace Mine
section
variable {w : World} {A₀ A : Around} {E : Value → Shared → Prop} {s s' : Shared} {h₀ h B : Heap} {outer : List Env} {L a e : Addr} {m : Str → Option Value} {name : Str} {scope : Scope} {cd : Value} {cl : List (Str × Addr)}
  {n x : Str} {b₀ : Stmt} {suite : List Stmt} {pos np : Pos} {rest : List ExceptHandler} {news : List (Addr × Obj)} {mg mb : Str → Option Value} {p : Program} {loose : List Str}
theorem word_K {oe od : Obj} {dx : Addr} {mA : Str → Option Value} {vs : Array Value} {t : Tok} {expr : Bool} {Q : Value → Shared → Prop} (F : Fr h₀ L s.heap m) (N : News h₀ L s.heap news) (X₀ : (hd.heap_39 w.params).In h₀) (he : (e, oe) ∈ news) (hcls : oe.cls = .ref 51) (hdat : oe.data = .fields vs) (hdd : oe.dict = some dx) (hx : (dx, od) ∈ news) (hns : NsOf od mA)
    (hw : mA "word" = some (.str "constraint_error" t)) (h : Q (.str "constraint_error" t) { s with toks := s.toks + 1 }) : wpAny (model PG w) A (getAttr (.ref e) "word" expr) Q E s := by
  have X := X₀.keeps F.keep
  obtain ⟨es, ep, h1, h2, h3⟩ := hns
  exact exc_get (K := hd.heap_39 w.params) (C := 51) (cd := _) X (by with_unfolding_all rfl) (by with_unfolding_all rfl) (by with_unfolding_all rfl) (by with_unfolding_all rfl) (by with_unfolding_all rfl) (by with_unfolding_all rfl) (N _ he).1 hcls (by unfold notCls; rw [hdat]) hdd ⟨od, es, ep, (N _ hx).1, h1, h2, h3⟩ hw rfl h
theorem caught_ada {Q : Flow → Shared → Prop} (K : Below A₀ h₀ outer h₀) (F : Fr h₀ L h m) (hsm : h.UpToSlots s'.heap) (R : RaisedAda B (envX name scope L a cd cl :: outer) e s'.heap) (hB : h₀.StaysIn B)
    (X : (hd.heap_39 w.params).In h₀) (T : TopRead p loose mg mb h₀) (ex : nsIn (hd.heap_39 w.params) mainGlobals x = some (some (.ref 51)))
    (k : ∀ h' tk oe od dx mA vs t, Fr h₀ L h' (fun y => if y = n then some (.ref e) else m y) → News h₀ L h' [(e, oe), (dx, od)] → oe.cls = .ref 51 → oe.data = .fields vs → oe.dict = some dx → NsOf od mA → mA "word" = some (.str "constraint_error" t) →
      wpAny (model PG w) ((A₀.deeper (envX name scope L a cd cl)).mark (some (.ref e))) (execs (b₀ :: suite) (envX name scope L a cd cl))
        (fun f s₄ => wpAny (model PG w) (A₀.deeper (envX name scope L a cd cl)) (do bindName (envX name scope L a cd cl) n .none; unbindBehindTheSuite (envX name scope L a cd cl) n pos) (fun _ s₅ => Q f s₅) E s₄)
        (AsSuiteRaised (model PG w) ((A₀.deeper (envX name scope L a cd cl)).mark (some (.ref e))) (envX name scope L a cd cl) n pos (notedBy (model PG w) ((A₀.deeper (envX name scope L a cd cl)).mark (some (.ref e))) (envX name scope L a cd cl) (cameBackBy (model PG w) (A₀.deeper (envX name scope L a cd cl)) (envX name scope L a cd cl) E)))
        { s' with heap := h', toks := tk })
    (hk : scope.kind = .function := by rfl) (hlo : (envX name scope L a cd cl).kindOf n = some .local := by rfl) (hx : (envX name scope L a cd cl).kindOf x = some .globalImplicit := by rfl) (hd : (x == ("__debug__" : Str)) = false := by decide) :
    wpAny (model PG w) (A₀.deeper (envX name scope L a cd cl)) (noteFrame (.ref e) (envX name scope L a cd cl))
      (fun _ s₂ => wpAny (model PG w) (A₀.deeper (envX name scope L a cd cl)) (setFlight (.ref e) none) (fun _ s₃ =>
        wpAny (model PG w) (A₀.deeper (envX name scope L a cd cl)) (handleBy (.ref e) (envX name scope L a cd cl) (.ExceptHandler (some (.Name x np)) (some n) (b₀ :: suite) pos :: rest)) Q E s₃) E s₂) E s' := by
  obtain ⟨a0, oe, dx, mA, t, od, hfl, he, hdx, hod, hns, hw, hBd, hfd⟩ := R
  have hLB : B.get? L = none := by
    obtain ⟨_, ⟨L', _, hf, hn', _⟩, _⟩ := hfl.2.2.1
    obtain rfl : L = L' := Option.some.inj hf
    exact hn'
  obtain ⟨f1, f2, f3, f4⟩ := hfl
  refine note_onD (Around.frames_deeper K.stack) f3 rfl f4 f1 f2 fun h₁ ⟨x1, x2, x3, x4⟩ D₁ => ?_
  refine flightD x1 x2 f2 x3 fun h₂ hfl₂ U₂ D₂ => ?_
  have U := Heap.UpToSlots.trans (show s'.heap.UpToSlots h₁ from x4) U₂
  have D := D₁.trans D₂
  have F₂ : Fr h₀ L h₂ m := F.of_stays (fun b o q => hfl₂.1 b o (hB b o q)) (hsm.trans U)
  obtain ⟨ob, hob, hobc⟩ := hfl₂.there
  refine wpAny_handleBy_cons (codeAny_handlers_test (nameX_K F₂ X T ex ?_ hk hx hd)) (by intro q; cases q)
  have hC := excCls_in (X.keeps F₂.keep)
  refine wpAny_excMatches_sub_self hC hob hobc (by decide) (codeAny_handlers_suite_as ?_)
  obtain ⟨y1, y2, y3, y4⟩ := hfl₂
  refine flightD y1 y3 y2 y4 fun h₃ hfl₃ U₃ D₃ => ?_
  have F₃ : Fr h₀ L h₃ m := F₂.of_stays (fun b o q => hfl₃.1 b o (hB b o q)) U₃
  obtain ⟨oe', he', hd'⟩ := (D.trans D₃) e oe he
  obtain ⟨sl, hod'⟩ := (U.trans U₃) dx od hod hns.noFields
  obtain ⟨of, vs, hof, hofc, hofd, _⟩ := hfl₃.first
  rw [he'] at hof
  cases hof
  have hb0 : ∀ {b : Addr}, B.get? b = none → h₀.get? b = none := fun {b} hb => by
    cases q : h₀.get? b with
    | none => rfl
    | some o => have := hB b o q; rw [hb] at this; cases this
  have N₃ : News h₀ L h₃ [(e, oe'), (dx, { od with slots := sl })] := fun p hp => by
    rcases List.mem_cons.mp hp with rfl | hp
    · refine ⟨he', fun q => ?_, hb0 f2⟩
      obtain ⟨oL, es, ep, hL, hLd, _⟩ := F₃.ns
      dsimp only at q
      rw [q, hL] at he'
      cases he'
      rw [hLd] at hofd
      cases hofd
    · rw [List.mem_singleton.mp hp]
      exact ⟨hod', fun q => hfd _ (.head _) (by dsimp only at q; rw [q]), hb0 hBd⟩
  exact storeX_L F₃ N₃ (fun h₄ F₄ N₄ => k h₄ _ oe' _ dx mA vs t F₄ N₄ hofc hofd (hd'.trans hdx) (hns.slots sl) hw) hk hlo
theorem caught_law {Q : Flow → Shared → Prop} (K : Below A₀ h₀ outer h₀) (F : Fr h₀ L h m) (hsm : h.UpToSlots s'.heap) (R : RaisedAda B (envOfC name scope L a cd :: outer) e s'.heap) (hB : h₀.StaysIn B)
    (X : (hd.heap_39 w.params).In h₀) (T : TopRead p loose mg mb h₀) (ex : nsIn (hd.heap_39 w.params) mainGlobals x = some (some (.ref 51)))
    (k : ∀ h' tk oe od dx mA vs t, Fr h₀ L h' (fun y => if y = n then some (.ref e) else m y) → News h₀ L h' [(e, oe), (dx, od)] → oe.cls = .ref 51 → oe.data = .fields vs → oe.dict = some dx → NsOf od mA → mA "word" = some (.str "constraint_error" t) →
      wpAny (model PG w) ((A₀.deeper (envOfC name scope L a cd)).mark (some (.ref e))) (execs (b₀ :: suite) (envOfC name scope L a cd))
        (fun f s₄ => wpAny (model PG w) (A₀.deeper (envOfC name scope L a cd)) (do bindName (envOfC name scope L a cd) n .none; unbindBehindTheSuite (envOfC name scope L a cd) n pos) (fun _ s₅ => Q f s₅) E s₄)
        (AsSuiteRaised (model PG w) ((A₀.deeper (envOfC name scope L a cd)).mark (some (.ref e))) (envOfC name scope L a cd) n pos (notedBy (model PG w) ((A₀.deeper (envOfC name scope L a cd)).mark (some (.ref e))) (envOfC name scope L a cd) (cameBackBy (model PG w) (A₀.deeper (envOfC name scope L a cd)) (envOfC name scope L a cd) E)))
        { s' with heap := h', toks := tk })
    (hk : scope.kind = .function := by rfl) (hlo : (envOfC name scope L a cd).kindOf n = some .local := by rfl) (hx : (envOfC name scope L a cd).kindOf x = some .globalImplicit := by rfl) (hd : (x == ("__debug__" : Str)) = false := by decide) :
    wpAny (model PG w) (A₀.deeper (envOfC name scope L a cd)) (noteFrame (.ref e) (envOfC name scope L a cd))
      (fun _ s₂ => wpAny (model PG w) (A₀.deeper (envOfC name scope L a cd)) (setFlight (.ref e) none) (fun _ s₃ =>
        wpAny (model PG w) (A₀.deeper (envOfC name scope L a cd)) (handleBy (.ref e) (envOfC name scope L a cd) (.ExceptHandler (some (.Name x np)) (some n) (b₀ :: suite) pos :: rest)) Q E s₃) E s₂) E s' :=
  caught_ada (cl := cellsFrom (L + 1) scope.names []) K F hsm R hB X T ex k hk hlo hx hd
end
end Mine
end
-- XQ
section
namespace Mine
def dataOf : Worth → PyData
  | .num n => .int n
  | .arr n => .tuple [.list [.tuple [.int 1, .int 2]], .list [.int n, .int (n + 1)]]
theorem dataOf_shaped (wo : Worth) : SeqAt.shaped (dataOf wo) = true := by
  cases wo <;> rfl
theorem dataOf_eqv (wo : Worth) : PyData.eqv (dataOf wo) (dataOf wo) = true := PySem.SeqAt.eqv_refl _ (SeqAt.canLay_of_shaped (dataOf_shaped wo))
theorem FlatIn.reads {h₀ h : Heap} {L : Addr} {led : List (Addr × Obj)} {v : Value} {wo : Worth} (N : News h₀ L h led) (x : FlatIn led v wo) : ∃ as, Reads h v (dataOf wo) as := by
  cases x with
  | num n t => exact ⟨_, .int n t⟩
  | arr n tu b tp l t3 t4 t5 t6 e1 e2 h1 h2 h3 h4 =>
    have r1 : Reads h (.ref tp) (.tuple [.int 1, .int 2]) _ := .tuple (N _ h3).1 rfl rfl (.cons (.int 1 t3) (.cons (.int 2 t4) .nil))
    have r2 : Reads h (.ref b) (.list [.tuple [.int 1, .int 2]]) _ := .list (N _ h2).1 rfl rfl (.cons r1 .nil)
    have r3 : Reads h (.ref l) (.list [.int n, .int (n + 1)]) _ := .list (N _ h4).1 rfl rfl (.cons (.int n t5) (.cons (.int (n + 1) t6) .nil))
    exact ⟨_, .tuple (N _ h1).1 rfl rfl (.cons r2 (.cons r3 .nil))⟩
section
variable {prog : Program} {w : World} {A : Around} {E : Value → Shared → Prop} {s : Shared} {h₀ : Heap} {L a b : Addr} {news : List (Addr × Obj)} {oa ob : Obj} {k1 k2 : List (Str × Value)} {ws : List (Str × Worth)}
theorem flats_hits (N : News h₀ L s.heap news) (hu : A.in1.units + 64 < cLine) : ∀ {ws' : List (Str × Worth)} {r1 r2 pre : List (Str × Value)}, FlatsIn news r1 ws' → FlatsIn news r2 ws' → ((pre ++ r2).map (·.1)).Nodup → KeqHits A.in1 s (pre ++ r2) r1 true := by
  intro ws'
  induction ws' with
  | nil =>
    intro r1 r2 pre x y hn
    cases x
    exact .nil
  | cons p ws' ih =>
    intro r1 r2 pre x y hn
    cases x with
    | @cons k v wo kvs ws a x =>
      cases y with
      | @cons _ v2 _ kvs2 _ b y =>
        obtain ⟨as, ra⟩ := a.reads N
        obtain ⟨bs, rb⟩ := b.reads N
        have he := keq_at (A := A) ra rb (dataOf_shaped wo) (dataOf_shaped wo) hu
        rw [dataOf_eqv] at he
        have hr := ih (pre := pre ++ [(k, v2)]) x y (by simpa using hn)
        rw [show pre ++ [(k, v2)] ++ kvs2 = pre ++ (k, v2) :: kvs2 by simp] at hr
        exact .hit (e := true) (valueAt_mid hn) he hr
theorem flats_len {r1 r2 : List (Str × Value)} (x : FlatsIn news r1 ws) (y : FlatsIn news r2 ws) : r1.length = r2.length := by
  have h1 := congrArg List.length x.keys
  have h2 := congrArg List.length y.keys
  rw [List.length_map, List.length_map] at h1 h2
  rw [h1, h2]
theorem flats_eq_K {Q : Value → Shared → Prop} (N : News h₀ L s.heap news) (ma : (a, oa) ∈ news) (mb : (b, ob) ∈ news) (da : oa.IsDictOf (strKind prog w) k1) (db : ob.IsDictOf (strKind prog w) k2) (la : (a == sysModules) = false) (lb : (b == sysModules) = false) (x : FlatsIn news k1 ws) (y : FlatsIn news k2 ws) (hu : A.in1.units + 64 < cLine) (hu2 : A.units < cLine)
    (h : Q (.bool true) s) : wpAny (model prog w) A (compareOp .Eq (.ref a) (.ref b)) Q E s := by
  refine keq_eq (knd := strKind prog w) la lb (kda_dict N ma da) (kda_dict N mb db) hu2 (fun _ => flats_hits (pre := []) N hu x y ?_) ?_
  · obtain ⟨_, _, _, _, _, _, hn⟩ := db
    exact hn
  · rw [flats_len x y]
    simpa using h
theorem flats_ne_K {Q : Value → Shared → Prop} (N : News h₀ L s.heap news) (ma : (a, oa) ∈ news) (mb : (b, ob) ∈ news) (da : oa.IsDictOf (strKind prog w) k1) (db : ob.IsDictOf (strKind prog w) k2) (la : (a == sysModules) = false) (lb : (b == sysModules) = false) (x : FlatsIn news k1 ws) (y : FlatsIn news k2 ws) (hu : A.in1.units + 64 < cLine) (hu2 : A.units < cLine)
    (h : Q (.bool false) s) : wpAny (model prog w) A (compareOp .NotEq (.ref a) (.ref b)) Q E s := by
  refine keq_ne (knd := strKind prog w) la lb (kda_dict N ma da) (kda_dict N mb db) hu2 (fun _ => flats_hits (pre := []) N hu x y ?_) ?_
  · obtain ⟨_, _, _, _, _, _, hn⟩ := db
    exact hn
  · rw [flats_len x y]
    simpa using h
end
end Mine
end
section
open Mine
local macro_rules | `(tactic| k_mem) => `(tactic| ((fail_if_success (with_reducible show _ ∈ ([] : List (Addr × Obj)))); refine List.mem_append_left (α := Addr × Obj) _ ?_; k_mem))
local macro_rules | `(tactic| k_mem) => `(tactic| ((fail_if_success (with_reducible show _ ∈ ([] : List (Addr × Obj)))); refine List.mem_append_right (α := Addr × Obj) _ ?_; k_mem))
local macro_rules | `(tactic| k_mem) => `(tactic| (assumption))
local macro_rules | `(tactic| k_get) => `(tactic| (assumption))
local macro_rules | `(tactic| k_all) => `(tactic| (first | assumption | exact ne_of_lt_all (by assumption)))
local macro_rules | `(tactic| k_ne) => `(tactic| ((fail_if_success (with_reducible show ((0, { cls := .none, data := .none }) : Addr × Obj).1 ≠ _)); (iterate 80 (try ((with_reducible rename ((_ : Addr) < _ ∧ _) => hc); obtain ⟨_, _⟩ := hc))); exact gt_ne (by assumption) (by k_mem)))
local macro_rules | `(tactic| k_upd) => `(tactic| (refine' Upd_app ?a ?b; (case a => first | exact ap_ne (by assumption) (by k_mem) (fun _ h => h) | exact ap_ne (by assumption) (by k_mem) (fun _ h => .tail _ h)); (case b => k_upd)))
local macro_rules | `(tactic| k_updF) => `(tactic| (refine' UpdF_app ?a ?b; (case a => first | exact ap_ne (by assumption) (by k_mem) (fun _ h => h) | exact ap_ne (by assumption) (by k_mem) (fun _ h => .tail _ h)); (case b => k_updF)))
-- S1
section
namespace Mine
section
set_option maxRecDepth 100000 in
set_option maxHeartbeats 8000000 in
theorem seg1 (w : World) : Seg w 4 3 J0 (LawAt 7 P1) := by
  k_with_none
  k_with "call ref" => (k_here; (with_reducible show wpAny _ _ (call (Value.ref _) [Value.ref _, Value.int _ _]) _ _ _); k_dflt (refine' (tell_K _ _ _ _ _ _ _ _ _ _ _ _ _ ?Uₖ ?slₖ ?hxₖ ?hlₖ ?i0ₖ ?i1ₖ ?m0ₖ ?m1ₖ ?hneₖ) _ _ _ _ _ _ _ _ _ _ _ _ _ _ _ _ _ _ _ _ ?Bₖ ?Fₖ ?Xₖ ?Nₖ ?Tₖ ?kkₖ ?ddₖ ?uuₖ ?_; (case Fₖ => k_asm); (case Nₖ => k_asm); (case Uₖ => k_updF); (case slₖ => k_mem); (case hxₖ => assumption); (case hlₖ => (first | assumption | omega)); (case i0ₖ => omega); (case i1ₖ => omega); (case m0ₖ => omega); (case m1ₖ => omega); (case hneₖ => (first | assumption | exact Nat.ne_of_gt (And.left (by assumption)))); (case Bₖ => k_asm); (case Xₖ => k_asm); (case Tₖ => k_asm); (case kkₖ => first | exact rfl | assumption); (case ddₖ => (first | ktr_room | decide)); (case uuₖ => (first | ktr_units | decide))); intro r'ₖ n'ₖ h'ₖ tk'ₖ F'ₖ N'ₖ hp'ₖ; obtain ⟨v'ₖ, t'ₖ, t2'ₖ, er'ₖ, hv0'ₖ, hv1'ₖ, en'ₖ⟩ := hp'ₖ; subst er'ₖ; subst en'ₖ; (try dsimp only at N'ₖ); (try k_sweep))
  k_with "subscriptTail" => (k_here; (with_reducible show wpAny _ _ (subscriptTail _ (PySem.Expr.Slice none (some _) none _) (Value.ref _) (Value.ref _)) _ _ _); k_dflt (refine kba_turn (value' := PySem.Expr.Name (PySem.Str.ofString "_") ⟨0, 0, 0, 0⟩) (fun _ => rfl) ?_; refine slice_strs (by k_asm) (by k_asm) (by k_mem) (by first | assumption | exact .cons _ _ (.cons _ _ (.cons _ _ .nil)) | exact .cons _ _ .nil) (by omega) ?_ (by with_unfolding_all rfl) (fun _ => rfl) (by first | assumption | (simp only [List.length_cons, List.length_nil]; omega) | omega)); intro D'ₖ h'ₖ zs'ₖ F'ₖ N'ₖ hz'ₖ hzl'ₖ l1ₖ; (try k_lt l1ₖ); (try k_sweep))
  k_with "subscriptTail List Slice ref ref" => (k_here; (with_reducible show wpAny _ _ (subscriptTail _ (PySem.Expr.Slice none (some _) none _) (Value.ref _) (Value.ref _)) _ _ _); k_dflt (refine kba_turn (value' := PySem.Expr.Name (PySem.Str.ofString "_") ⟨0, 0, 0, 0⟩) (fun _ => rfl) ?_; refine slice_strs (by k_asm) (by k_asm) (by k_mem) (by first | assumption | exact .cons _ _ (.cons _ _ (.cons _ _ .nil)) | exact .cons _ _ .nil) (by omega) ?_ (by with_unfolding_all rfl) (fun _ => rfl) (by first | assumption | (simp only [List.length_cons, List.length_nil]; omega) | omega)); intro D'ₖ h'ₖ zs'ₖ F'ₖ N'ₖ hz'ₖ hzl'ₖ l1ₖ; (try k_lt l1ₖ); (try k_sweep))
  k_with "subscriptTail Call Slice ref ref" => (k_here; (with_reducible show wpAny _ _ (subscriptTail _ (PySem.Expr.Slice none (some _) none _) (Value.ref _) (Value.ref _)) _ _ _); k_dflt (refine kba_turn (value' := PySem.Expr.Name (PySem.Str.ofString "_") ⟨0, 0, 0, 0⟩) (fun _ => rfl) ?_; refine slice_strs (by k_asm) (by k_asm) (by k_mem) (by first | assumption | exact .cons _ _ (.cons _ _ (.cons _ _ .nil)) | exact .cons _ _ .nil) (by omega) ?_ (by with_unfolding_all rfl) (fun _ => rfl) (by first | assumption | (simp only [List.length_cons, List.length_nil]; omega) | omega)); intro D'ₖ h'ₖ zs'ₖ F'ₖ N'ₖ hz'ₖ hzl'ₖ l1ₖ; (try k_lt l1ₖ); (try k_sweep))
  k_with "subscriptTail Name Slice ref ref" => (k_here; (with_reducible show wpAny _ _ (subscriptTail _ (PySem.Expr.Slice none (some _) none _) (Value.ref _) (Value.ref _)) _ _ _); k_dflt (refine kba_turn (value' := PySem.Expr.Name (PySem.Str.ofString "_") ⟨0, 0, 0, 0⟩) (fun _ => rfl) ?_; refine slice_strs (by k_asm) (by k_asm) (by k_mem) (by first | assumption | exact .cons _ _ (.cons _ _ (.cons _ _ .nil)) | exact .cons _ _ .nil) (by omega) ?_ (by with_unfolding_all rfl) (fun _ => rfl) (by first | assumption | (simp only [List.length_cons, List.length_nil]; omega) | omega)); intro D'ₖ h'ₖ zs'ₖ F'ₖ N'ₖ hz'ₖ hzl'ₖ l1ₖ; (try k_lt l1ₖ); (try k_sweep))
  k_with "subscriptTail Subscript Slice ref ref" => (k_here; (with_reducible show wpAny _ _ (subscriptTail _ (PySem.Expr.Slice none (some _) none _) (Value.ref _) (Value.ref _)) _ _ _); k_dflt (refine kba_turn (value' := PySem.Expr.Name (PySem.Str.ofString "_") ⟨0, 0, 0, 0⟩) (fun _ => rfl) ?_; refine slice_strs (by k_asm) (by k_asm) (by k_mem) (by first | assumption | exact .cons _ _ (.cons _ _ (.cons _ _ .nil)) | exact .cons _ _ .nil) (by omega) ?_ (by with_unfolding_all rfl) (fun _ => rfl) (by first | assumption | (simp only [List.length_cons, List.length_nil]; omega) | omega)); intro D'ₖ h'ₖ zs'ₖ F'ₖ N'ₖ hz'ₖ hzl'ₖ l1ₖ; (try k_lt l1ₖ); (try k_sweep))
  k_with "subscriptTail" => (k_here; (with_reducible show wpAny _ _ (subscriptTail _ (PySem.Expr.Slice (some _) none none _) (Value.ref _) (Value.ref _)) _ _ _); k_dflt (refine kba_turn (value' := PySem.Expr.Name (PySem.Str.ofString "_") ⟨0, 0, 0, 0⟩) (fun _ => rfl) ?_; refine slice_drops (by k_asm) (by k_asm) (by k_mem) (by first | assumption | exact .cons _ _ (.cons _ _ (.cons _ _ .nil)) | exact .cons _ _ .nil) (by omega) ?_ (by with_unfolding_all rfl) (fun _ => rfl) (by first | assumption | (simp only [List.length_cons, List.length_nil]; omega) | omega)); intro D'ₖ h'ₖ zs'ₖ F'ₖ N'ₖ hz'ₖ hzl'ₖ l1ₖ; (try k_lt l1ₖ); (try k_sweep))
  k_with "subscriptTail List Slice ref ref" => (k_here; (with_reducible show wpAny _ _ (subscriptTail _ (PySem.Expr.Slice (some _) none none _) (Value.ref _) (Value.ref _)) _ _ _); k_dflt (refine kba_turn (value' := PySem.Expr.Name (PySem.Str.ofString "_") ⟨0, 0, 0, 0⟩) (fun _ => rfl) ?_; refine slice_drops (by k_asm) (by k_asm) (by k_mem) (by first | assumption | exact .cons _ _ (.cons _ _ (.cons _ _ .nil)) | exact .cons _ _ .nil) (by omega) ?_ (by with_unfolding_all rfl) (fun _ => rfl) (by first | assumption | (simp only [List.length_cons, List.length_nil]; omega) | omega)); intro D'ₖ h'ₖ zs'ₖ F'ₖ N'ₖ hz'ₖ hzl'ₖ l1ₖ; (try k_lt l1ₖ); (try k_sweep))
  k_with "subscriptTail Call Slice ref ref" => (k_here; (with_reducible show wpAny _ _ (subscriptTail _ (PySem.Expr.Slice (some _) none none _) (Value.ref _) (Value.ref _)) _ _ _); k_dflt (refine kba_turn (value' := PySem.Expr.Name (PySem.Str.ofString "_") ⟨0, 0, 0, 0⟩) (fun _ => rfl) ?_; refine slice_drops (by k_asm) (by k_asm) (by k_mem) (by first | assumption | exact .cons _ _ (.cons _ _ (.cons _ _ .nil)) | exact .cons _ _ .nil) (by omega) ?_ (by with_unfolding_all rfl) (fun _ => rfl) (by first | assumption | (simp only [List.length_cons, List.length_nil]; omega) | omega)); intro D'ₖ h'ₖ zs'ₖ F'ₖ N'ₖ hz'ₖ hzl'ₖ l1ₖ; (try k_lt l1ₖ); (try k_sweep))
  k_with "subscriptTail Name Slice ref ref" => (k_here; (with_reducible show wpAny _ _ (subscriptTail _ (PySem.Expr.Slice (some _) none none _) (Value.ref _) (Value.ref _)) _ _ _); k_dflt (refine kba_turn (value' := PySem.Expr.Name (PySem.Str.ofString "_") ⟨0, 0, 0, 0⟩) (fun _ => rfl) ?_; refine slice_drops (by k_asm) (by k_asm) (by k_mem) (by first | assumption | exact .cons _ _ (.cons _ _ (.cons _ _ .nil)) | exact .cons _ _ .nil) (by omega) ?_ (by with_unfolding_all rfl) (fun _ => rfl) (by first | assumption | (simp only [List.length_cons, List.length_nil]; omega) | omega)); intro D'ₖ h'ₖ zs'ₖ F'ₖ N'ₖ hz'ₖ hzl'ₖ l1ₖ; (try k_lt l1ₖ); (try k_sweep))
  k_with "subscriptTail Subscript Slice ref ref" => (k_here; (with_reducible show wpAny _ _ (subscriptTail _ (PySem.Expr.Slice (some _) none none _) (Value.ref _) (Value.ref _)) _ _ _); k_dflt (refine kba_turn (value' := PySem.Expr.Name (PySem.Str.ofString "_") ⟨0, 0, 0, 0⟩) (fun _ => rfl) ?_; refine slice_drops (by k_asm) (by k_asm) (by k_mem) (by first | assumption | exact .cons _ _ (.cons _ _ (.cons _ _ .nil)) | exact .cons _ _ .nil) (by omega) ?_ (by with_unfolding_all rfl) (fun _ => rfl) (by first | assumption | (simp only [List.length_cons, List.length_nil]; omega) | omega)); intro D'ₖ h'ₖ zs'ₖ F'ₖ N'ₖ hz'ₖ hzl'ₖ l1ₖ; (try k_lt l1ₖ); (try k_sweep))
  k_with "call ref" => (k_here; (with_reducible show wpAny _ _ (call (Value.ref 304) _) _ _ _); k_dflt (refine' (grown_spec _ _ _ ?hsubₖ _ _ _ _ _ _ _ _ _ _ _ ?hpₖ ?h1ₖ ?hsₖ ?hlₖ ?hplₖ) _ _ _ _ _ _ _ _ _ _ _ _ _ _ _ _ _ _ _ _ ?Bₖ ?Fₖ ?Xₖ ?Nₖ ?Tₖ ?kkₖ ?ddₖ ?uuₖ ?_; (case Fₖ => k_asm); (case Nₖ => k_asm); (case h1ₖ => k_mem); (case hsₖ => assumption); (case hlₖ => first | assumption | omega); (case hpₖ => assumption); (case hsubₖ => exact fun p hp => (by first | exact List.mem_cons_of_mem _ hp | ((try (rcases List.mem_append.mp hp with hp | hp)) <;> (try (rcases List.mem_append.mp hp with hp | hp)) <;> k_mem))); (case hplₖ => first | assumption | (simp only [List.length_append, List.length_take, List.length_cons, List.length_nil]; omega)); (case Bₖ => k_asm); (case Xₖ => k_asm); (case Tₖ => k_asm); (case kkₖ => first | exact rfl | assumption); (case ddₖ => (first | ktr_room | decide)); (case uuₖ => (first | ktr_units | decide))); intro r'ₖ n'ₖ h'ₖ tk'ₖ F'ₖ N'ₖ hp'ₖ; obtain ⟨x'ₖ, tl'ₖ, er'ₖ, en'ₖ, ht'ₖ, ap'ₖ⟩ := hp'ₖ; subst er'ₖ; subst en'ₖ; (try dsimp only at N'ₖ); (try k_sweep))
  k_with "eval Name" => ((with_reducible refine inCells ?_); name_kind "local"; with_unfolding_all refine ldLoc (by assumption) (by ((try dsimp only); (repeat (first | exact if_pos rfl | assumption | refine (if_neg (by decide)).trans ?_)))) ?_)
  have hseed : Seed PySem.Challenge.rw_pp0004_01 hd.heap_39 := by k_fill; trivial
  clear hseed
  unfold Seg
  intro h₀ mean mg mb fa cd s s₂ Q E B KX T hJ hQ
  dsimp only [lawEnv]
  generalize eB : lawBody = LB
  generalize eS : lawScope = LS
  conv at eB => lhs; whnf
  conv at eS => lhs; whnf
  subst eB; subst eS
  dsimp only [List.drop, List.take]
  obtain ⟨h, tk, m, kn, sl, xs, ms, n1, n2, i, t, oc2, T0, hl, zs, e, H, k, bx, es, F2, N2, K2, i0, i1, q1, hz, hzl, hH, k0, k1, m1, m2, hb⟩ := hJ
  subst es
  obtain ⟨hsl, hx, hlen, hne, hT, hcl, hcd2⟩ := K2
  have hHl : H.length ≤ 10 := by rw [← StrsAre.length hz]; omega
  have hHl2 : H.length ≤ 20 := by omega
  k_steps
  have N9 := ‹News h₀ _ _ (_ ++ _)›
  rename TypeIn _ _ _ 43 _ => ht2
  rename TypeIn _ _ _ 42 _ => ht1
  rename StrsAre _ (List.take _ (List.drop _ _)) => hs2
  rename StrsAre _ (List.drop _ _) => hs3
  rename StrsAre _ (List.take _ [_, _, _]) => hs1
  refine hQ _ (LawAt.close (by k_asm) N9 (by k_mem) (by k_mem) hx hlen hne (by k_mem) hcd2 (by omega) (by omega) (fun T hin => ?_))
  refine P1.mk hl zs e H _ _ _ _ _ _ _ _ bx _ _ _ _ ⟨?m1, hin _ (by k_mem) (ne_strs hz), hz, hzl⟩ (hH ▸ menu_H k0 k1) ⟨?m2, hin _ (by k_mem) (ne_strs hs1), hs1, by assumption⟩ (menu_M (by assumption) (by assumption)) ⟨?m3, hin _ (by k_mem) (ne_strs hs2), hs2, by assumption⟩ (menu_L (by assumption) (by assumption)) ?m4 (hb.pull fun p hp hn => hin p (by k_mem) hn) (ht1.pull fun p hp hn => hin p (by rcases List.mem_append.mp hp with hp | hp <;> k_mem) hn) (ht2.pull fun p hp hn => hin p (by rcases List.mem_append.mp hp with hp | hp <;> (try (rcases List.mem_append.mp hp with hp | hp)) <;> k_mem) hn) ?m5 (hin _ (by k_mem) ?n5)
  case n5 => exact ne_len (zs := [_, _, _]) (by simp)
  all_goals ((try dsimp only); (repeat (first | exact if_pos rfl | assumption | refine (if_neg (by decide)).trans ?_)))
end
end Mine
end
theorem Mine.calm_S1 : True := by (w_top off); exact True.intro
-- S2
section
namespace Mine
theorem strs_append {vs us : List Value} {ks js : List Str} (h : StrsAre vs ks) (g : StrsAre us js) : StrsAre (vs ++ us) (ks ++ js) := by
  induction h with
  | nil => exact g
  | cons k t _ ih => exact .cons k t ih
theorem menuH_len {H : List Str} (h : MenuH H) : H.length ≤ 3 := by
  simp only [MenuH, List.mem_cons, List.not_mem_nil, or_false] at h
  rcases h with rfl | rfl | rfl <;> decide
theorem menuX_len {X : List Str} (h : MenuX X) : X.length ≤ 3 := by
  simp only [MenuX, List.mem_cons, List.not_mem_nil, or_false] at h
  rcases h with rfl | rfl | rfl | rfl | rfl | rfl <;> decide
theorem own_pick {h₀ h : Heap} {L : Addr} {big : List (Addr × Obj)} (_ : News h₀ L h big) {H M La : List Str} {hl d1 d2 : Nat} {zs zm zl : List Value} {e e1 e2 : Nat} {g : Int} {v : Value} (hg0 : 0 ≤ g) (hg1 : g < 3) (hv : [Value.ref hl, .ref d1, .ref d2][g.toNat]? = some v)
    (m0 : (hl, listOf zs.toArray e) ∈ big) (m1 : (d1, listOf (zs ++ zm).toArray e1) ∈ big) (m2 : (d2, listOf (zs ++ zm ++ zl).toArray e2) ∈ big) (hz : StrsAre zs H) (hzm : StrsAre zm M) (hzl : StrsAre zl La) (hH : MenuH H) (hM : MenuM M) (hL : MenuL La) :
    ∃ (X : List Str) (ow : Nat) (zo : List Value) (eo : Nat), MenuX X ∧ v = .ref ow ∧ (ow, listOf zo.toArray eo) ∈ big ∧ StrsAre zo (H ++ X) ∧ zo.length ≤ 10 := by
  obtain ⟨x0, x1, x2⟩ := menu_X hM hL
  have l0 := menuH_len hH
  have l1 := menuX_len x1
  have l2 := menuX_len x2
  have fin : ∀ {zo : List Value} {X : List Str}, StrsAre zo (H ++ X) → X.length ≤ 3 → zo.length ≤ 10 := fun h hx => by
    rw [StrsAre.length h, List.length_append]; omega
  rcases (show g = 0 ∨ g = 1 ∨ g = 2 by omega) with rfl | rfl | rfl
  · have hs : StrsAre zs (H ++ []) := by rw [List.append_nil]; exact hz
    exact ⟨[], hl, zs, e, x0, (Option.some.inj hv).symm, m0, hs, fin hs (by simp)⟩
  · have hs := strs_append hz hzm
    exact ⟨M, d1, _, e1, x1, (Option.some.inj hv).symm, m1, hs, fin hs l1⟩
  · have hs : StrsAre (zs ++ zm ++ zl) (H ++ (M ++ La)) := by rw [← List.append_assoc]; exact strs_append (strs_append hz hzm) hzl
    exact ⟨M ++ La, d2, _, e2, x2, (Option.some.inj hv).symm, m2, hs, fin hs l2⟩
section
set_option maxRecDepth 100000 in
set_option maxHeartbeats 8000000 in
theorem seg2 (w : World) : Seg w 7 2 (LawAt 7 P1) (LawAt 8 P2) := by
  k_with_none
  k_with "call ref" => (k_here; (with_reducible show wpAny _ _ (call (Value.ref _) [Value.ref _, Value.int _ _]) _ _ _); k_dflt (refine' (tell_K _ _ _ _ _ _ _ _ _ _ _ _ _ ?Uₖ ?slₖ ?hxₖ ?hlₖ ?i0ₖ ?i1ₖ ?m0ₖ ?m1ₖ ?hneₖ) _ _ _ _ _ _ _ _ _ _ _ _ _ _ _ _ _ _ _ _ ?Bₖ ?Fₖ ?Xₖ ?Nₖ ?Tₖ ?kkₖ ?ddₖ ?uuₖ ?_; (case Fₖ => k_asm); (case Nₖ => k_asm); (case Uₖ => k_updF); (case slₖ => k_mem); (case hxₖ => assumption); (case hlₖ => (first | assumption | omega)); (case i0ₖ => omega); (case i1ₖ => omega); (case m0ₖ => omega); (case m1ₖ => omega); (case hneₖ => (first | assumption | exact Nat.ne_of_gt (And.left (by assumption)))); (case Bₖ => k_asm); (case Xₖ => k_asm); (case Tₖ => k_asm); (case kkₖ => first | exact rfl | assumption); (case ddₖ => (first | ktr_room | decide)); (case uuₖ => (first | ktr_units | decide))); intro r'ₖ n'ₖ h'ₖ tk'ₖ F'ₖ N'ₖ hp'ₖ; obtain ⟨v'ₖ, t'ₖ, t2'ₖ, er'ₖ, hv0'ₖ, hv1'ₖ, en'ₖ⟩ := hp'ₖ; subst er'ₖ; subst en'ₖ; (try dsimp only at N'ₖ); (try k_sweep))
  k_with "subscriptTail" => (k_here; (with_reducible show wpAny _ _ (subscriptTail _ (PySem.Expr.Slice none (some _) none _) (Value.ref _) (Value.ref _)) _ _ _); k_dflt (refine kba_turn (value' := PySem.Expr.Name (PySem.Str.ofString "_") ⟨0, 0, 0, 0⟩) (fun _ => rfl) ?_; refine slice_strs (by k_asm) (by k_asm) (by k_mem) (by first | assumption | exact .cons _ _ (.cons _ _ (.cons _ _ .nil)) | exact .cons _ _ .nil) (by omega) ?_ (by with_unfolding_all rfl) (fun _ => rfl) (by first | assumption | (simp only [List.length_cons, List.length_nil]; omega) | omega)); intro D'ₖ h'ₖ zs'ₖ F'ₖ N'ₖ hz'ₖ hzl'ₖ l1ₖ; (try k_lt l1ₖ); (try k_sweep))
  k_with "subscriptTail List Slice ref ref" => (k_here; (with_reducible show wpAny _ _ (subscriptTail _ (PySem.Expr.Slice none (some _) none _) (Value.ref _) (Value.ref _)) _ _ _); k_dflt (refine kba_turn (value' := PySem.Expr.Name (PySem.Str.ofString "_") ⟨0, 0, 0, 0⟩) (fun _ => rfl) ?_; refine slice_strs (by k_asm) (by k_asm) (by k_mem) (by first | assumption | exact .cons _ _ (.cons _ _ (.cons _ _ .nil)) | exact .cons _ _ .nil) (by omega) ?_ (by with_unfolding_all rfl) (fun _ => rfl) (by first | assumption | (simp only [List.length_cons, List.length_nil]; omega) | omega)); intro D'ₖ h'ₖ zs'ₖ F'ₖ N'ₖ hz'ₖ hzl'ₖ l1ₖ; (try k_lt l1ₖ); (try k_sweep))
  k_with "subscriptTail Call Slice ref ref" => (k_here; (with_reducible show wpAny _ _ (subscriptTail _ (PySem.Expr.Slice none (some _) none _) (Value.ref _) (Value.ref _)) _ _ _); k_dflt (refine kba_turn (value' := PySem.Expr.Name (PySem.Str.ofString "_") ⟨0, 0, 0, 0⟩) (fun _ => rfl) ?_; refine slice_strs (by k_asm) (by k_asm) (by k_mem) (by first | assumption | exact .cons _ _ (.cons _ _ (.cons _ _ .nil)) | exact .cons _ _ .nil) (by omega) ?_ (by with_unfolding_all rfl) (fun _ => rfl) (by first | assumption | (simp only [List.length_cons, List.length_nil]; omega) | omega)); intro D'ₖ h'ₖ zs'ₖ F'ₖ N'ₖ hz'ₖ hzl'ₖ l1ₖ; (try k_lt l1ₖ); (try k_sweep))
  k_with "subscriptTail Name Slice ref ref" => (k_here; (with_reducible show wpAny _ _ (subscriptTail _ (PySem.Expr.Slice none (some _) none _) (Value.ref _) (Value.ref _)) _ _ _); k_dflt (refine kba_turn (value' := PySem.Expr.Name (PySem.Str.ofString "_") ⟨0, 0, 0, 0⟩) (fun _ => rfl) ?_; refine slice_strs (by k_asm) (by k_asm) (by k_mem) (by first | assumption | exact .cons _ _ (.cons _ _ (.cons _ _ .nil)) | exact .cons _ _ .nil) (by omega) ?_ (by with_unfolding_all rfl) (fun _ => rfl) (by first | assumption | (simp only [List.length_cons, List.length_nil]; omega) | omega)); intro D'ₖ h'ₖ zs'ₖ F'ₖ N'ₖ hz'ₖ hzl'ₖ l1ₖ; (try k_lt l1ₖ); (try k_sweep))
  k_with "subscriptTail Subscript Slice ref ref" => (k_here; (with_reducible show wpAny _ _ (subscriptTail _ (PySem.Expr.Slice none (some _) none _) (Value.ref _) (Value.ref _)) _ _ _); k_dflt (refine kba_turn (value' := PySem.Expr.Name (PySem.Str.ofString "_") ⟨0, 0, 0, 0⟩) (fun _ => rfl) ?_; refine slice_strs (by k_asm) (by k_asm) (by k_mem) (by first | assumption | exact .cons _ _ (.cons _ _ (.cons _ _ .nil)) | exact .cons _ _ .nil) (by omega) ?_ (by with_unfolding_all rfl) (fun _ => rfl) (by first | assumption | (simp only [List.length_cons, List.length_nil]; omega) | omega)); intro D'ₖ h'ₖ zs'ₖ F'ₖ N'ₖ hz'ₖ hzl'ₖ l1ₖ; (try k_lt l1ₖ); (try k_sweep))
  k_with "subscriptTail" => (k_here; (with_reducible show wpAny _ _ (subscriptTail _ (PySem.Expr.Slice (some _) none none _) (Value.ref _) (Value.ref _)) _ _ _); k_dflt (refine kba_turn (value' := PySem.Expr.Name (PySem.Str.ofString "_") ⟨0, 0, 0, 0⟩) (fun _ => rfl) ?_; refine slice_drops (by k_asm) (by k_asm) (by k_mem) (by first | assumption | exact .cons _ _ (.cons _ _ (.cons _ _ .nil)) | exact .cons _ _ .nil) (by omega) ?_ (by with_unfolding_all rfl) (fun _ => rfl) (by first | assumption | (simp only [List.length_cons, List.length_nil]; omega) | omega)); intro D'ₖ h'ₖ zs'ₖ F'ₖ N'ₖ hz'ₖ hzl'ₖ l1ₖ; (try k_lt l1ₖ); (try k_sweep))
  k_with "subscriptTail List Slice ref ref" => (k_here; (with_reducible show wpAny _ _ (subscriptTail _ (PySem.Expr.Slice (some _) none none _) (Value.ref _) (Value.ref _)) _ _ _); k_dflt (refine kba_turn (value' := PySem.Expr.Name (PySem.Str.ofString "_") ⟨0, 0, 0, 0⟩) (fun _ => rfl) ?_; refine slice_drops (by k_asm) (by k_asm) (by k_mem) (by first | assumption | exact .cons _ _ (.cons _ _ (.cons _ _ .nil)) | exact .cons _ _ .nil) (by omega) ?_ (by with_unfolding_all rfl) (fun _ => rfl) (by first | assumption | (simp only [List.length_cons, List.length_nil]; omega) | omega)); intro D'ₖ h'ₖ zs'ₖ F'ₖ N'ₖ hz'ₖ hzl'ₖ l1ₖ; (try k_lt l1ₖ); (try k_sweep))
  k_with "subscriptTail Call Slice ref ref" => (k_here; (with_reducible show wpAny _ _ (subscriptTail _ (PySem.Expr.Slice (some _) none none _) (Value.ref _) (Value.ref _)) _ _ _); k_dflt (refine kba_turn (value' := PySem.Expr.Name (PySem.Str.ofString "_") ⟨0, 0, 0, 0⟩) (fun _ => rfl) ?_; refine slice_drops (by k_asm) (by k_asm) (by k_mem) (by first | assumption | exact .cons _ _ (.cons _ _ (.cons _ _ .nil)) | exact .cons _ _ .nil) (by omega) ?_ (by with_unfolding_all rfl) (fun _ => rfl) (by first | assumption | (simp only [List.length_cons, List.length_nil]; omega) | omega)); intro D'ₖ h'ₖ zs'ₖ F'ₖ N'ₖ hz'ₖ hzl'ₖ l1ₖ; (try k_lt l1ₖ); (try k_sweep))
  k_with "subscriptTail Name Slice ref ref" => (k_here; (with_reducible show wpAny _ _ (subscriptTail _ (PySem.Expr.Slice (some _) none none _) (Value.ref _) (Value.ref _)) _ _ _); k_dflt (refine kba_turn (value' := PySem.Expr.Name (PySem.Str.ofString "_") ⟨0, 0, 0, 0⟩) (fun _ => rfl) ?_; refine slice_drops (by k_asm) (by k_asm) (by k_mem) (by first | assumption | exact .cons _ _ (.cons _ _ (.cons _ _ .nil)) | exact .cons _ _ .nil) (by omega) ?_ (by with_unfolding_all rfl) (fun _ => rfl) (by first | assumption | (simp only [List.length_cons, List.length_nil]; omega) | omega)); intro D'ₖ h'ₖ zs'ₖ F'ₖ N'ₖ hz'ₖ hzl'ₖ l1ₖ; (try k_lt l1ₖ); (try k_sweep))
  k_with "subscriptTail Subscript Slice ref ref" => (k_here; (with_reducible show wpAny _ _ (subscriptTail _ (PySem.Expr.Slice (some _) none none _) (Value.ref _) (Value.ref _)) _ _ _); k_dflt (refine kba_turn (value' := PySem.Expr.Name (PySem.Str.ofString "_") ⟨0, 0, 0, 0⟩) (fun _ => rfl) ?_; refine slice_drops (by k_asm) (by k_asm) (by k_mem) (by first | assumption | exact .cons _ _ (.cons _ _ (.cons _ _ .nil)) | exact .cons _ _ .nil) (by omega) ?_ (by with_unfolding_all rfl) (fun _ => rfl) (by first | assumption | (simp only [List.length_cons, List.length_nil]; omega) | omega)); intro D'ₖ h'ₖ zs'ₖ F'ₖ N'ₖ hz'ₖ hzl'ₖ l1ₖ; (try k_lt l1ₖ); (try k_sweep))
  k_with "eval Name" => ((with_reducible refine inCells ?_); name_kind "local"; with_unfolding_all refine ldLoc (by assumption) (by ((try dsimp only); (repeat (first | exact if_pos rfl | assumption | refine (if_neg (by decide)).trans ?_)))) ?_)
  k_with "subscriptTail" => (k_here; (with_reducible show wpAny _ _ (subscriptTail _ _ (Value.ref _) (Value.int _ _)) _ _ _); k_dflt (refine item_led (by k_asm) (by k_mem) (by omega) (by (simp only [List.length_cons, List.length_nil]; omega)) (by (simp only [List.length_cons, List.length_nil]; omega)) ?_ (by with_unfolding_all rfl)); intro v'ₖ hv'ₖ)
  k_with "subscriptTail List Name ref int" => (k_here; (with_reducible show wpAny _ _ (subscriptTail _ _ (Value.ref _) (Value.int _ _)) _ _ _); k_dflt (refine item_led (by k_asm) (by k_mem) (by omega) (by (simp only [List.length_cons, List.length_nil]; omega)) (by (simp only [List.length_cons, List.length_nil]; omega)) ?_ (by with_unfolding_all rfl)); intro v'ₖ hv'ₖ)
  k_with "subscriptTail Name Name ref int" => (k_here; (with_reducible show wpAny _ _ (subscriptTail _ _ (Value.ref _) (Value.int _ _)) _ _ _); k_dflt (refine item_led (by k_asm) (by k_mem) (by omega) (by (simp only [List.length_cons, List.length_nil]; omega)) (by (simp only [List.length_cons, List.length_nil]; omega)) ?_ (by with_unfolding_all rfl)); intro v'ₖ hv'ₖ)
  k_with "binaryOp Add ref ref" => (k_here; k_dflt (refine' add_led ?k1ₖ ?k2ₖ ?k3ₖ ?k4ₖ ?zₖ ?_; (case k1ₖ => k_asm); (case k2ₖ => k_asm); (case k3ₖ => k_mem); (case k4ₖ => k_mem); (case zₖ => ((try simp only [List.length_append, List.length_nil]); omega))); intro D'ₖ h'ₖ F'ₖ N'ₖ l1ₖ; (try k_lt l1ₖ); (try k_sweep))
  have hseed : Seed PySem.Challenge.rw_pp0004_01 hd.heap_39 := by k_fill; trivial
  clear hseed
  unfold Seg
  intro h₀ mean mg mb fa cd s s₂ Q E B KX T hJ hQ
  dsimp only [lawEnv]
  generalize eB : lawBody = LB
  generalize eS : lawScope = LS
  conv at eB => lhs; whnf
  conv at eS => lhs; whnf
  subst eB; subst eS
  dsimp only [List.drop, List.take]
  obtain ⟨h, tk, m, kn, sl, xs, ms, n1, n2, i, t, oc2, T0, es, F2, N2, K2, i0, i1, hP⟩ := hJ
  subst es
  obtain ⟨hsl, hx, hlen, hne, hT, hcl, hcd2⟩ := K2
  obtain ⟨hl, zs, e, H, mo, zm, em, M, la, zl, ela, La, bx, dx, fx, ln, eln, ⟨a1, a2, hz, hzl⟩, hH, ⟨b1, b2, hzm, hzml⟩, hM, ⟨c1, c2, hzl2, hzll⟩, hL, m2, hb, hd, hf, m3, h3⟩ := hP
  k_steps
  rename _[_]? = some _ => hv9
  rename (_ : Int) < (3 : Int) => hg1
  rename (0 : Int) ≤ _ => hg0
  have N9 := ‹News h₀ _ _ ((_, _) :: _)›
  obtain ⟨X, ow, zo, eo, hX, ev, ho, hzo, hzol⟩ := own_pick N9 hg0 hg1 hv9 (by k_mem) (.tail _ (.tail _ (.tail _ (.head _)))) (.tail _ (.head _)) hz hzm hzl2 hH hM hL
  subst ev
  refine hQ _ (LawAt.close (by k_asm) N9 (by k_mem) (by k_mem) hx hlen hne (by k_mem) hcd2 (by omega) (by omega) (fun T hin => ?_))
  refine' P2.mk hl zs e H _ _ _ X bx _ _ _ _ _ _ _ _ ⟨?m1, hin _ (by k_mem) (ne_strs hz), hz, hzl⟩ hH ⟨?m2, hin _ ho (ne_strs hzo), hzo, hzol⟩ hX ?m3 (hb.pull fun p hp hn => hin p (by k_mem) hn) (hd.pull fun p hp hn => hin p (by k_mem) hn) (hf.pull fun p hp hn => hin p (by k_mem) hn) ?m4 (hin _ (by k_mem) (ne_len (zs := [_, _, _]) (by simp))) ?m5 hg0 hg1
  (case m5 => ((try dsimp only); (repeat (first | exact if_pos rfl | assumption | refine (if_neg (by decide)).trans ?_))))
  all_goals ((try dsimp only); (repeat (first | exact if_pos rfl | assumption | refine (if_neg (by decide)).trans ?_)))
end
end Mine
end
theorem Mine.calm_S2 : True := by (w_top off); exact True.intro
-- S3
section
namespace Mine
/-- pairs of a name and a worth, as the ledger bears them -/
inductive PairsIn (P : Params) (led : List (Addr × Obj)) : List Value → List (Str × Value) → List (Str × Worth) → Prop
  | nil : PairsIn P led [] [] []
  | cons {p : Addr} {k : Str} {t : Tok} {v : Value} {wo : Worth} {ys kvs ws} : (p, tupOf [.str k t, v]) ∈ led → WorthIn P led led v wo → PairsIn P led ys kvs ws → PairsIn P led (.ref p :: ys) ((k, v) :: kvs) ((k, wo) :: ws)
theorem PairsIn.mono {P : Params} {led led' : List (Addr × Obj)} {ys kvs ws} (h : PairsIn P led ys kvs ws) (hs : ∀ p ∈ led, p ∈ led') : PairsIn P led' ys kvs ws := by
  induction h with
  | nil => exact .nil
  | cons a b _ ih => exact .cons (hs _ a) (b.mono hs hs) ih
theorem PairsIn.snoc {P : Params} {led : List (Addr × Obj)} {ys kvs ws} {p : Addr} {k : Str} {t : Tok} {v : Value} {wo : Worth} (h : PairsIn P led ys kvs ws) (x : (p, tupOf [.str k t, v]) ∈ led) (y : WorthIn P led led v wo) : PairsIn P led (ys ++ [.ref p]) (kvs ++ [(k, v)]) (ws ++ [(k, wo)]) := by
  induction h with
  | nil => exact .cons x y .nil
  | cons a b _ ih => exact .cons a b ih
theorem PairsIn.worths {P : Params} {led : List (Addr × Obj)} {ys kvs ws} (h : PairsIn P led ys kvs ws) : WorthsIn P led led kvs ws := by
  induction h with
  | nil => exact .nil
  | cons a b _ ih => exact .cons b ih
theorem PairsIn.len {P : Params} {led : List (Addr × Obj)} {ys kvs ws} (h : PairsIn P led ys kvs ws) : ys.length = kvs.length := by
  induction h with
  | nil => rfl
  | cons a b _ ih => simp [ih]
theorem PairsIn.at {P : Params} {led : List (Addr × Obj)} {ys kvs ws} (h : PairsIn P led ys kvs ws) : ∀ (i : Nat) (v : Value), ys[i]? = some v → ∃ (p : Addr) (k : Str) (t : Tok) (x : Value), v = .ref p ∧ kvs[i]? = some (k, x) ∧ (p, tupOf [.str k t, x]) ∈ led := by
  induction h with
  | nil => intro i v h; simp at h
  | @cons p k t v wo ys kvs ws a b _ ih =>
    intro i u h
    cases i with
    | zero => simp at h; subst h; exact ⟨p, k, t, v, rfl, rfl, a⟩
    | succ i => simp only [List.getElem?_cons_succ] at h ⊢; exact ih i u h
theorem pairs_step {P : Params} {led tl1 big : List (Addr × Obj)} {ys : List Value} {kvs : List (Str × Value)} {ws : List (Str × Worth)} {v : Value} {wo : Worth} {T : Addr} {k : Str} {t : Tok} (hys : PairsIn P led ys kvs ws) (hw : WorthIn P tl1 tl1 v wo) (hx : (T, tupOf [.str k t, v]) ∈ big) (h1 : ∀ p ∈ led, p ∈ big) (h2 : ∀ p ∈ tl1, p ∈ big) :
    PairsIn P big (ys ++ [.ref T]) (kvs ++ [(k, v)]) (ws ++ [(k, wo)]) := (hys.mono h1).snoc hx (hw.mono h2 h2)
theorem comp_end_kn {h₀ : Heap} {L I C D T : Addr} {kn : Nat} {m : Str → Option Value} {s₁ : Shared} {oI oC oD oT ko ko0 : Obj} {S : List (Addr × Obj) → Prop} {rest : Value → List (Addr × Obj) → Prop} {y : Value} {h' : Heap} {tk : Nat} {tl tl1 T0 : List (Addr × Obj)}
    (F : Fr h₀ L h' m) (N : News h₀ L h' ((T, oT) :: (tl1 ++ (I, oI) :: (C, oC) :: (D, oD) :: (kn, ko) :: (tl ++ T0)))) (ap : Apart ((I, oI) :: (C, oC) :: (D, oD) :: (kn, ko0) :: (tl ++ T0)) tl1)
    (l1 : ∀ p ∈ tl1 ++ (I, oI) :: (C, oC) :: (D, oD) :: (kn, ko) :: (tl ++ T0), p.1 < T) (off : LCg.Off3 I C D ((kn, ko0) :: (tl ++ T0))) (hS : S ((kn, ko) :: (((T, oT) :: (tl1 ++ tl)) ++ T0))) (r : rest y ((kn, ko) :: (((T, oT) :: (tl1 ++ tl)) ++ T0))) :
    LCg.CompEnd h₀ L m s₁ I oI C oC D oD S rest y { s₁ with heap := h', toks := tk } := by
  have o3 := off3_all off
  refine LCg.CompEnd.intro F N _ (fun p hp => ?_) (off3_of ?_) hS r
  · simp only [List.mem_cons, List.mem_append] at hp ⊢
    rcases hp with h | h | h | h | ((h | h | h) | h) <;> simp only [h, true_or, or_true]
  · intro p hp
    simp only [List.mem_cons, List.mem_append] at hp
    have h1 : ∀ q ∈ ((I, oI) : Addr × Obj) :: (C, oC) :: (D, oD) :: (kn, ko0) :: (tl ++ T0), p ∈ tl1 → @Ne Nat p.1 q.1 := fun q hq h => Ne.symm (ap q hq p h)
    rcases hp with rfl | (rfl | hp | hp) | hp
    · exact ⟨(o3 (kn, ko0) (.head _)).1, (o3 (kn, ko0) (.head _)).2.1, (o3 (kn, ko0) (.head _)).2.2⟩
    · exact ⟨Nat.ne_of_gt (l1 (I, oI) (by simp)), Nat.ne_of_gt (l1 (C, oC) (by simp)), Nat.ne_of_gt (l1 (D, oD) (by simp))⟩
    · exact ⟨h1 _ (.head _) hp, h1 _ (.tail _ (.head _)) hp, h1 _ (.tail _ (.tail _ (.head _))) hp⟩
    · exact o3 p (.tail _ (List.mem_append_left _ hp))
    · exact o3 p (.tail _ (List.mem_append_right _ hp))
theorem dict_pairs_P {prog : Program} {w : World} {A : Around} {E : Value → Shared → Prop} {s : Shared} {h₀ : Heap} {L l : Addr} {m : Str → Option Value} {news led : List (Addr × Obj)} {vs : List Value} {n : Nat} {kvs : List (Str × Value)} {ws : List (Str × Worth)} {Q : Value → Shared → Prop} (Fh : Fr h₀ L s.heap m) (N : News h₀ L s.heap news) (hbig : h₀.NoLimit) (hh : A.handled = none)
    (hm : (l, listOf vs.toArray n) ∈ news) (hp : PairsIn w.params led vs kvs ws) (hled : ∀ p ∈ led, p ∈ news) (hn : (kvs.map (·.1)).Nodup) (hl : kvs.length ≤ 100)
    (h : ∀ (d : Nat) h' tk o, Fr h₀ L h' m → News h₀ L h' ((d, o) :: news) → (∀ p ∈ news, p.1 < d) → (d == sysModules) = false → o.IsDictOf (strKind prog w) kvs → Q (.ref d) { s with heap := h', toks := tk }) :
    wpAny (model prog w) A (call (.type "dict") [.ref l]) Q E s :=
  dict_pairs_K Fh N hbig hh hm hn hl hp.len (fun i v hv => let ⟨p, k, t, x, e1, e2, e3⟩ := hp.at i v hv; ⟨p, k, t, x, e1, e2, hled _ e3⟩) h
theorem own_nodup {H X : List Str} (hH : MenuH H) (hX : MenuX X) : (H ++ X).Nodup := by
  simp only [MenuH, MenuX, List.mem_cons, List.not_mem_nil, or_false] at hH hX
  rcases hH with rfl | rfl | rfl <;> rcases hX with rfl | rfl | rfl | rfl | rfl | rfl <;> decide
theorem ne_dict {w : World} {kn x sl : Addr} {i : Int} {t : Tok} {n : Nat} {o : Obj} {kvs : List (Str × Value)} (hs : o.IsDictOf (strKind PG w) kvs) : ((x, o) : Addr × Obj) ≠ (kn, knobOf sl i t n) := by
  obtain ⟨es', ep, hx⟩ := hs
  intro h
  have h8 := congrArg Obj.data (Prod.mk.inj h).2
  rw [hx.2.1] at h8
  cases h8
/-- the value is made -/
inductive P3 (w : World) (m : Str → Option Value) (T : List (Addr × Obj)) : Prop
  | mk (hl : Nat) (zs : List Value) (e : Nat) (H : List Str) (ow : Nat) (zo : List Value) (eo : Nat) (X : List Str) (bx dx fx ln eln : Nat) (g : Int) (tg : Tok) (n1 n2 : List Str) (vx vd vf tt : Nat) (t1 t2 : Tok) (vo : Obj) (kva : List (Str × Value)) (ws : List (Str × Worth))
    (A1 : StrL m T "heads" H hl zs e) (hH : MenuH H) (A2 : StrL m T "own" (H ++ X) ow zo eo) (hX : MenuX X)
    (m2 : m "base" = some (.ref bx)) (hb : TypeIn w T bx 41 H) (hd : TypeIn w T dx 42 n1) (hf : TypeIn w T fx 43 n2)
    (m3 : m "line" = some (.ref ln)) (h3 : (ln, listOf #[.ref bx, .ref dx, .ref fx] eln) ∈ T) (m4 : m "tag" = some (.int g tg)) (g0 : 0 ≤ g) (g1 : g < 3)
    (m5 : m "value" = some (.ref vx)) (htt : [Value.ref bx, .ref dx, .ref fx][g.toNat]? = some (.ref tt)) (v1 : (vx, instObj 119 vd) ∈ T) (v2 : (vd, rvDict w.params t1 t2 tt vf) ∈ T) (v3 : (vf, vo) ∈ T) (v4 : vo.IsDictOf (strKind PG w) kva) (v5 : (vf == sysModules) = false)
    (v6 : WorthsIn w.params T T kva ws) (v7 : kva.map (·.1) = H ++ X) : P3 w m T
theorem pick_ref {bx dx fx : Nat} {g : Int} {v : Value} (hg0 : 0 ≤ g) (hg1 : g < 3) (hv : [Value.ref bx, .ref dx, .ref fx][g.toNat]? = some v) : ∃ tt : Nat, v = .ref tt := by
  rcases (show g = 0 ∨ g = 1 ∨ g = 2 by omega) with rfl | rfl | rfl <;> exact ⟨_, (Option.some.inj hv).symm⟩
section
local macro_rules | `(tactic| lcg_off) => `(tactic| assumption)
set_option maxRecDepth 100000 in
set_option maxHeartbeats 8000000 in
theorem seg3 (w : World) : Seg w 9 1 (LawAt 8 P2) (LawAt 28 P3) := by
  k_with_none
  k_with "call ref" => (k_here; (with_reducible show wpAny _ _ (call (Value.ref _) [Value.ref _, Value.int _ _]) _ _ _); k_dflt (refine' (tell_K _ _ _ _ _ _ _ _ _ _ _ _ _ ?Uₖ ?slₖ ?hxₖ ?hlₖ ?i0ₖ ?i1ₖ ?m0ₖ ?m1ₖ ?hneₖ) _ _ _ _ _ _ _ _ _ _ _ _ _ _ _ _ _ _ _ _ ?Bₖ ?Fₖ ?Xₖ ?Nₖ ?Tₖ ?kkₖ ?ddₖ ?uuₖ ?_; (case Fₖ => k_asm); (case Nₖ => k_asm); (case Uₖ => k_updF); (case slₖ => k_mem); (case hxₖ => assumption); (case hlₖ => (first | assumption | omega)); (case i0ₖ => omega); (case i1ₖ => omega); (case m0ₖ => omega); (case m1ₖ => omega); (case hneₖ => (first | assumption | exact Nat.ne_of_gt (And.left (by assumption)))); (case Bₖ => k_asm); (case Xₖ => k_asm); (case Tₖ => k_asm); (case kkₖ => first | exact rfl | assumption); (case ddₖ => (first | ktr_room | decide)); (case uuₖ => (first | ktr_units | decide))); intro r'ₖ n'ₖ h'ₖ tk'ₖ F'ₖ N'ₖ hp'ₖ; obtain ⟨v'ₖ, t'ₖ, t2'ₖ, er'ₖ, hv0'ₖ, hv1'ₖ, en'ₖ⟩ := hp'ₖ; subst er'ₖ; subst en'ₖ; (try dsimp only at N'ₖ); (try k_sweep))
  k_with "subscriptTail" => (k_here; (with_reducible show wpAny _ _ (subscriptTail _ (PySem.Expr.Slice none (some _) none _) (Value.ref _) (Value.ref _)) _ _ _); k_dflt (refine kba_turn (value' := PySem.Expr.Name (PySem.Str.ofString "_") ⟨0, 0, 0, 0⟩) (fun _ => rfl) ?_; refine slice_strs (by k_asm) (by k_asm) (by k_mem) (by first | assumption | exact .cons _ _ (.cons _ _ (.cons _ _ .nil)) | exact .cons _ _ .nil) (by omega) ?_ (by with_unfolding_all rfl) (fun _ => rfl) (by first | assumption | (simp only [List.length_cons, List.length_nil]; omega) | omega)); intro D'ₖ h'ₖ zs'ₖ F'ₖ N'ₖ hz'ₖ hzl'ₖ l1ₖ; (try k_lt l1ₖ); (try k_sweep))
  k_with "subscriptTail List Slice ref ref" => (k_here; (with_reducible show wpAny _ _ (subscriptTail _ (PySem.Expr.Slice none (some _) none _) (Value.ref _) (Value.ref _)) _ _ _); k_dflt (refine kba_turn (value' := PySem.Expr.Name (PySem.Str.ofString "_") ⟨0, 0, 0, 0⟩) (fun _ => rfl) ?_; refine slice_strs (by k_asm) (by k_asm) (by k_mem) (by first | assumption | exact .cons _ _ (.cons _ _ (.cons _ _ .nil)) | exact .cons _ _ .nil) (by omega) ?_ (by with_unfolding_all rfl) (fun _ => rfl) (by first | assumption | (simp only [List.length_cons, List.length_nil]; omega) | omega)); intro D'ₖ h'ₖ zs'ₖ F'ₖ N'ₖ hz'ₖ hzl'ₖ l1ₖ; (try k_lt l1ₖ); (try k_sweep))
  k_with "subscriptTail Call Slice ref ref" => (k_here; (with_reducible show wpAny _ _ (subscriptTail _ (PySem.Expr.Slice none (some _) none _) (Value.ref _) (Value.ref _)) _ _ _); k_dflt (refine kba_turn (value' := PySem.Expr.Name (PySem.Str.ofString "_") ⟨0, 0, 0, 0⟩) (fun _ => rfl) ?_; refine slice_strs (by k_asm) (by k_asm) (by k_mem) (by first | assumption | exact .cons _ _ (.cons _ _ (.cons _ _ .nil)) | exact .cons _ _ .nil) (by omega) ?_ (by with_unfolding_all rfl) (fun _ => rfl) (by first | assumption | (simp only [List.length_cons, List.length_nil]; omega) | omega)); intro D'ₖ h'ₖ zs'ₖ F'ₖ N'ₖ hz'ₖ hzl'ₖ l1ₖ; (try k_lt l1ₖ); (try k_sweep))
  k_with "subscriptTail Name Slice ref ref" => (k_here; (with_reducible show wpAny _ _ (subscriptTail _ (PySem.Expr.Slice none (some _) none _) (Value.ref _) (Value.ref _)) _ _ _); k_dflt (refine kba_turn (value' := PySem.Expr.Name (PySem.Str.ofString "_") ⟨0, 0, 0, 0⟩) (fun _ => rfl) ?_; refine slice_strs (by k_asm) (by k_asm) (by k_mem) (by first | assumption | exact .cons _ _ (.cons _ _ (.cons _ _ .nil)) | exact .cons _ _ .nil) (by omega) ?_ (by with_unfolding_all rfl) (fun _ => rfl) (by first | assumption | (simp only [List.length_cons, List.length_nil]; omega) | omega)); intro D'ₖ h'ₖ zs'ₖ F'ₖ N'ₖ hz'ₖ hzl'ₖ l1ₖ; (try k_lt l1ₖ); (try k_sweep))
  k_with "subscriptTail Subscript Slice ref ref" => (k_here; (with_reducible show wpAny _ _ (subscriptTail _ (PySem.Expr.Slice none (some _) none _) (Value.ref _) (Value.ref _)) _ _ _); k_dflt (refine kba_turn (value' := PySem.Expr.Name (PySem.Str.ofString "_") ⟨0, 0, 0, 0⟩) (fun _ => rfl) ?_; refine slice_strs (by k_asm) (by k_asm) (by k_mem) (by first | assumption | exact .cons _ _ (.cons _ _ (.cons _ _ .nil)) | exact .cons _ _ .nil) (by omega) ?_ (by with_unfolding_all rfl) (fun _ => rfl) (by first | assumption | (simp only [List.length_cons, List.length_nil]; omega) | omega)); intro D'ₖ h'ₖ zs'ₖ F'ₖ N'ₖ hz'ₖ hzl'ₖ l1ₖ; (try k_lt l1ₖ); (try k_sweep))
  k_with "subscriptTail" => (k_here; (with_reducible show wpAny _ _ (subscriptTail _ (PySem.Expr.Slice (some _) none none _) (Value.ref _) (Value.ref _)) _ _ _); k_dflt (refine kba_turn (value' := PySem.Expr.Name (PySem.Str.ofString "_") ⟨0, 0, 0, 0⟩) (fun _ => rfl) ?_; refine slice_drops (by k_asm) (by k_asm) (by k_mem) (by first | assumption | exact .cons _ _ (.cons _ _ (.cons _ _ .nil)) | exact .cons _ _ .nil) (by omega) ?_ (by with_unfolding_all rfl) (fun _ => rfl) (by first | assumption | (simp only [List.length_cons, List.length_nil]; omega) | omega)); intro D'ₖ h'ₖ zs'ₖ F'ₖ N'ₖ hz'ₖ hzl'ₖ l1ₖ; (try k_lt l1ₖ); (try k_sweep))
  k_with "subscriptTail List Slice ref ref" => (k_here; (with_reducible show wpAny _ _ (subscriptTail _ (PySem.Expr.Slice (some _) none none _) (Value.ref _) (Value.ref _)) _ _ _); k_dflt (refine kba_turn (value' := PySem.Expr.Name (PySem.Str.ofString "_") ⟨0, 0, 0, 0⟩) (fun _ => rfl) ?_; refine slice_drops (by k_asm) (by k_asm) (by k_mem) (by first | assumption | exact .cons _ _ (.cons _ _ (.cons _ _ .nil)) | exact .cons _ _ .nil) (by omega) ?_ (by with_unfolding_all rfl) (fun _ => rfl) (by first | assumption | (simp only [List.length_cons, List.length_nil]; omega) | omega)); intro D'ₖ h'ₖ zs'ₖ F'ₖ N'ₖ hz'ₖ hzl'ₖ l1ₖ; (try k_lt l1ₖ); (try k_sweep))
  k_with "subscriptTail Call Slice ref ref" => (k_here; (with_reducible show wpAny _ _ (subscriptTail _ (PySem.Expr.Slice (some _) none none _) (Value.ref _) (Value.ref _)) _ _ _); k_dflt (refine kba_turn (value' := PySem.Expr.Name (PySem.Str.ofString "_") ⟨0, 0, 0, 0⟩) (fun _ => rfl) ?_; refine slice_drops (by k_asm) (by k_asm) (by k_mem) (by first | assumption | exact .cons _ _ (.cons _ _ (.cons _ _ .nil)) | exact .cons _ _ .nil) (by omega) ?_ (by with_unfolding_all rfl) (fun _ => rfl) (by first | assumption | (simp only [List.length_cons, List.length_nil]; omega) | omega)); intro D'ₖ h'ₖ zs'ₖ F'ₖ N'ₖ hz'ₖ hzl'ₖ l1ₖ; (try k_lt l1ₖ); (try k_sweep))
  k_with "subscriptTail Name Slice ref ref" => (k_here; (with_reducible show wpAny _ _ (subscriptTail _ (PySem.Expr.Slice (some _) none none _) (Value.ref _) (Value.ref _)) _ _ _); k_dflt (refine kba_turn (value' := PySem.Expr.Name (PySem.Str.ofString "_") ⟨0, 0, 0, 0⟩) (fun _ => rfl) ?_; refine slice_drops (by k_asm) (by k_asm) (by k_mem) (by first | assumption | exact .cons _ _ (.cons _ _ (.cons _ _ .nil)) | exact .cons _ _ .nil) (by omega) ?_ (by with_unfolding_all rfl) (fun _ => rfl) (by first | assumption | (simp only [List.length_cons, List.length_nil]; omega) | omega)); intro D'ₖ h'ₖ zs'ₖ F'ₖ N'ₖ hz'ₖ hzl'ₖ l1ₖ; (try k_lt l1ₖ); (try k_sweep))
  k_with "subscriptTail Subscript Slice ref ref" => (k_here; (with_reducible show wpAny _ _ (subscriptTail _ (PySem.Expr.Slice (some _) none none _) (Value.ref _) (Value.ref _)) _ _ _); k_dflt (refine kba_turn (value' := PySem.Expr.Name (PySem.Str.ofString "_") ⟨0, 0, 0, 0⟩) (fun _ => rfl) ?_; refine slice_drops (by k_asm) (by k_asm) (by k_mem) (by first | assumption | exact .cons _ _ (.cons _ _ (.cons _ _ .nil)) | exact .cons _ _ .nil) (by omega) ?_ (by with_unfolding_all rfl) (fun _ => rfl) (by first | assumption | (simp only [List.length_cons, List.length_nil]; omega) | omega)); intro D'ₖ h'ₖ zs'ₖ F'ₖ N'ₖ hz'ₖ hzl'ₖ l1ₖ; (try k_lt l1ₖ); (try k_sweep))
  k_with "eval Name" => ((with_reducible refine inCells ?_); name_kind "local"; with_unfolding_all refine ldLoc (by assumption) (by ((try dsimp only); (repeat (first | exact if_pos rfl | assumption | refine (if_neg (by decide)).trans ?_)))) ?_)
  k_with "subscriptTail" => (k_here; (with_reducible show wpAny _ _ (subscriptTail _ _ (Value.ref _) (Value.int _ _)) _ _ _); k_dflt (refine item_led (by k_asm) (by k_mem) (by omega) (by (simp only [List.length_cons, List.length_nil]; omega)) (by (simp only [List.length_cons, List.length_nil]; omega)) ?_ (by with_unfolding_all rfl)); intro v'ₖ hv'ₖ)
  k_with "subscriptTail List Name ref int" => (k_here; (with_reducible show wpAny _ _ (subscriptTail _ _ (Value.ref _) (Value.int _ _)) _ _ _); k_dflt (refine item_led (by k_asm) (by k_mem) (by omega) (by (simp only [List.length_cons, List.length_nil]; omega)) (by (simp only [List.length_cons, List.length_nil]; omega)) ?_ (by with_unfolding_all rfl)); intro v'ₖ hv'ₖ)
  k_with "subscriptTail Name Name ref int" => (k_here; (with_reducible show wpAny _ _ (subscriptTail _ _ (Value.ref _) (Value.int _ _)) _ _ _); k_dflt (refine item_led (by k_asm) (by k_mem) (by omega) (by (simp only [List.length_cons, List.length_nil]; omega)) (by (simp only [List.length_cons, List.length_nil]; omega)) ?_ (by with_unfolding_all rfl)); intro v'ₖ hv'ₖ)
  k_with "call ref" => (k_here; (with_reducible show wpAny _ _ (call (Value.ref 311) [Value.ref _]) _ _ _); k_dflt (refine' (worth_K _ _ _ _ _ _ _ _ _ _ _ ?Uₖ ?slₖ ?hxₖ ?hlₖ ?i0ₖ ?i1ₖ ?hneₖ) _ _ _ _ _ _ _ _ _ _ _ _ _ _ _ _ _ _ _ _ ?Bₖ ?Fₖ ?Xₖ ?Nₖ ?Tₖ ?kkₖ ?ddₖ ?uuₖ ?_; (case Fₖ => k_asm); (case Nₖ => k_asm); (case Uₖ => k_updF); (case slₖ => k_mem); (case hxₖ => assumption); (case hlₖ => (first | assumption | omega)); (case i0ₖ => omega); (case i1ₖ => omega); (case hneₖ => assumption); (case Bₖ => k_asm); (case Xₖ => k_asm); (case Tₖ => k_asm); (case kkₖ => first | exact rfl | assumption); (case ddₖ => (first | ktr_room | decide)); (case uuₖ => (first | ktr_units | decide))); intro r'ₖ n'ₖ h'ₖ tk'ₖ F'ₖ N'ₖ hp'ₖ; obtain ⟨wo'ₖ, tl'ₖ, t2'ₖ, hwo'ₖ, ap'ₖ, en'ₖ⟩ := hp'ₖ; subst en'ₖ; (try dsimp only at N'ₖ); (try k_sweep))
  k_with "newTuple" => (k_here; k_dflt (refine' kup_newTuple ?k1ₖ ?k2ₖ ?zₖ ?_; (case k1ₖ => k_asm); (case k2ₖ => k_asm); (case zₖ => ((try simp only [List.length_cons, List.length_nil]); omega))); intro D'ₖ h'ₖ F'ₖ N'ₖ l1ₖ)
  k_with "eval ListComp" => (k_here; k_dflt (refine LCg.ListComp_U (F₀ := by k_asm) (by with_unfolding_all rfl) (by decide) (by rfl) (by decide) (by rfl) ?_))
  k_with "FinE" => ((unfold LCg.FinE); intro D'ₖ h'ₖ tk'ₖ F'ₖ N'ₖ o1'ₖ; (try simp only [List.nil_append, List.cons_append] at N'ₖ); (try dsimp only))
  k_with "call type:dict" => (k_here; (with_reducible show wpAny _ _ (call (Value.type "dict") [Value.ref _]) _ _ _); k_dflt (refine dict_pairs_P (by k_asm) (by k_asm) (Top.nolimit (by k_asm)) (by rfl) (by k_mem) (by assumption) (fun p hp => by k_mem) (by assumption) (by assumption) ?_); intro d'ₖ h'ₖ tk'ₖ o'ₖ F'ₖ N'ₖ l1ₖ lo'ₖ hd'ₖ; (try k_lt l1ₖ))
  have hseed : Seed PySem.Challenge.rw_pp0004_01 hd.heap_39 := by k_fill; trivial
  clear hseed
  unfold Seg
  intro h₀ mean mg mb fa cd s s₂ Q E B KX T hJ hQ
  dsimp only [lawEnv]
  generalize eB : lawBody = LB
  generalize eS : lawScope = LS
  conv at eB => lhs; whnf
  conv at eS => lhs; whnf
  subst eB; subst eS
  dsimp only [List.drop, List.take]
  obtain ⟨h, tk, m, kn, sl, xs, ms, n1, n2, i, t, oc2, T0, es, F2, N2, K2, i0, i1, hP⟩ := hJ
  subst es
  obtain ⟨hsl, hx, hlen, hne, hT, hcl, hcd2⟩ := K2
  obtain ⟨hl, zs, e, H, ow, zo, eo, X, bx, dx, fx, ln, eln, g, tg, nn1, nn2, ⟨a1, a2, hz, hzl⟩, hH, ⟨b1, b2, hzo, hzol⟩, hX, m2, hb, hd, hf, m3, h3, m4, g0, g1⟩ := hP
  k_steps
  rename _[_]? = some _ => hv9
  refine LCg.CompSrc.ledger (by rfl) (by k_asm) (by k_asm) (by k_mem) (by simp only [List.size_toArray]; rw [sizeLine_eq]; omega) ?_
  intro g9
  refine comprest_inv (n := zo.length) (fun j ys nw => ∃ tl t' kvs ws, nw = (kn, knobOf sl (i + 2 * (j : Int)) t' n1) :: (tl ++ T0) ∧ PairsIn w.params (tl ++ T0) ys kvs ws ∧ kvs.map (·.1) = (H ++ X).take j ∧ ∀ p ∈ tl, @Ne Nat p.1 kn) ?turn ?fin _ 0 [] _ (by simp) ⟨[], t, [], [], by simp, .nil, rfl, fun _ h => nomatch h⟩
  case turn =>
    rintro j ys nw v I oI C oC D m₂ h' tk' E' hi hP ⟨tl, t', kvs, ws, rfl, hys, hks, htl⟩ hoC hx9 F3 N3 off ne
    obtain ⟨k, t9, rfl, hk'⟩ := StrsAre_at hzo (i := j) (by simpa using hP)
    have o3 := off3_all off
    have oI9 : @Ne Nat I kn := Ne.symm (o3 _ (.head _)).1
    have oC9 : @Ne Nat C kn := Ne.symm (o3 _ (.head _)).2.1
    have oD9 : @Ne Nat D kn := Ne.symm (o3 _ (.head _)).2.2
    have hall : ∀ p ∈ tl ++ T0, p.1 ≠ kn := fun p hp => (List.mem_append.mp hp).elim (htl p) (hT p)
    have hj : (j : Int) < 10 := by omega
    have hsl' : (sl, listOf xs.toArray n2) ∈ tl ++ T0 := List.mem_append_right _ hsl
    have hcl' : (h₀.objs.size + 1, oc2) ∈ tl ++ T0 := List.mem_append_right _ hcl
    k_steps
    rename Apart _ _ => ap9
    rename WorthIn _ _ _ _ _ => hw9
    rename (∀ p ∈ (_ ++ _ : List (Addr × Obj)), p.1 < (_ : Addr)) => l9
    rename News _ _ _ _ => N9
    refine comp_end_kn (by assumption) N9 ap9 l9 off (Or.inr ⟨_, by k_mem, rfl, _, rfl⟩) ⟨_, _, kvs ++ [(k, r'ₖ)], ws ++ [(k, wo'ₖ)], by rw [show i + 2 * ((j + 1 : Nat) : Int) = i + 2 * (j : Int) + 2 by omega], ?pa, ?pb, ?pc⟩
    case pa => exact pairs_step hys hw9 (.head _) (fun p hp => (by rcases List.mem_append.mp hp with hp | hp <;> k_mem)) (fun p hp => by k_mem)
    case pb => rw [List.map_append, hks, take_snoc hk']; rfl
    case pc =>
      intro p hp
      rcases List.mem_cons.mp hp with rfl | hp
      · exact Nat.ne_of_gt (l9 (kn, _) (List.mem_append_right _ (.tail _ (.tail _ (.tail _ (.head _))))))
      rcases List.mem_append.mp hp with hp | hp
      · exact Ne.symm (ap9 (kn, _) (.tail _ (.tail _ (.tail _ (.head _)))) p hp)
      · exact htl p hp
  case fin =>
    rintro ys nw ⟨tl, t', kvs, ws, rfl, hys, hks, htl⟩
    rw [StrsAre.length hzo, List.take_length] at hks
    have hnd : (kvs.map (·.1)).Nodup := by rw [hks]; exact own_nodup hH hX
    have hkl : kvs.length ≤ 100 := by
      have h1 := congrArg List.length hks
      rw [List.length_map, ← StrsAre.length hzo] at h1
      omega
    have hall : ∀ p ∈ tl ++ T0, p.1 ≠ kn := fun p hp => (List.mem_append.mp hp).elim (htl p) (hT p)
    obtain ⟨tt, ett⟩ := pick_ref g0 g1 hv9
    subst ett
    k_steps
    rename Obj.IsDictOf _ _ kvs => hdo
    rename (_ == sysModules) = false => lo1
    have N9 := ‹News h₀ h₀.objs.size _ ((_, instObj 119 _) :: _)›
    refine hQ _ (LawAt.close (by k_asm) N9 (by k_mem) (by k_mem) hx hlen hne (by k_mem) hcd2 (by omega) (by omega) (fun T hin => ?_))
    have hin2 : ∀ p ∈ tl ++ T0, p ∈ T := fun p hp => hin p (by rcases List.mem_append.mp hp with hp | hp <;> k_mem) (fun e => hall p hp (congrArg Prod.fst e))
    have hin0 : ∀ p ∈ T0, p ∈ T := fun p hp => hin2 p (List.mem_append_right _ hp)
    refine' P3.mk hl zs e H ow zo eo X bx dx fx ln eln g tg _ _ _ _ _ tt _ _ _ kvs ws ⟨?m1, hin0 _ a2, hz, hzl⟩ hH ⟨?m2, hin0 _ b2, hzo, hzol⟩ hX ?m3 (hb.mono hin0) (hd.mono hin0) (hf.mono hin0) ?m4 (hin0 _ h3) ?m5 g0 g1 ?m6 hv9 (hin _ (by k_mem) (ne_cls ?c1)) (hin _ (by k_mem) (ne_cls ?c2)) (hin _ (by k_mem) (ne_dict hdo)) hdo lo1 (hys.worths.mono hin2 hin2) hks
    case c1 => exact fun h => absurd h (by simp [instObj])
    case c2 => exact fun h => absurd h (by simp [dictOf])
    (case m6 => ((try dsimp only); (repeat (first | exact if_pos rfl | assumption | refine (if_neg (by decide)).trans ?_))))
    all_goals ((try dsimp only); (repeat (first | exact if_pos rfl | assumption | refine (if_neg (by decide)).trans ?_)))
end
end Mine
end
theorem Mine.calm_S3 : True := by (w_top off); exact True.intro
-- LY
section
namespace Mine
/-- what the law has made up to its value -/
structure LawData where
  (hl : Nat) (zs : List Value) (e : Nat) (H : List Str) (ow : Nat) (zo : List Value) (eo : Nat) (X : List Str) (bx dx fx ln eln : Nat) (g : Int) (tg : Tok) (n1 n2 : List Str) (vx vd vf tt : Nat) (t1 t2 : Tok) (vo : Obj) (kva : List (Str × Value)) (ws : List (Str × Worth))
structure ValIn (w : World) (T : List (Addr × Obj)) (D : LawData) : Prop where
  (a2 : (D.hl, listOf D.zs.toArray D.e) ∈ T) (hz : StrsAre D.zs D.H) (hzl : D.zs.length ≤ 10) (hH : MenuH D.H)
  (b2 : (D.ow, listOf D.zo.toArray D.eo) ∈ T) (hzo : StrsAre D.zo (D.H ++ D.X)) (hzol : D.zo.length ≤ 10) (hX : MenuX D.X)
  (hb : TypeIn w T D.bx 41 D.H) (hd : TypeIn w T D.dx 42 D.n1) (hf : TypeIn w T D.fx 43 D.n2)
  (h3 : (D.ln, listOf #[.ref D.bx, .ref D.dx, .ref D.fx] D.eln) ∈ T) (g0 : 0 ≤ D.g) (g1 : D.g < 3)
  (htt : [Value.ref D.bx, .ref D.dx, .ref D.fx][D.g.toNat]? = some (.ref D.tt)) (v1 : (D.vx, instObj 119 D.vd) ∈ T) (v2 : (D.vd, rvDict w.params D.t1 D.t2 D.tt D.vf) ∈ T) (v3 : (D.vf, D.vo) ∈ T) (v4 : D.vo.IsDictOf (strKind PG w) D.kva) (v5 : (D.vf == sysModules) = false)
  (v6 : WorthsIn w.params T T D.kva D.ws) (v7 : D.kva.map (·.1) = D.H ++ D.X)
theorem ValIn.mono {w : World} {T T' : List (Addr × Obj)} {D : LawData} (h : ValIn w T D) (hs : ∀ p ∈ T, p ∈ T') : ValIn w T' D :=
  ⟨hs _ h.a2, h.hz, h.hzl, h.hH, hs _ h.b2, h.hzo, h.hzol, h.hX, h.hb.mono hs, h.hd.mono hs, h.hf.mono hs, hs _ h.h3, h.g0, h.g1, h.htt, hs _ h.v1, hs _ h.v2, hs _ h.v3, h.v4, h.v5, h.v6.mono hs hs, h.v7⟩
/-- what the frame's names hold of it -/
structure NamesOf (m : Str → Option Value) (D : LawData) : Prop where
  (a1 : m "heads" = some (.ref D.hl)) (b1 : m "own" = some (.ref D.ow)) (m2 : m "base" = some (.ref D.bx)) (m3 : m "line" = some (.ref D.ln)) (m4 : m "tag" = some (.int D.g D.tg)) (m5 : m "value" = some (.ref D.vx))
def theirNames : List Str := ["heads", "own", "base", "line", "tag", "value"]
theorem NamesOf.set {m : Str → Option Value} {D : LawData} {x : Str} {v : Option Value} (h : NamesOf m D) (hx : x ∉ theirNames) : NamesOf (fun y => if y = x then v else m y) D := by
  have ne : ∀ y ∈ theirNames, (if y = x then v else m y) = m y := fun y hy => if_neg fun (e : y = x) => hx (by rw [← e]; exact hy)
  refine ⟨?_, ?_, ?_, ?_, ?_, ?_⟩
  · exact (ne _ (by decide)).trans h.a1
  · exact (ne _ (by decide)).trans h.b1
  · exact (ne _ (by decide)).trans h.m2
  · exact (ne _ (by decide)).trans h.m3
  · exact (ne _ (by decide)).trans h.m4
  · exact (ne _ (by decide)).trans h.m5
abbrev MenuR (R : List Str) : Prop := R ∈ ([["z"], ["z", "y"], ["z", "y", "x"]] : List (List Str))
theorem menu_R {k : Int} (h0 : 1 ≤ k) (h1 : k ≤ 3) : MenuR ((["z", "y", "x"] : List Str).take k.toNat) := by
  rcases (show k = 1 ∨ k = 2 ∨ k = 3 by omega) with rfl | rfl | rfl <;> decide
theorem menuR_len {R : List Str} (h : MenuR R) : R.length ≤ 3 := by
  simp only [MenuR, List.mem_cons, List.not_mem_nil, or_false] at h
  rcases h with rfl | rfl | rfl <;> decide
/-- the goal's type is made -/
inductive P4 (w : World) (m : Str → Option Value) (T : List (Addr × Obj)) : Prop
  | mk (D : LawData) (R : List Str) (re : Nat) (zr : List Value) (er gx : Nat) (V : ValIn w T D) (M : NamesOf m D) (A3 : StrL m T "rest" R re zr er) (hR : MenuR R) (m6 : m "goal" = some (.ref gx)) (hg : TypeIn w T gx 44 (D.H ++ R)) : P4 w m T
/-- what is given is made: a dict of numbers, apart from all else -/
inductive P5 (w : World) (m : Str → Option Value) (T : List (Addr × Obj)) : Prop
  | mk (T1 : List (Addr × Obj)) (hT1 : ∀ p ∈ T1, p ∈ T) (D : LawData) (R : List Str) (re : Nat) (zr : List Value) (er gx gd : Nat) (go : Obj) (kvg : List (Str × Value)) (gs : List (Str × Worth)) (V : ValIn w T1 D) (M : NamesOf m D) (A3 : StrL m T1 "rest" R re zr er) (hR : MenuR R) (m6 : m "goal" = some (.ref gx)) (hg : TypeIn w T1 gx 44 (D.H ++ R))
    (hgd : ∀ p ∈ T1, @Ne Nat p.1 gd) (m7 : m "given" = some (.ref gd)) (g2 : (gd, go) ∈ T) (g3 : go.IsDictOf (strKind PG w) kvg) (g4 : (gd == sysModules) = false) (g5 : WorthsIn w.params [] [] kvg gs) (g6 : kvg.map (·.1) = R) (g7 : ∀ p ∈ gs, ∃ n, p.2 = .num n) : P5 w m T
theorem nums_free {P : Params} {led own : List (Addr × Obj)} {kvs : List (Str × Value)} {gs : List (Str × Worth)} (h : WorthsIn P led own kvs gs) (hn : ∀ p ∈ gs, ∃ n, p.2 = .num n) : WorthsIn P [] [] kvs gs := by
  induction h with
  | nil => exact .nil
  | cons a _ ih =>
    refine .cons ?_ (ih fun p hp => hn p (.tail _ hp))
    obtain ⟨n, e⟩ := hn _ (.head _)
    dsimp only at e
    subst e
    cases a with
    | num n t => exact .num n t
/-- the way is drawn -/
inductive P5w (w : World) (m : Str → Option Value) (T : List (Addr × Obj)) : Prop
  | mk (p : P5 w m T) (way : Int) (tw : Tok) (mw : m "way" = some (.int way tw)) (w0 : 0 ≤ way) (w1 : way < 4) : P5w w m T
/-- a dict of numbers -/
def Nums (kvs : List (Str × Value)) : Prop := ∀ p ∈ kvs, ∃ n t, p.2 = .int n t
theorem nums_of {P : Params} {led own : List (Addr × Obj)} {kvs : List (Str × Value)} {gs : List (Str × Worth)} (h : WorthsIn P led own kvs gs) (hn : ∀ p ∈ gs, ∃ n, p.2 = .num n) : Nums kvs := by
  induction h with
  | nil => exact fun _ h => nomatch h
  | cons a _ ih =>
    intro p hp
    rcases List.mem_cons.mp hp with rfl | hp
    · obtain ⟨n, e⟩ := hn _ (.head _)
      dsimp only at e
      subst e
      cases a with
      | num n t => exact ⟨n, t, rfl⟩
    · exact ih (fun p hp => hn p (.tail _ hp)) p hp
theorem nums_stored {kvs : List (Str × Value)} (h : Nums kvs) (k : Str) (n : Int) (t : Tok) : Nums (stored kvs k (.int n t)) := by
  intro p hp
  unfold stored at hp
  split at hp
  · obtain ⟨q, hq, rfl⟩ := List.mem_map.mp hp
    split
    · exact ⟨n, t, rfl⟩
    · exact h q hq
  · rcases List.mem_append.mp hp with hp | hp
    · exact h p hp
    · rw [List.mem_singleton.mp hp]; exact ⟨n, t, rfl⟩
theorem nums_without {kvs : List (Str × Value)} (h : Nums kvs) (k : Str) : Nums (without kvs k) := fun p hp => h p (List.mem_filter.mp hp).1
theorem without_keys (kvs : List (Str × Value)) (k : Str) : (without kvs k).map (·.1) = (kvs.map (·.1)).filter fun y => decide (y ≠ k) := by
  unfold without
  rw [List.filter_map]; rfl
/-- what is given stands; is_wrong says whether that is wrong -/
inductive P6 (w : World) (m : Str → Option Value) (T : List (Addr × Obj)) : Prop
  | mk (T1 : List (Addr × Obj)) (hT1 : ∀ p ∈ T1, p ∈ T) (D : LawData) (R : List Str) (re : Nat) (zr : List Value) (er gx gd : Nat) (go : Obj) (kvg : List (Str × Value)) (b : Bool) (V : ValIn w T1 D) (M : NamesOf m D) (A3 : StrL m T1 "rest" R re zr er) (hR : MenuR R) (m6 : m "goal" = some (.ref gx)) (hg : TypeIn w T1 gx 44 (D.H ++ R))
    (hgd : ∀ p ∈ T1, @Ne Nat p.1 gd) (m7 : m "given" = some (.ref gd)) (g2 : (gd, go) ∈ T) (g3 : go.IsDictOf (strKind PG w) kvg) (g4 : (gd == sysModules) = false) (g5 : Nums kvg)
    (m8 : m "is_wrong" = some (.bool b)) (hok : ExtOk (D.H ++ D.X) (kvg.map (·.1)) (D.H ++ R) ↔ b = false) (hall : b = false → ∀ k ∈ R, k ∈ kvg.map (·.1)) (hkl : kvg.length ≤ 10) : P6 w m T
end Mine
end
-- S4
section
namespace Mine
section
set_option maxRecDepth 100000 in
set_option maxHeartbeats 8000000 in
theorem seg4 (w : World) : Seg w 10 2 (LawAt 28 P3) (LawAt 29 P4) := by
  k_with_none
  k_with "call ref" => (k_here; (with_reducible show wpAny _ _ (call (Value.ref _) [Value.ref _, Value.int _ _]) _ _ _); k_dflt (refine' (tell_K _ _ _ _ _ _ _ _ _ _ _ _ _ ?Uₖ ?slₖ ?hxₖ ?hlₖ ?i0ₖ ?i1ₖ ?m0ₖ ?m1ₖ ?hneₖ) _ _ _ _ _ _ _ _ _ _ _ _ _ _ _ _ _ _ _ _ ?Bₖ ?Fₖ ?Xₖ ?Nₖ ?Tₖ ?kkₖ ?ddₖ ?uuₖ ?_; (case Fₖ => k_asm); (case Nₖ => k_asm); (case Uₖ => k_updF); (case slₖ => k_mem); (case hxₖ => assumption); (case hlₖ => (first | assumption | omega)); (case i0ₖ => omega); (case i1ₖ => omega); (case m0ₖ => omega); (case m1ₖ => omega); (case hneₖ => (first | assumption | exact Nat.ne_of_gt (And.left (by assumption)))); (case Bₖ => k_asm); (case Xₖ => k_asm); (case Tₖ => k_asm); (case kkₖ => first | exact rfl | assumption); (case ddₖ => (first | ktr_room | decide)); (case uuₖ => (first | ktr_units | decide))); intro r'ₖ n'ₖ h'ₖ tk'ₖ F'ₖ N'ₖ hp'ₖ; obtain ⟨v'ₖ, t'ₖ, t2'ₖ, er'ₖ, hv0'ₖ, hv1'ₖ, en'ₖ⟩ := hp'ₖ; subst er'ₖ; subst en'ₖ; (try dsimp only at N'ₖ); (try k_sweep))
  k_with "subscriptTail" => (k_here; (with_reducible show wpAny _ _ (subscriptTail _ (PySem.Expr.Slice none (some _) none _) (Value.ref _) (Value.ref _)) _ _ _); k_dflt (refine kba_turn (value' := PySem.Expr.Name (PySem.Str.ofString "_") ⟨0, 0, 0, 0⟩) (fun _ => rfl) ?_; refine slice_strs (by k_asm) (by k_asm) (by k_mem) (by first | assumption | exact .cons _ _ (.cons _ _ (.cons _ _ .nil)) | exact .cons _ _ .nil) (by omega) ?_ (by with_unfolding_all rfl) (fun _ => rfl) (by first | assumption | (simp only [List.length_cons, List.length_nil]; omega) | omega)); intro D'ₖ h'ₖ zs'ₖ F'ₖ N'ₖ hz'ₖ hzl'ₖ l1ₖ; (try k_lt l1ₖ); (try k_sweep))
  k_with "subscriptTail List Slice ref ref" => (k_here; (with_reducible show wpAny _ _ (subscriptTail _ (PySem.Expr.Slice none (some _) none _) (Value.ref _) (Value.ref _)) _ _ _); k_dflt (refine kba_turn (value' := PySem.Expr.Name (PySem.Str.ofString "_") ⟨0, 0, 0, 0⟩) (fun _ => rfl) ?_; refine slice_strs (by k_asm) (by k_asm) (by k_mem) (by first | assumption | exact .cons _ _ (.cons _ _ (.cons _ _ .nil)) | exact .cons _ _ .nil) (by omega) ?_ (by with_unfolding_all rfl) (fun _ => rfl) (by first | assumption | (simp only [List.length_cons, List.length_nil]; omega) | omega)); intro D'ₖ h'ₖ zs'ₖ F'ₖ N'ₖ hz'ₖ hzl'ₖ l1ₖ; (try k_lt l1ₖ); (try k_sweep))
  k_with "subscriptTail Call Slice ref ref" => (k_here; (with_reducible show wpAny _ _ (subscriptTail _ (PySem.Expr.Slice none (some _) none _) (Value.ref _) (Value.ref _)) _ _ _); k_dflt (refine kba_turn (value' := PySem.Expr.Name (PySem.Str.ofString "_") ⟨0, 0, 0, 0⟩) (fun _ => rfl) ?_; refine slice_strs (by k_asm) (by k_asm) (by k_mem) (by first | assumption | exact .cons _ _ (.cons _ _ (.cons _ _ .nil)) | exact .cons _ _ .nil) (by omega) ?_ (by with_unfolding_all rfl) (fun _ => rfl) (by first | assumption | (simp only [List.length_cons, List.length_nil]; omega) | omega)); intro D'ₖ h'ₖ zs'ₖ F'ₖ N'ₖ hz'ₖ hzl'ₖ l1ₖ; (try k_lt l1ₖ); (try k_sweep))
  k_with "subscriptTail Name Slice ref ref" => (k_here; (with_reducible show wpAny _ _ (subscriptTail _ (PySem.Expr.Slice none (some _) none _) (Value.ref _) (Value.ref _)) _ _ _); k_dflt (refine kba_turn (value' := PySem.Expr.Name (PySem.Str.ofString "_") ⟨0, 0, 0, 0⟩) (fun _ => rfl) ?_; refine slice_strs (by k_asm) (by k_asm) (by k_mem) (by first | assumption | exact .cons _ _ (.cons _ _ (.cons _ _ .nil)) | exact .cons _ _ .nil) (by omega) ?_ (by with_unfolding_all rfl) (fun _ => rfl) (by first | assumption | (simp only [List.length_cons, List.length_nil]; omega) | omega)); intro D'ₖ h'ₖ zs'ₖ F'ₖ N'ₖ hz'ₖ hzl'ₖ l1ₖ; (try k_lt l1ₖ); (try k_sweep))
  k_with "subscriptTail Subscript Slice ref ref" => (k_here; (with_reducible show wpAny _ _ (subscriptTail _ (PySem.Expr.Slice none (some _) none _) (Value.ref _) (Value.ref _)) _ _ _); k_dflt (refine kba_turn (value' := PySem.Expr.Name (PySem.Str.ofString "_") ⟨0, 0, 0, 0⟩) (fun _ => rfl) ?_; refine slice_strs (by k_asm) (by k_asm) (by k_mem) (by first | assumption | exact .cons _ _ (.cons _ _ (.cons _ _ .nil)) | exact .cons _ _ .nil) (by omega) ?_ (by with_unfolding_all rfl) (fun _ => rfl) (by first | assumption | (simp only [List.length_cons, List.length_nil]; omega) | omega)); intro D'ₖ h'ₖ zs'ₖ F'ₖ N'ₖ hz'ₖ hzl'ₖ l1ₖ; (try k_lt l1ₖ); (try k_sweep))
  k_with "subscriptTail" => (k_here; (with_reducible show wpAny _ _ (subscriptTail _ (PySem.Expr.Slice (some _) none none _) (Value.ref _) (Value.ref _)) _ _ _); k_dflt (refine kba_turn (value' := PySem.Expr.Name (PySem.Str.ofString "_") ⟨0, 0, 0, 0⟩) (fun _ => rfl) ?_; refine slice_drops (by k_asm) (by k_asm) (by k_mem) (by first | assumption | exact .cons _ _ (.cons _ _ (.cons _ _ .nil)) | exact .cons _ _ .nil) (by omega) ?_ (by with_unfolding_all rfl) (fun _ => rfl) (by first | assumption | (simp only [List.length_cons, List.length_nil]; omega) | omega)); intro D'ₖ h'ₖ zs'ₖ F'ₖ N'ₖ hz'ₖ hzl'ₖ l1ₖ; (try k_lt l1ₖ); (try k_sweep))
  k_with "subscriptTail List Slice ref ref" => (k_here; (with_reducible show wpAny _ _ (subscriptTail _ (PySem.Expr.Slice (some _) none none _) (Value.ref _) (Value.ref _)) _ _ _); k_dflt (refine kba_turn (value' := PySem.Expr.Name (PySem.Str.ofString "_") ⟨0, 0, 0, 0⟩) (fun _ => rfl) ?_; refine slice_drops (by k_asm) (by k_asm) (by k_mem) (by first | assumption | exact .cons _ _ (.cons _ _ (.cons _ _ .nil)) | exact .cons _ _ .nil) (by omega) ?_ (by with_unfolding_all rfl) (fun _ => rfl) (by first | assumption | (simp only [List.length_cons, List.length_nil]; omega) | omega)); intro D'ₖ h'ₖ zs'ₖ F'ₖ N'ₖ hz'ₖ hzl'ₖ l1ₖ; (try k_lt l1ₖ); (try k_sweep))
  k_with "subscriptTail Call Slice ref ref" => (k_here; (with_reducible show wpAny _ _ (subscriptTail _ (PySem.Expr.Slice (some _) none none _) (Value.ref _) (Value.ref _)) _ _ _); k_dflt (refine kba_turn (value' := PySem.Expr.Name (PySem.Str.ofString "_") ⟨0, 0, 0, 0⟩) (fun _ => rfl) ?_; refine slice_drops (by k_asm) (by k_asm) (by k_mem) (by first | assumption | exact .cons _ _ (.cons _ _ (.cons _ _ .nil)) | exact .cons _ _ .nil) (by omega) ?_ (by with_unfolding_all rfl) (fun _ => rfl) (by first | assumption | (simp only [List.length_cons, List.length_nil]; omega) | omega)); intro D'ₖ h'ₖ zs'ₖ F'ₖ N'ₖ hz'ₖ hzl'ₖ l1ₖ; (try k_lt l1ₖ); (try k_sweep))
  k_with "subscriptTail Name Slice ref ref" => (k_here; (with_reducible show wpAny _ _ (subscriptTail _ (PySem.Expr.Slice (some _) none none _) (Value.ref _) (Value.ref _)) _ _ _); k_dflt (refine kba_turn (value' := PySem.Expr.Name (PySem.Str.ofString "_") ⟨0, 0, 0, 0⟩) (fun _ => rfl) ?_; refine slice_drops (by k_asm) (by k_asm) (by k_mem) (by first | assumption | exact .cons _ _ (.cons _ _ (.cons _ _ .nil)) | exact .cons _ _ .nil) (by omega) ?_ (by with_unfolding_all rfl) (fun _ => rfl) (by first | assumption | (simp only [List.length_cons, List.length_nil]; omega) | omega)); intro D'ₖ h'ₖ zs'ₖ F'ₖ N'ₖ hz'ₖ hzl'ₖ l1ₖ; (try k_lt l1ₖ); (try k_sweep))
  k_with "subscriptTail Subscript Slice ref ref" => (k_here; (with_reducible show wpAny _ _ (subscriptTail _ (PySem.Expr.Slice (some _) none none _) (Value.ref _) (Value.ref _)) _ _ _); k_dflt (refine kba_turn (value' := PySem.Expr.Name (PySem.Str.ofString "_") ⟨0, 0, 0, 0⟩) (fun _ => rfl) ?_; refine slice_drops (by k_asm) (by k_asm) (by k_mem) (by first | assumption | exact .cons _ _ (.cons _ _ (.cons _ _ .nil)) | exact .cons _ _ .nil) (by omega) ?_ (by with_unfolding_all rfl) (fun _ => rfl) (by first | assumption | (simp only [List.length_cons, List.length_nil]; omega) | omega)); intro D'ₖ h'ₖ zs'ₖ F'ₖ N'ₖ hz'ₖ hzl'ₖ l1ₖ; (try k_lt l1ₖ); (try k_sweep))
  k_with "call ref" => (k_here; (with_reducible show wpAny _ _ (call (Value.ref 304) _) _ _ _); k_dflt (refine' (grown_spec _ _ _ ?hsubₖ _ _ _ _ _ _ _ _ _ _ _ ?hpₖ ?h1ₖ ?hsₖ ?hlₖ ?hplₖ) _ _ _ _ _ _ _ _ _ _ _ _ _ _ _ _ _ _ _ _ ?Bₖ ?Fₖ ?Xₖ ?Nₖ ?Tₖ ?kkₖ ?ddₖ ?uuₖ ?_; (case Fₖ => k_asm); (case Nₖ => k_asm); (case h1ₖ => k_mem); (case hsₖ => assumption); (case hlₖ => first | assumption | omega); (case hpₖ => assumption); (case hsubₖ => exact fun p hp => (by first | exact List.mem_cons_of_mem _ hp | ((try (rcases List.mem_append.mp hp with hp | hp)) <;> (try (rcases List.mem_append.mp hp with hp | hp)) <;> k_mem))); (case hplₖ => first | assumption | (simp only [List.length_append, List.length_take, List.length_cons, List.length_nil]; omega)); (case Bₖ => k_asm); (case Xₖ => k_asm); (case Tₖ => k_asm); (case kkₖ => first | exact rfl | assumption); (case ddₖ => (first | ktr_room | decide)); (case uuₖ => (first | ktr_units | decide))); intro r'ₖ n'ₖ h'ₖ tk'ₖ F'ₖ N'ₖ hp'ₖ; obtain ⟨x'ₖ, tl'ₖ, er'ₖ, en'ₖ, ht'ₖ, ap'ₖ⟩ := hp'ₖ; subst er'ₖ; subst en'ₖ; (try dsimp only at N'ₖ); (try k_sweep))
  k_with "eval Name" => ((with_reducible refine inCells ?_); name_kind "local"; with_unfolding_all refine ldLoc (by assumption) (by ((try dsimp only); (repeat (first | exact if_pos rfl | assumption | refine (if_neg (by decide)).trans ?_)))) ?_)
  have hseed : Seed PySem.Challenge.rw_pp0004_01 hd.heap_39 := by k_fill; trivial
  clear hseed
  unfold Seg
  intro h₀ mean mg mb fa cd s s₂ Q E B KX T hJ hQ
  dsimp only [lawEnv]
  generalize eB : lawBody = LB
  generalize eS : lawScope = LS
  conv at eB => lhs; whnf
  conv at eS => lhs; whnf
  subst eB; subst eS
  dsimp only [List.drop, List.take]
  obtain ⟨h, tk, m, kn, sl, xs, ms, n1, n2, i, t, oc2, T0, es, F2, N2, K2, i0, i1, hP⟩ := hJ
  subst es
  obtain ⟨hsl, hx, hlen, hne, hT, hcl, hcd2⟩ := K2
  obtain ⟨hl, zs, e, H, ow, zo, eo, X, bx, dx, fx, ln, eln, g, tg, nn1, nn2, vx, vd, vf, tt, u1, u2, vo, kva, ws, ⟨a1, a2, hz, hzl⟩, hH, ⟨b1, b2, hzo, hzol⟩, hX, m2, hb, hd, hf, m3, h3, m4, g0, g1, m5, htt, v1, v2, v3, v4, v5, v6, v7⟩ := hP
  have hHl2 : H.length ≤ 20 := by have := menuH_len hH; omega
  k_steps
  rename StrsAre _ (List.take _ [_, _, _]) => hs1
  rename TypeIn _ _ _ 44 _ => ht1
  rename Apart _ _ => ap9
  have N9 := ‹News h₀ h₀.objs.size _ (_ ++ _)›
  refine hQ _ (LawAt.close (by k_asm) N9 (by k_mem) (by k_mem) hx hlen hne (by k_mem) hcd2 (by omega) (by omega) (fun T hin => ?_))
  have hin0 : ∀ p ∈ T0, p ∈ T := fun p hp => hin p (by k_mem) (fun e => hT p hp (congrArg Prod.fst e))
  refine P4.mk ⟨hl, zs, e, H, ow, zo, eo, X, bx, dx, fx, ln, eln, g, tg, nn1, nn2, vx, vd, vf, tt, u1, u2, vo, kva, ws⟩ _ _ _ _ _ (ValIn.mono ⟨a2, hz, hzl, hH, b2, hzo, hzol, hX, hb, hd, hf, h3, g0, g1, htt, v1, v2, v3, v4, v5, v6, v7⟩ hin0) (NamesOf.set (NamesOf.set ⟨a1, b1, m2, m3, m4, m5⟩ (by decide)) (by decide)) ⟨?m1, hin _ (by k_mem) (ne_strs hs1), hs1, by assumption⟩ (menu_R (by omega) (by omega)) ?m2 (ht1.pull fun p hp hn => hin p (by rcases List.mem_append.mp hp with hp | hp <;> k_mem) hn)
  all_goals ((try dsimp only); (repeat (first | exact if_pos rfl | assumption | refine (if_neg (by decide)).trans ?_)))
end
end Mine
end
theorem Mine.calm_S4 : True := by (w_top off); exact True.intro
-- S5
section
namespace Mine
section
local macro_rules | `(tactic| lcg_off) => `(tactic| assumption)
set_option maxRecDepth 100000 in
set_option maxHeartbeats 8000000 in
theorem seg5 (w : World) : Seg w 12 1 (LawAt 29 P4) (LawAt 40 P5) := by
  k_with_none
  k_with "call ref" => (k_here; (with_reducible show wpAny _ _ (call (Value.ref _) [Value.ref _, Value.int _ _]) _ _ _); k_dflt (refine' (tell_K _ _ _ _ _ _ _ _ _ _ _ _ _ ?Uₖ ?slₖ ?hxₖ ?hlₖ ?i0ₖ ?i1ₖ ?m0ₖ ?m1ₖ ?hneₖ) _ _ _ _ _ _ _ _ _ _ _ _ _ _ _ _ _ _ _ _ ?Bₖ ?Fₖ ?Xₖ ?Nₖ ?Tₖ ?kkₖ ?ddₖ ?uuₖ ?_; (case Fₖ => k_asm); (case Nₖ => k_asm); (case Uₖ => k_updF); (case slₖ => k_mem); (case hxₖ => assumption); (case hlₖ => (first | assumption | omega)); (case i0ₖ => omega); (case i1ₖ => omega); (case m0ₖ => omega); (case m1ₖ => omega); (case hneₖ => (first | assumption | exact Nat.ne_of_gt (And.left (by assumption)))); (case Bₖ => k_asm); (case Xₖ => k_asm); (case Tₖ => k_asm); (case kkₖ => first | exact rfl | assumption); (case ddₖ => (first | ktr_room | decide)); (case uuₖ => (first | ktr_units | decide))); intro r'ₖ n'ₖ h'ₖ tk'ₖ F'ₖ N'ₖ hp'ₖ; obtain ⟨v'ₖ, t'ₖ, t2'ₖ, er'ₖ, hv0'ₖ, hv1'ₖ, en'ₖ⟩ := hp'ₖ; subst er'ₖ; subst en'ₖ; (try dsimp only at N'ₖ); (try k_sweep))
  k_with "subscriptTail" => (k_here; (with_reducible show wpAny _ _ (subscriptTail _ (PySem.Expr.Slice none (some _) none _) (Value.ref _) (Value.ref _)) _ _ _); k_dflt (refine kba_turn (value' := PySem.Expr.Name (PySem.Str.ofString "_") ⟨0, 0, 0, 0⟩) (fun _ => rfl) ?_; refine slice_strs (by k_asm) (by k_asm) (by k_mem) (by first | assumption | exact .cons _ _ (.cons _ _ (.cons _ _ .nil)) | exact .cons _ _ .nil) (by omega) ?_ (by with_unfolding_all rfl) (fun _ => rfl) (by first | assumption | (simp only [List.length_cons, List.length_nil]; omega) | omega)); intro D'ₖ h'ₖ zs'ₖ F'ₖ N'ₖ hz'ₖ hzl'ₖ l1ₖ; (try k_lt l1ₖ); (try k_sweep))
  k_with "subscriptTail List Slice ref ref" => (k_here; (with_reducible show wpAny _ _ (subscriptTail _ (PySem.Expr.Slice none (some _) none _) (Value.ref _) (Value.ref _)) _ _ _); k_dflt (refine kba_turn (value' := PySem.Expr.Name (PySem.Str.ofString "_") ⟨0, 0, 0, 0⟩) (fun _ => rfl) ?_; refine slice_strs (by k_asm) (by k_asm) (by k_mem) (by first | assumption | exact .cons _ _ (.cons _ _ (.cons _ _ .nil)) | exact .cons _ _ .nil) (by omega) ?_ (by with_unfolding_all rfl) (fun _ => rfl) (by first | assumption | (simp only [List.length_cons, List.length_nil]; omega) | omega)); intro D'ₖ h'ₖ zs'ₖ F'ₖ N'ₖ hz'ₖ hzl'ₖ l1ₖ; (try k_lt l1ₖ); (try k_sweep))
  k_with "subscriptTail Call Slice ref ref" => (k_here; (with_reducible show wpAny _ _ (subscriptTail _ (PySem.Expr.Slice none (some _) none _) (Value.ref _) (Value.ref _)) _ _ _); k_dflt (refine kba_turn (value' := PySem.Expr.Name (PySem.Str.ofString "_") ⟨0, 0, 0, 0⟩) (fun _ => rfl) ?_; refine slice_strs (by k_asm) (by k_asm) (by k_mem) (by first | assumption | exact .cons _ _ (.cons _ _ (.cons _ _ .nil)) | exact .cons _ _ .nil) (by omega) ?_ (by with_unfolding_all rfl) (fun _ => rfl) (by first | assumption | (simp only [List.length_cons, List.length_nil]; omega) | omega)); intro D'ₖ h'ₖ zs'ₖ F'ₖ N'ₖ hz'ₖ hzl'ₖ l1ₖ; (try k_lt l1ₖ); (try k_sweep))
  k_with "subscriptTail Name Slice ref ref" => (k_here; (with_reducible show wpAny _ _ (subscriptTail _ (PySem.Expr.Slice none (some _) none _) (Value.ref _) (Value.ref _)) _ _ _); k_dflt (refine kba_turn (value' := PySem.Expr.Name (PySem.Str.ofString "_") ⟨0, 0, 0, 0⟩) (fun _ => rfl) ?_; refine slice_strs (by k_asm) (by k_asm) (by k_mem) (by first | assumption | exact .cons _ _ (.cons _ _ (.cons _ _ .nil)) | exact .cons _ _ .nil) (by omega) ?_ (by with_unfolding_all rfl) (fun _ => rfl) (by first | assumption | (simp only [List.length_cons, List.length_nil]; omega) | omega)); intro D'ₖ h'ₖ zs'ₖ F'ₖ N'ₖ hz'ₖ hzl'ₖ l1ₖ; (try k_lt l1ₖ); (try k_sweep))
  k_with "subscriptTail Subscript Slice ref ref" => (k_here; (with_reducible show wpAny _ _ (subscriptTail _ (PySem.Expr.Slice none (some _) none _) (Value.ref _) (Value.ref _)) _ _ _); k_dflt (refine kba_turn (value' := PySem.Expr.Name (PySem.Str.ofString "_") ⟨0, 0, 0, 0⟩) (fun _ => rfl) ?_; refine slice_strs (by k_asm) (by k_asm) (by k_mem) (by first | assumption | exact .cons _ _ (.cons _ _ (.cons _ _ .nil)) | exact .cons _ _ .nil) (by omega) ?_ (by with_unfolding_all rfl) (fun _ => rfl) (by first | assumption | (simp only [List.length_cons, List.length_nil]; omega) | omega)); intro D'ₖ h'ₖ zs'ₖ F'ₖ N'ₖ hz'ₖ hzl'ₖ l1ₖ; (try k_lt l1ₖ); (try k_sweep))
  k_with "subscriptTail" => (k_here; (with_reducible show wpAny _ _ (subscriptTail _ (PySem.Expr.Slice (some _) none none _) (Value.ref _) (Value.ref _)) _ _ _); k_dflt (refine kba_turn (value' := PySem.Expr.Name (PySem.Str.ofString "_") ⟨0, 0, 0, 0⟩) (fun _ => rfl) ?_; refine slice_drops (by k_asm) (by k_asm) (by k_mem) (by first | assumption | exact .cons _ _ (.cons _ _ (.cons _ _ .nil)) | exact .cons _ _ .nil) (by omega) ?_ (by with_unfolding_all rfl) (fun _ => rfl) (by first | assumption | (simp only [List.length_cons, List.length_nil]; omega) | omega)); intro D'ₖ h'ₖ zs'ₖ F'ₖ N'ₖ hz'ₖ hzl'ₖ l1ₖ; (try k_lt l1ₖ); (try k_sweep))
  k_with "subscriptTail List Slice ref ref" => (k_here; (with_reducible show wpAny _ _ (subscriptTail _ (PySem.Expr.Slice (some _) none none _) (Value.ref _) (Value.ref _)) _ _ _); k_dflt (refine kba_turn (value' := PySem.Expr.Name (PySem.Str.ofString "_") ⟨0, 0, 0, 0⟩) (fun _ => rfl) ?_; refine slice_drops (by k_asm) (by k_asm) (by k_mem) (by first | assumption | exact .cons _ _ (.cons _ _ (.cons _ _ .nil)) | exact .cons _ _ .nil) (by omega) ?_ (by with_unfolding_all rfl) (fun _ => rfl) (by first | assumption | (simp only [List.length_cons, List.length_nil]; omega) | omega)); intro D'ₖ h'ₖ zs'ₖ F'ₖ N'ₖ hz'ₖ hzl'ₖ l1ₖ; (try k_lt l1ₖ); (try k_sweep))
  k_with "subscriptTail Call Slice ref ref" => (k_here; (with_reducible show wpAny _ _ (subscriptTail _ (PySem.Expr.Slice (some _) none none _) (Value.ref _) (Value.ref _)) _ _ _); k_dflt (refine kba_turn (value' := PySem.Expr.Name (PySem.Str.ofString "_") ⟨0, 0, 0, 0⟩) (fun _ => rfl) ?_; refine slice_drops (by k_asm) (by k_asm) (by k_mem) (by first | assumption | exact .cons _ _ (.cons _ _ (.cons _ _ .nil)) | exact .cons _ _ .nil) (by omega) ?_ (by with_unfolding_all rfl) (fun _ => rfl) (by first | assumption | (simp only [List.length_cons, List.length_nil]; omega) | omega)); intro D'ₖ h'ₖ zs'ₖ F'ₖ N'ₖ hz'ₖ hzl'ₖ l1ₖ; (try k_lt l1ₖ); (try k_sweep))
  k_with "subscriptTail Name Slice ref ref" => (k_here; (with_reducible show wpAny _ _ (subscriptTail _ (PySem.Expr.Slice (some _) none none _) (Value.ref _) (Value.ref _)) _ _ _); k_dflt (refine kba_turn (value' := PySem.Expr.Name (PySem.Str.ofString "_") ⟨0, 0, 0, 0⟩) (fun _ => rfl) ?_; refine slice_drops (by k_asm) (by k_asm) (by k_mem) (by first | assumption | exact .cons _ _ (.cons _ _ (.cons _ _ .nil)) | exact .cons _ _ .nil) (by omega) ?_ (by with_unfolding_all rfl) (fun _ => rfl) (by first | assumption | (simp only [List.length_cons, List.length_nil]; omega) | omega)); intro D'ₖ h'ₖ zs'ₖ F'ₖ N'ₖ hz'ₖ hzl'ₖ l1ₖ; (try k_lt l1ₖ); (try k_sweep))
  k_with "subscriptTail Subscript Slice ref ref" => (k_here; (with_reducible show wpAny _ _ (subscriptTail _ (PySem.Expr.Slice (some _) none none _) (Value.ref _) (Value.ref _)) _ _ _); k_dflt (refine kba_turn (value' := PySem.Expr.Name (PySem.Str.ofString "_") ⟨0, 0, 0, 0⟩) (fun _ => rfl) ?_; refine slice_drops (by k_asm) (by k_asm) (by k_mem) (by first | assumption | exact .cons _ _ (.cons _ _ (.cons _ _ .nil)) | exact .cons _ _ .nil) (by omega) ?_ (by with_unfolding_all rfl) (fun _ => rfl) (by first | assumption | (simp only [List.length_cons, List.length_nil]; omega) | omega)); intro D'ₖ h'ₖ zs'ₖ F'ₖ N'ₖ hz'ₖ hzl'ₖ l1ₖ; (try k_lt l1ₖ); (try k_sweep))
  k_with "eval Name" => ((with_reducible refine inCells ?_); name_kind "local"; with_unfolding_all refine ldLoc (by assumption) (by ((try dsimp only); (repeat (first | exact if_pos rfl | assumption | refine (if_neg (by decide)).trans ?_)))) ?_)
  k_with "newTuple" => (k_here; k_dflt (refine' kup_newTuple ?k1ₖ ?k2ₖ ?zₖ ?_; (case k1ₖ => k_asm); (case k2ₖ => k_asm); (case zₖ => ((try simp only [List.length_cons, List.length_nil]); omega))); intro D'ₖ h'ₖ F'ₖ N'ₖ l1ₖ)
  k_with "eval ListComp" => (k_here; k_dflt (refine LCg.ListComp_U (F₀ := by k_asm) (by with_unfolding_all rfl) (by decide) (by rfl) (by decide) (by rfl) ?_))
  k_with "FinE" => ((unfold LCg.FinE); intro D'ₖ h'ₖ tk'ₖ F'ₖ N'ₖ o1'ₖ; (try simp only [List.nil_append, List.cons_append] at N'ₖ); (try dsimp only))
  k_with "call type:dict" => (k_here; (with_reducible show wpAny _ _ (call (Value.type "dict") [Value.ref _]) _ _ _); k_dflt (refine dict_pairs_P (by k_asm) (by k_asm) (Top.nolimit (by k_asm)) (by rfl) (by k_mem) (by assumption) (fun p hp => by k_mem) (by assumption) (by assumption) ?_); intro d'ₖ h'ₖ tk'ₖ o'ₖ F'ₖ N'ₖ l1ₖ lo'ₖ hd'ₖ; (try k_lt l1ₖ))
  have hseed : Seed PySem.Challenge.rw_pp0004_01 hd.heap_39 := by k_fill; trivial
  clear hseed
  unfold Seg
  intro h₀ mean mg mb fa cd s s₂ Q E B KX T hJ hQ
  dsimp only [lawEnv]
  generalize eB : lawBody = LB
  generalize eS : lawScope = LS
  conv at eB => lhs; whnf
  conv at eS => lhs; whnf
  subst eB; subst eS
  dsimp only [List.drop, List.take]
  obtain ⟨h, tk, m, kn, sl, xs, ms, n1, n2, i, t, oc2, T0, es, F2, N2, K2, i0, i1, hP⟩ := hJ
  subst es
  obtain ⟨hsl, hx, hlen, hne, hT, hcl, hcd2⟩ := K2
  obtain ⟨D, R, re, zr, er, gx, V, M, ⟨c1, c2, hzr, hzrl⟩, hR, m6, hg⟩ := hP
  have hrl : zr.length ≤ 3 := by rw [StrsAre.length hzr]; exact menuR_len hR
  k_steps
  refine LCg.CompSrc.ledger (by rfl) (by k_asm) (by k_asm) (by k_mem) (by simp only [List.size_toArray]; rw [sizeLine_eq]; omega) ?_
  intro g9
  refine comprest_inv (n := zr.length) (fun j ys nw => ∃ tl t' kvs ws, nw = (kn, knobOf sl (i + (j : Int)) t' n1) :: (tl ++ T0) ∧ PairsIn w.params (tl ++ T0) ys kvs ws ∧ kvs.map (·.1) = R.take j ∧ (∀ p ∈ ws, ∃ n, p.2 = .num n) ∧ ∀ p ∈ tl, @Ne Nat p.1 kn) ?turn ?fin _ 0 [] _ (by simp) ⟨[], t, [], [], by simp, .nil, rfl, (fun _ h => nomatch h), (fun _ h => nomatch h)⟩
  case turn =>
    rintro j ys nw v I oI C oC D9 m₂ h' tk' E' hi hP ⟨tl, t', kvs, ws, rfl, hys, hks, hnum, htl⟩ hoC hx9 F3 N3 off ne
    obtain ⟨k, t9, rfl, hk'⟩ := StrsAre_at hzr (i := j) (by simpa using hP)
    have o3 := off3_all off
    have oI9 : @Ne Nat I kn := Ne.symm (o3 _ (.head _)).1
    have oC9 : @Ne Nat C kn := Ne.symm (o3 _ (.head _)).2.1
    have oD9 : @Ne Nat D9 kn := Ne.symm (o3 _ (.head _)).2.2
    have hall : ∀ p ∈ tl ++ T0, p.1 ≠ kn := fun p hp => (List.mem_append.mp hp).elim (htl p) (hT p)
    have hj : (j : Int) < 3 := by omega
    have hsl' : (sl, listOf xs.toArray n2) ∈ tl ++ T0 := List.mem_append_right _ hsl
    have hcl' : (h₀.objs.size + 1, oc2) ∈ tl ++ T0 := List.mem_append_right _ hcl
    k_steps
    rename News _ _ _ _ => N9
    rename (_ ∧ _) => l9
    have l8 := allLt_mem (show AllLt _ ((I, oI) :: (C, oC) :: (D9, LCg.lst ys) :: (kn, W.listOf #[Value.ref sl, Value.int (i + (j : Int) + 1) t2'ₖ] n1) :: (tl ++ T0)) from l9)
    refine comp_end_kn (tl1 := []) (by assumption) N9 Apart.nil l8 off (Or.inr ⟨_, by k_mem, rfl, _, rfl⟩) ⟨_, _, kvs ++ [(k, .int (10 + v'ₖ) tk'ₖ)], ws ++ [(k, .num (10 + v'ₖ))], by rw [show i + ((j + 1 : Nat) : Int) = i + (j : Int) + 1 by omega], ?pa, ?pb, ?pc, ?pd⟩
    case pa => exact pairs_step (tl1 := []) hys (.num _ _) (.head _) (fun p hp => (by rcases List.mem_append.mp hp with hp | hp <;> k_mem)) (fun p hp => nomatch hp)
    case pb => rw [List.map_append, hks, take_snoc hk']; rfl
    case pc =>
      intro p hp
      rcases List.mem_append.mp hp with hp | hp
      · exact hnum p hp
      · rw [List.mem_singleton.mp hp]; exact ⟨_, rfl⟩
    case pd =>
      intro p hp
      rcases List.mem_cons.mp hp with rfl | hp
      · exact Nat.ne_of_gt l9.2.2.2.1
      · exact htl p hp
  case fin =>
    rintro ys nw ⟨tl, t', kvs, ws, rfl, hys, hks, hnum, htl⟩
    rw [StrsAre.length hzr, List.take_length] at hks
    have hnd : (kvs.map (·.1)).Nodup := by
      rw [hks]
      simp only [MenuR, List.mem_cons, List.not_mem_nil, or_false] at hR
      rcases hR with rfl | rfl | rfl <;> decide
    have hkl : kvs.length ≤ 100 := by
      have h1 := congrArg List.length hks
      rw [List.length_map, ← StrsAre.length hzr] at h1
      omega
    have hall : ∀ p ∈ tl ++ T0, p.1 ≠ kn := fun p hp => (List.mem_append.mp hp).elim (htl p) (hT p)
    k_steps
    rename Obj.IsDictOf _ _ kvs => hdo
    rename (_ == sysModules) = false => lo1
    have N9 := ‹News h₀ h₀.objs.size _ ((_, _) :: _ :: _)›
    refine hQ _ (LawAt.close (by k_asm) N9 (by k_mem) (by k_mem) hx hlen hne (by k_mem) hcd2 (by omega) (by omega) (fun T hin => ?_))
    have hin2 : ∀ p ∈ tl ++ T0, p ∈ T := fun p hp => hin p (by rcases List.mem_append.mp hp with hp | hp <;> k_mem) (fun e => hall p hp (congrArg Prod.fst e))
    have hin0 : ∀ p ∈ T0, p ∈ T := fun p hp => hin2 p (List.mem_append_right _ hp)
    (repeat ((with_reducible rename ((_ : Addr) < _ ∧ _) => hc); obtain ⟨_, _⟩ := hc))
    refine P5.mk T0 hin0 D R _ _ _ gx _ _ kvs ws V (NamesOf.set M (by decide)) ⟨?m1, c2, hzr, hzrl⟩ hR ?m2 hg (fun p hp => Nat.ne_of_lt (allLt_mem (by assumption) p (List.mem_append_right _ hp))) ?m3 (hin _ (by k_mem) (ne_dict hdo)) hdo lo1 (nums_free hys.worths hnum) hks hnum
    all_goals ((try dsimp only); (repeat (first | exact if_pos rfl | assumption | refine (if_neg (by decide)).trans ?_)))
end
end Mine
end
theorem Mine.calm_S5 : True := by (w_top off); exact True.intro
-- S6
section
namespace Mine
section
variable {prog : Program} {w : World} {A : Around} {E : Value → Shared → Prop} {s : Shared} {h₀ : Heap} {L l : Addr} {m : Str → Option Value} {news : List (Addr × Obj)}
theorem first_led {value slice : PySem.Expr} {vs : List Value} {k : Str} {ks : List Str} {u : Tok} {n : Nat} {Q : Value → Shared → Prop} (N : News h₀ L s.heap news) (hm : (l, listOf vs.toArray n) ∈ news) (hs : StrsAre vs ks) (hk : ks[0]? = some k) (h : ∀ t, Q (.str k t) s)
    (hsub : subscripted slice false (.ref l) (.int 0 u) = operate [.ref l, .int 0 u] (getItem (.ref l) (.int 0 u)) := by with_unfolding_all rfl) :
    wpAny (model prog w) A (subscriptTail value slice (.ref l) (.int 0 u)) Q E s := by
  have hl := isList_led N hm
  cases hs with
  | nil => cases hk
  | cons k' t hs =>
    obtain rfl : k' = k := Option.some.inj hk
    exact tail_any hl.typeIs slot_list_getitem.lookup (wpAny_getItem_list hl (Int.le_refl 0) (by omega) (by simp) (h t)) hsub
theorem last_led {value slice : PySem.Expr} {vs : List Value} {k : Str} {ks : List Str} {u : Tok} {n : Nat} {Q : Value → Shared → Prop} (N : News h₀ L s.heap news) (hm : (l, listOf vs.toArray n) ∈ news) (hs : StrsAre vs ks) (hk : ks.getLast? = some k) (hlen : ks.length ≤ 3) (h : ∀ t, Q (.str k t) s)
    (hsub : subscripted slice false (.ref l) (.int (-1) u) = operate [.ref l, .int (-1) u] (getItem (.ref l) (.int (-1) u)) := by with_unfolding_all rfl) :
    wpAny (model prog w) A (subscriptTail value slice (.ref l) (.int (-1) u)) Q E s := by
  have hl := isList_led N hm
  have hlen2 := StrsAre.length hs
  have hpos : 0 < ks.length := by cases ks with | nil => cases hk | cons a b => simp
  have hk2 : ks[vs.length - 1]? = some k := by rw [hlen2, ← List.getLast?_eq_getElem?]; exact hk
  obtain ⟨k', t, e1, e2⟩ := StrsAre_at hs (i := vs.length - 1) (v := vs[vs.length - 1]'(by omega)) (List.getElem?_eq_getElem _)
  obtain rfl : k' = k := by rw [hk2] at e2; exact (Option.some.inj e2).symm
  refine tail_any hl.typeIs slot_list_getitem.lookup (wpAny_getItem_list_neg (x := .str k' t) hl (by omega) ?_ (by omega) ?_ (h t)) hsub
  · simp only [List.size_toArray]; omega
  · simp only [List.size_toArray]
    rw [show ((-1 : Int) + (vs.length : Int)).toNat = vs.length - 1 by omega]
    rw [← e1]
    simp
theorem notin_names {vs : List Value} {ks : List Str} {e : Nat} {k : Str} {t : Tok} {Q : Value → Shared → Prop} {b : Bool} (N : News h₀ L s.heap news) (hm : (l, listOf vs.toArray e) ∈ news) (hi : StrsAre vs ks) (hb : (ks.any fun y => y == k) = b) (h : Q (.bool (!b)) s) :
    wpAny (model prog w) A (compareOp .NotIn (.str k t) (.ref l)) Q E s := notin_list_strs (isList_led N hm) hi (by rw [hb]; exact h)
theorem flat_of_nums {P : Params} {led own : List (Addr × Obj)} {kvs : List (Str × Value)} {gs : List (Str × Worth)} (h : WorthsIn P led own kvs gs) (hn : ∀ p ∈ gs, ∃ n, p.2 = .num n) :
    ∃ D, PyProof.V.FlatPairs PyData.str kvs D ∧ D.length = kvs.length ∧ ∀ k ∈ kvs.map (·.1), ∃ d, PySem.Spec.lookup (PyData.str k) D = some d := by
  induction h with
  | nil => exact ⟨[], .nil, rfl, fun _ h => nomatch h⟩
  | @cons k v wo kvs ws a _ ih =>
    obtain ⟨D, h1, h2, h3⟩ := ih fun p hp => hn p (.tail _ hp)
    obtain ⟨n, e⟩ := hn _ (.head _)
    dsimp only at e
    subst e
    cases a with
    | num n t =>
      refine ⟨(PyData.str k, PyData.int n) :: D, .cons (.int n t) h1, by simp [h2], fun j hj => ?_⟩
      unfold PySem.Spec.lookup
      split
      · exact ⟨_, rfl⟩
      · rcases List.mem_cons.mp hj with rfl | hj
        · rename_i hs
          exact absurd (by rw [PyProof.V.same_str]; simp) hs
        · exact h3 j hj
theorem pop_led {d : Addr} {o : Obj} {g : Obj → List (Addr × Obj)} {kvs : List (Str × Value)} {gs : List (Str × Worth)} {led own : List (Addr × Obj)} {k : Str} {t : Tok} {Q : Value → Shared → Prop} (F : Fr h₀ L s.heap m) (N : News h₀ L s.heap news) (U : UpdF d o news g) (hd : o.IsDictOf (strKind prog w) kvs) (hw : WorthsIn w.params led own kvs gs) (hn : ∀ p ∈ gs, ∃ n, p.2 = .num n) (hk : k ∈ kvs.map (·.1)) (hl : kvs.length ≤ 100)
    (h : ∀ h' o' v, Fr h₀ L h' m → News h₀ L h' (g o') → o'.IsDictOf (strKind prog w) (without kvs k) → Q v { s with heap := h', toks := s.toks + 1 }) :
    wpAny (model prog w) A (call (.builtin "dict.pop") [.ref d, .str k t]) Q E s := by
  obtain ⟨D, hf, hl2, hlk⟩ := flat_of_nums hw hn
  obtain ⟨dv, hdv⟩ := hlk k hk
  exact kt_pop_K (more := []) PyProof.V.same_str (strKind_is _ _ _ _) (.inl rfl) (by rfl) (PySem.F.args_dict_pop_2 _ _) F N U hd hf hdv (fun h' o' v _ F' N' hd' _ => h h' o' v F' N' hd') (by rw [hl2, sizeLine_eq]; omega)
end
section
set_option maxRecDepth 100000 in
set_option maxHeartbeats 8000000 in
theorem seg6a (w : World) : Seg w 13 1 (LawAt 40 P5) (LawAt 41 P5w) := by
  k_with_none
  k_with "call ref" => (k_here; (with_reducible show wpAny _ _ (call (Value.ref _) [Value.ref _, Value.int _ _]) _ _ _); k_dflt (refine' (tell_K _ _ _ _ _ _ _ _ _ _ _ _ _ ?Uₖ ?slₖ ?hxₖ ?hlₖ ?i0ₖ ?i1ₖ ?m0ₖ ?m1ₖ ?hneₖ) _ _ _ _ _ _ _ _ _ _ _ _ _ _ _ _ _ _ _ _ ?Bₖ ?Fₖ ?Xₖ ?Nₖ ?Tₖ ?kkₖ ?ddₖ ?uuₖ ?_; (case Fₖ => k_asm); (case Nₖ => k_asm); (case Uₖ => k_updF); (case slₖ => k_mem); (case hxₖ => assumption); (case hlₖ => (first | assumption | omega)); (case i0ₖ => omega); (case i1ₖ => omega); (case m0ₖ => omega); (case m1ₖ => omega); (case hneₖ => (first | assumption | exact Nat.ne_of_gt (And.left (by assumption)))); (case Bₖ => k_asm); (case Xₖ => k_asm); (case Tₖ => k_asm); (case kkₖ => first | exact rfl | assumption); (case ddₖ => (first | ktr_room | decide)); (case uuₖ => (first | ktr_units | decide))); intro r'ₖ n'ₖ h'ₖ tk'ₖ F'ₖ N'ₖ hp'ₖ; obtain ⟨v'ₖ, t'ₖ, t2'ₖ, er'ₖ, hv0'ₖ, hv1'ₖ, en'ₖ⟩ := hp'ₖ; subst er'ₖ; subst en'ₖ; (try dsimp only at N'ₖ); (try k_sweep))
  k_with "eval Name" => ((with_reducible refine inCells ?_); name_kind "local"; with_unfolding_all refine ldLoc (by assumption) (by ((try dsimp only); (repeat (first | exact if_pos rfl | assumption | refine (if_neg (by decide)).trans ?_)))) ?_)
  have hseed : Seed PySem.Challenge.rw_pp0004_01 hd.heap_39 := by k_fill; trivial
  clear hseed
  unfold Seg
  intro h₀ mean mg mb fa cd s s₂ Q E B KX T hJ hQ
  dsimp only [lawEnv]
  generalize eB : lawBody = LB
  generalize eS : lawScope = LS
  conv at eB => lhs; whnf
  conv at eS => lhs; whnf
  subst eB; subst eS
  dsimp only [List.drop, List.take]
  obtain ⟨h, tk, m, kn, sl, xs, ms, n1, n2, i, t, oc2, T0, es, F2, N2, K2, i0, i1, hP⟩ := hJ
  subst es
  obtain ⟨hsl, hx, hlen, hne, hT, hcl, hcd2⟩ := K2
  obtain ⟨T1, hT1, D, R, re, zr, er, gx, gd, go, kvg, gs, V, M, ⟨c1, c2, hzr, hzrl⟩, hR, m6, hg, hgd, m7, q2, q3, q4, q5, q6, q7⟩ := hP
  k_steps
  have N9 := ‹News h₀ h₀.objs.size _ ((_, W.listOf #[_, Value.int (_ + 1) _] _) :: _)›
  refine hQ _ (LawAt.close (by k_asm) N9 (by k_mem) (by k_mem) hx hlen hne (by k_mem) hcd2 (by omega) (by omega) (fun T hin => ?_))
  have hin0 : ∀ p ∈ T0, p ∈ T := fun p hp => hin p (by k_mem) (fun e => hT p hp (congrArg Prod.fst e))
  refine' P5w.mk (.mk T1 (fun p hp => hin0 p (hT1 p hp)) D R re zr er gx gd go kvg gs V (NamesOf.set M (by decide)) ⟨?m1, c2, hzr, hzrl⟩ hR ?m2 hg hgd ?m3 (hin0 _ q2) q3 q4 q5 q6 q7) _ _ ?m4 (by assumption) (by assumption)
  (case m4 => ((try dsimp only); (repeat (first | exact if_pos rfl | assumption | refine (if_neg (by decide)).trans ?_))))
  all_goals ((try dsimp only); (repeat (first | exact if_pos rfl | assumption | refine (if_neg (by decide)).trans ?_)))
end
theorem ok_plain {H X R : List Str} (hH : MenuH H) (hX : MenuX X) (hR : MenuR R) : ExtOk (H ++ X) R (H ++ R) := by
  simp only [MenuH, MenuX, MenuR, List.mem_cons, List.not_mem_nil, or_false] at hH hX hR
  rcases hH with rfl | rfl | rfl <;> rcases hX with rfl | rfl | rfl | rfl | rfl | rfl <;> rcases hR with rfl | rfl | rfl <;> (unfold ExtOk; decide)
theorem ok_head {H X R : List Str} (hH : MenuH H) (hX : MenuX X) (hR : MenuR R) : ExtOk (H ++ X) (addKey R "a") (H ++ R) := by
  simp only [MenuH, MenuX, MenuR, List.mem_cons, List.not_mem_nil, or_false] at hH hX hR
  rcases hH with rfl | rfl | rfl <;> rcases hX with rfl | rfl | rfl | rfl | rfl | rfl <;> rcases hR with rfl | rfl | rfl <;> (unfold ExtOk; decide)
theorem no_more {H X R : List Str} (hH : MenuH H) (hX : MenuX X) (hR : MenuR R) : ¬ ExtOk (H ++ X) (addKey R "w") (H ++ R) := by
  simp only [MenuH, MenuX, MenuR, List.mem_cons, List.not_mem_nil, or_false] at hH hX hR
  rcases hH with rfl | rfl | rfl <;> rcases hX with rfl | rfl | rfl | rfl | rfl | rfl <;> rcases hR with rfl | rfl | rfl <;> (unfold ExtOk; decide)
theorem no_less {H X R : List Str} {lk : Str} (hH : MenuH H) (hX : MenuX X) (hR : MenuR R) (hl : R.getLast? = some lk) (hb : ((H ++ X).any fun y => y == lk) = false) : ¬ ExtOk (H ++ X) (R.filter fun y => decide (y ≠ lk)) (H ++ R) := by
  intro hc
  have h1 := hc.1 lk (List.mem_append_right _ (List.mem_of_getLast? hl))
  have hno : lk ∉ H ++ X := fun hm => by
    have := List.any_eq_false.mp hb lk hm
    simp at this
  have key : ∀ (kg a : List Str), lk ∉ a → lk ∉ kg → lk ∉ kg.foldl addKey a := by
    intro kg
    induction kg with
    | nil => exact fun a h _ => h
    | cons k r ih =>
      intro a ha hk
      refine ih _ (fun hm => ?_) fun hm => hk (.tail _ hm)
      unfold addKey at hm
      split at hm
      · exact ha hm
      · rcases List.mem_append.mp hm with hm | hm
        · exact ha hm
        · exact hk (by rw [List.mem_singleton.mp hm]; exact .head _)
  refine key _ _ (fun hm => hno (List.mem_filter.mp hm).1) (fun hm => ?_) h1
  have := (List.mem_filter.mp hm).2
  simp at this
theorem ne_dict2 {w : World} {x gd : Nat} {o go : Obj} {kvs : List (Str × Value)} (hs : go.IsDictOf (strKind PG w) kvs) (hn : ∀ es ep, o.data ≠ Data.dict es ep) : ((x, o) : Addr × Obj) ≠ (gd, go) := by
  obtain ⟨es', ep, hx⟩ := hs
  intro h
  exact hn es' ep (by rw [(Prod.mk.inj h).2]; exact hx.2.1)
section
set_option maxRecDepth 100000 in
set_option maxHeartbeats 8000000 in
theorem seg6 (w : World) : Seg w 14 2 (LawAt 41 P5w) (LawAt 41 P6) := by
  k_with_none
  k_with "subscriptTail" => (k_here; (with_reducible show wpAny _ _ (subscriptTail _ _ (Value.ref _) (Value.int (-1) _)) _ _ _); k_dflt (refine last_led (by k_asm) (by k_mem) (by assumption) (by assumption) (by assumption) ?_ (by with_unfolding_all rfl)); intro t'ₖ)
  k_with "subscriptTail Name Constant ref int" => (k_here; (with_reducible show wpAny _ _ (subscriptTail _ _ (Value.ref _) (Value.int (-1) _)) _ _ _); k_dflt (refine last_led (by k_asm) (by k_mem) (by assumption) (by assumption) (by assumption) ?_ (by with_unfolding_all rfl)); intro t'ₖ)
  k_with "subscriptTail Name UnaryOp ref int" => (k_here; (with_reducible show wpAny _ _ (subscriptTail _ _ (Value.ref _) (Value.int (-1) _)) _ _ _); k_dflt (refine last_led (by k_asm) (by k_mem) (by assumption) (by assumption) (by assumption) ?_ (by with_unfolding_all rfl)); intro t'ₖ)
  k_with "subscriptTail" => (k_here; (with_reducible show wpAny _ _ (subscriptTail _ _ (Value.ref _) (Value.int 0 _)) _ _ _); k_dflt (refine first_led (by k_asm) (by k_mem) (by assumption) (by assumption) ?_ (by with_unfolding_all rfl)); intro t'ₖ)
  k_with "subscriptTail Name Constant ref int" => (k_here; (with_reducible show wpAny _ _ (subscriptTail _ _ (Value.ref _) (Value.int 0 _)) _ _ _); k_dflt (refine first_led (by k_asm) (by k_mem) (by assumption) (by assumption) ?_ (by with_unfolding_all rfl)); intro t'ₖ)
  k_with "compareOp NotIn str ref" => (k_here; k_dflt (refine' notin_names ?nNₖ ?nMₖ ?nDₖ ?nBₖ ?_; (case nNₖ => k_asm); (case nMₖ => k_mem); (case nDₖ => assumption); (case nBₖ => assumption)))
  k_with "setItem ref str" => (k_here; k_dflt (refine' kda_set (knd := PySem.strKind _ _) ?Fₖ ?Nₖ ?Uₖ ?dₖ (strKind_is _ _ _ _) ?zₖ ?_; (case Fₖ => k_asm); (case Nₖ => k_asm); (case Uₖ => k_updF); (case dₖ => assumption); (case zₖ => (rw [sizeLine_eq]; omega))); intro h'ₖ o'ₖ F'ₖ N'ₖ hd'ₖ; (try dsimp only at N'ₖ))
  k_with "call builtin:dict.pop" => (k_here; (with_reducible show wpAny _ _ (call (Value.builtin "dict.pop") [Value.ref _, Value.str _ _]) _ _ _); k_dflt (refine' pop_led ?Fₖ ?Nₖ ?Uₖ ?dₖ ?fₖ ?nₖ ?kₖ ?zₖ ?_; (case Fₖ => k_asm); (case Nₖ => k_asm); (case Uₖ => k_updF); (case dₖ => assumption); (case fₖ => assumption); (case nₖ => assumption); (case kₖ => assumption); (case zₖ => assumption)); intro h'ₖ o'ₖ v'ₖ F'ₖ N'ₖ hd'ₖ; (try dsimp only at N'ₖ))
  k_with "eval Name" => ((with_reducible refine inCells ?_); name_kind "local"; with_unfolding_all refine ldLoc (by assumption) (by ((try dsimp only); (repeat (first | exact if_pos rfl | assumption | refine (if_neg (by decide)).trans ?_)))) ?_)
  have hseed : Seed PySem.Challenge.rw_pp0004_01 hd.heap_39 := by k_fill; trivial
  clear hseed
  unfold Seg
  intro h₀ mean mg mb fa cd s s₂ Q E B KX T hJ hQ
  dsimp only [lawEnv]
  generalize eB : lawBody = LB
  generalize eS : lawScope = LS
  conv at eB => lhs; whnf
  conv at eS => lhs; whnf
  subst eB; subst eS
  dsimp only [List.drop, List.take]
  obtain ⟨h, tk, m, kn, sl, xs, ms, n1, n2, i, t, oc2, T0, es, F2, N2, K2, i0, i1, hP⟩ := hJ
  subst es
  obtain ⟨hsl, hx, hlen, hne, hT, hcl, hcd2⟩ := K2
  obtain ⟨⟨T1, hT1, D, R, re, zr, er, gx, gd, go, kvg, gs, V, M, ⟨c1, c2, hzr, hzrl⟩, hR, m6, hg, hgd, m7, q2, q3, q4, q5, q6, q7⟩, way, tw, mw, w0, w1⟩ := hP
  obtain ⟨T', N', hgk, hTk, hTg, hin', hback⟩ := front2 N2 hT q2
  have hkl : kvg.length ≤ 100 := by have := congrArg List.length q6; rw [List.length_map] at this; have := menuR_len hR; omega
  have hrl := menuR_len hR
  obtain ⟨lk, hlast⟩ : ∃ lk, R.getLast? = some lk := by
    simp only [MenuR, List.mem_cons, List.not_mem_nil, or_false] at hR
    rcases hR with rfl | rfl | rfl <;> exact ⟨_, rfl⟩
  have hhead : D.H[0]? = some ("a" : Str) := by
    have hH := V.hH
    simp only [MenuH, List.mem_cons, List.not_mem_nil, or_false] at hH
    rcases hH with e | e | e <;> rw [e] <;> rfl
  have hT1' : ∀ p ∈ T1, p ∈ T' := fun p hp => hin' p (hT1 p hp) fun e => hgd p hp (congrArg Prod.fst e)
  have c2' := hT1' _ c2
  have a2' := hT1' _ V.a2
  have b2' := hT1' _ V.b2
  have hz := V.hz
  have hzo := V.hzo
  have a1 := M.a1
  have b1 := M.b1
  have hmem : lk ∈ kvg.map (·.1) := by rw [q6]; exact List.mem_of_getLast? hlast
  have hsl' : (sl, listOf xs.toArray n2) ∈ T' := hin' _ hsl (ne_dict2 q3 (by intro es ep h; cases h))
  have hcl' : (h₀.objs.size + 1, oc2) ∈ T' := hin' _ hcl (ne_dict2 q3 (by intro es ep h; rw [hcd2] at h; cases h))
  have fin6 : ∀ (b : Bool) (h' : Heap) (tk' : Nat) (o' : Obj) (kvg' : List (Str × Value)), Fr h₀ h₀.objs.size h' (fun y => if y = Str.ofString "is_wrong" then some (Value.bool b) else m y) → News h₀ h₀.objs.size h' ((kn, knobOf sl i t n1) :: (gd, o') :: T') → o'.IsDictOf (strKind PG w) kvg' → Nums kvg' → (ExtOk (D.H ++ D.X) (kvg'.map (·.1)) (D.H ++ R) ↔ b = false) → (b = false → ∀ k ∈ R, k ∈ kvg'.map (·.1)) → kvg'.length ≤ 10 → Q .next { s with heap := h', toks := tk' } := by
    intro b h' tk' o' kvg' F' N' hd' hnum hok hall hkl'
    refine hQ _ (LawAt.close F' N' (.head _) (.tail _ (.tail _ hsl')) hx hlen hne (.tail _ (.tail _ hcl')) hcd2 i0 i1 (fun T hin => ?_))
    have hinT : ∀ p ∈ T', p ∈ T := fun p hp => hin p (.tail _ (.tail _ hp)) (fun e => hTk p hp (congrArg Prod.fst e))
    refine P6.mk T1 (fun p hp => hinT p (hT1' p hp)) D R re zr er gx gd o' kvg' b V (NamesOf.set M (by decide)) ⟨?m1, c2, hzr, hzrl⟩ hR ?m2 hg hgd ?m3 (hin _ (.tail _ (.head _)) (fun e => hgk (congrArg Prod.fst e))) hd' q4 hnum ?m4 hok hall hkl'
    all_goals ((try dsimp only); (repeat (first | exact if_pos rfl | assumption | refine (if_neg (by decide)).trans ?_)))
  have hnum := nums_of q5 q7
  have hkR : kvg.length = R.length := by rw [← q6, List.length_map]
  clear N2
  rcases (show way = 0 ∨ way = 1 ∨ way = 2 ∨ way = 3 by omega) with rfl | rfl | rfl | rfl
  · k_steps
    exact fin6 false _ _ _ kvg (by assumption) (by assumption) q3 hnum ⟨fun _ => rfl, fun _ => by rw [q6]; exact ok_plain V.hH V.hX hR⟩ (fun _ k hk => by rw [q6]; exact hk) (by omega)
  · cases hb : ((D.H ++ D.X).any fun y => y == lk) with
    | true =>
      k_steps
      exact fin6 false _ _ _ kvg (by assumption) (by assumption) q3 hnum ⟨fun _ => rfl, fun _ => by rw [q6]; exact ok_plain V.hH V.hX hR⟩ (fun _ k hk => by rw [q6]; exact hk) (by omega)
    | false =>
      k_steps
      rename Obj.IsDictOf _ _ (without _ _) => hd9
      exact fin6 true _ _ _ _ (by assumption) (by assumption) hd9 (nums_without hnum lk) ⟨fun ok => by rw [without_keys, q6] at ok; exact absurd ok (no_less V.hH V.hX hR hlast hb), fun h => by cases h⟩ (fun h => by cases h) (by have := List.length_filter_le (fun kv => decide (kv.1 ≠ lk)) kvg; unfold without; omega)
  · k_steps
    rename Obj.IsDictOf _ _ (stored _ _ _) => hd9
    exact fin6 true _ _ _ _ (by assumption) (by assumption) hd9 (nums_stored hnum _ _ _) ⟨fun ok => by rw [stored_keys, q6] at ok; exact absurd ok (no_more V.hH V.hX hR), fun h => by cases h⟩ (fun h => by cases h) (Nat.le_trans (stored_length_le kvg _ _) (by omega))
  · k_steps
    rename Obj.IsDictOf _ _ (stored _ _ _) => hd9
    exact fin6 false _ _ _ _ (by assumption) (by assumption) hd9 (nums_stored hnum _ _ _) ⟨fun _ => rfl, fun _ => by rw [stored_keys, q6]; exact ok_head V.hH V.hX hR⟩ (fun _ k hk => by rw [stored_keys, q6]; unfold addKey; split; exact hk; exact List.mem_append_left _ hk) (Nat.le_trans (stored_length_le kvg _ _) (by omega))
end
end Mine
end
theorem Mine.calm_S6 : True := by (w_top off); exact True.intro
-- LZ
section
namespace Mine
/-- what is given for the goal -/
structure GivenData where
  (R : List Str) (re : Nat) (zr : List Value) (er gx gd : Nat) (go : Obj) (kvg : List (Str × Value)) (b : Bool)
structure GivenIn (w : World) (T T1 : List (Addr × Obj)) (D : LawData) (Z : GivenData) : Prop where
  (hT1 : ∀ p ∈ T1, p ∈ T) (V : ValIn w T1 D) (c2 : (Z.re, listOf Z.zr.toArray Z.er) ∈ T1) (hzr : StrsAre Z.zr Z.R) (hzrl : Z.zr.length ≤ 10) (hR : MenuR Z.R) (hg : TypeIn w T1 Z.gx 44 (D.H ++ Z.R))
  (g2 : (Z.gd, Z.go) ∈ T) (g3 : Z.go.IsDictOf (strKind PG w) Z.kvg) (g4 : (Z.gd == sysModules) = false) (g5 : Nums Z.kvg) (hok : ExtOk (D.H ++ D.X) (Z.kvg.map (·.1)) (D.H ++ Z.R) ↔ Z.b = false) (hall : Z.b = false → ∀ k ∈ Z.R, k ∈ Z.kvg.map (·.1)) (hkl : Z.kvg.length ≤ 10)
theorem GivenIn.mono {w : World} {T T' T1 : List (Addr × Obj)} {D : LawData} {Z : GivenData} (h : GivenIn w T T1 D Z) (hs : ∀ p ∈ T, p ∈ T') : GivenIn w T' T1 D Z :=
  ⟨fun p hp => hs p (h.hT1 p hp), h.V, h.c2, h.hzr, h.hzrl, h.hR, h.hg, hs _ h.g2, h.g3, h.g4, h.g5, h.hok, h.hall, h.hkl⟩
structure Names2 (m : Str → Option Value) (D : LawData) (Z : GivenData) : Prop where
  (M : NamesOf m D) (c1 : m "rest" = some (.ref Z.re)) (m6 : m "goal" = some (.ref Z.gx)) (m7 : m "given" = some (.ref Z.gd)) (m8 : m "is_wrong" = some (.bool Z.b))
def theirNames2 : List Str := ["heads", "own", "base", "line", "tag", "value", "rest", "goal", "given", "is_wrong"]
theorem Names2.set {m : Str → Option Value} {D : LawData} {Z : GivenData} {x : Str} {v : Option Value} (h : Names2 m D Z) (hx : x ∉ theirNames2) : Names2 (fun y => if y = x then v else m y) D Z := by
  have ne : ∀ y ∈ theirNames2, (if y = x then v else m y) = m y := fun y hy => if_neg fun (e : y = x) => hx (by rw [← e]; exact hy)
  refine ⟨h.M.set (fun hm => hx ?_), ?_, ?_, ?_, ?_⟩
  · revert hm; unfold theirNames theirNames2
    simp only [List.mem_cons, List.not_mem_nil, or_false]
    rintro (e | e | e | e | e | e) <;> simp only [e, true_or, or_true]
  · exact (ne _ (by decide)).trans h.c1
  · exact (ne _ (by decide)).trans h.m6
  · exact (ne _ (by decide)).trans h.m7
  · exact (ne _ (by decide)).trans h.m8
/-- what lay ahead is laid flat -/
inductive P7 (w : World) (m : Str → Option Value) (T : List (Addr × Obj)) : Prop
  | mk (T1 : List (Addr × Obj)) (D : LawData) (Z : GivenData) (ah : Nat) (ao : Obj) (fka : List (Str × Value)) (G : GivenIn w T T1 D Z) (M : Names2 m D Z) (m9 : m "ahead" = some (.ref ah)) (f1 : (ah, ao) ∈ T) (f2 : ao.IsDictOf (strKind PG w) fka) (f3 : (ah == sysModules) = false) (f4 : FlatsIn T fka D.ws) : P7 w m T
end Mine
end
-- S7
section
namespace Mine
theorem ne_two {kn x sl : Addr} {i n m : Int} {t t1 t2 : Tok} {c e : Nat} : ((x, listOf #[.int n t1, .int m t2] e) : Addr × Obj) ≠ (kn, knobOf sl i t c) := by
  intro h
  have h2 := listOf_inj (Prod.mk.inj h).2
  have h3 := congrArg Array.toList h2
  simp at h3
theorem FlatIn.pull {led T : List (Addr × Obj)} {kn sl : Addr} {i : Int} {t : Tok} {c : Nat} {v wo} (h : FlatIn led v wo) (hp : ∀ p ∈ led, p ≠ (kn, knobOf sl i t c) → p ∈ T) : FlatIn T v wo := by
  cases h with
  | num n t => exact .num n t
  | arr n tu b tp l t3 t4 t5 t6 e1 e2 h1 h2 h3 h4 => exact .arr n tu b tp l t3 t4 t5 t6 e1 e2 (hp _ h1 (ne_cls (fun h => absurd h (by simp [tupOf])))) (hp _ h2 (ne_len (zs := [_]) (by simp))) (hp _ h3 (ne_cls (fun h => absurd h (by simp [tupOf])))) (hp _ h4 ne_two)
theorem FlatsIn.pull {led T : List (Addr × Obj)} {kn sl : Addr} {i : Int} {t : Tok} {c : Nat} {kvs ws} (h : FlatsIn led kvs ws) (hp : ∀ p ∈ led, p ≠ (kn, knobOf sl i t c) → p ∈ T) : FlatsIn T kvs ws := by
  induction h with
  | nil => exact .nil
  | cons a _ ih => exact .cons (a.pull hp) ih
section
set_option maxRecDepth 100000 in
set_option maxHeartbeats 8000000 in
theorem seg7 (w : World) : Seg w 16 1 (LawAt 41 P6) (LawAt 41 P7) := by
  k_with_none
  k_with "call ref" => (k_here; (with_reducible show wpAny _ _ (call (Value.ref 318) [Value.ref _]) _ _ _); k_dflt (refine' (flat_spec _ _ _ _ _ _ _ ?hmₖ ?hfdₖ ?loₖ ?hwₖ ?hlenₖ) _ _ _ _ _ _ _ _ _ _ _ _ _ _ _ _ _ _ _ _ ?Bₖ ?Fₖ ?Xₖ ?Nₖ ?Tₖ ?kkₖ ?ddₖ ?uuₖ ?_; (case Fₖ => k_asm); (case Nₖ => k_asm); (case hmₖ => k_mem); (case hfdₖ => assumption); (case loₖ => assumption); (case hwₖ => exact WorthsIn.mono (by assumption) (fun p hp => by k_mem) (fun p hp => hp)); (case hlenₖ => (first | assumption | omega)); (case Bₖ => k_asm); (case Xₖ => k_asm); (case Tₖ => k_asm); (case kkₖ => first | exact rfl | assumption); (case ddₖ => (first | ktr_room | decide)); (case uuₖ => (first | ktr_units | decide))); intro r'ₖ n'ₖ h'ₖ tk'ₖ F'ₖ N'ₖ hp'ₖ; obtain ⟨g'ₖ, go'ₖ, tl'ₖ, fk'ₖ, er'ₖ, en'ₖ, hd'ₖ, hf'ₖ, ap'ₖ, lo'ₖ⟩ := hp'ₖ; subst er'ₖ; subst en'ₖ; (try dsimp only at N'ₖ); (try k_sweep))
  k_with "eval Name" => ((with_reducible refine inCells ?_); name_kind "local"; with_unfolding_all refine ldLoc (by assumption) (by ((try dsimp only); (repeat (first | exact if_pos rfl | assumption | refine (if_neg (by decide)).trans ?_)))) ?_)
  have hseed : Seed PySem.Challenge.rw_pp0004_01 hd.heap_39 := by k_fill; trivial
  clear hseed
  unfold Seg
  intro h₀ mean mg mb fa cd s s₂ Q E B KX T hJ hQ
  dsimp only [lawEnv]
  generalize eB : lawBody = LB
  generalize eS : lawScope = LS
  conv at eB => lhs; whnf
  conv at eS => lhs; whnf
  subst eB; subst eS
  dsimp only [List.drop, List.take]
  obtain ⟨h, tk, m, kn, sl, xs, ms, n1, n2, i, t, oc2, T0, es, F2, N2, K2, i0, i1, hP⟩ := hJ
  subst es
  obtain ⟨hsl, hx, hlen, hne, hT, hcl, hcd2⟩ := K2
  obtain ⟨T1, hT1, D, R, re, zr, er, gx, gd, go, kvg, b, V, M, ⟨c1, c2, hzr, hzrl⟩, hR, m6, hg, hgd, m7, q2, q3, q4, q5, m8, hok, hall, hkl⟩ := hP
  have v6 := V.v6.mono hT1 hT1
  have v1 := hT1 _ V.v1
  have v2 := hT1 _ V.v2
  have v3 := hT1 _ V.v3
  have v4 := V.v4
  have v5 := V.v5
  have m5 := M.m5
  have hkl2 : D.kva.length ≤ 10 := by
    have h1 := congrArg List.length V.v7
    have h2 := menuH_len V.hH
    have h3 := menuX_len V.hX
    rw [List.length_map, List.length_append] at h1
    omega
  k_steps
  rename FlatsIn _ _ _ => hf9
  rename Apart _ _ => ap9
  rename Obj.IsDictOf _ _ _ => hd9
  rename (_ == sysModules) = false => lo9
  have N9 := ‹News h₀ h₀.objs.size _ (_ :: (_ ++ _))›
  refine hQ _ (LawAt.close (by k_asm) N9 (by k_mem) (by k_mem) hx hlen hne (by k_mem) hcd2 (by omega) (by omega) (fun T hin => ?_))
  have hin0 : ∀ p ∈ T0, p ∈ T := fun p hp => hin p (by k_mem) (fun e => hT p hp (congrArg Prod.fst e))
  refine P7.mk T1 D ⟨R, re, zr, er, gx, gd, go, kvg, b⟩ _ _ _ ⟨fun p hp => hin0 p (hT1 p hp), V, c2, hzr, hzrl, hR, hg, hin0 _ q2, q3, q4, q5, hok, hall, hkl⟩ (Names2.set ⟨M, c1, m6, m7, m8⟩ (by decide)) ?m1 (hin _ (by k_mem) (ne_dict hd9)) hd9 lo9 (hf9.pull fun p hp hn => hin p (.tail _ hp) hn)
  all_goals ((try dsimp only); (repeat (first | exact if_pos rfl | assumption | refine (if_neg (by decide)).trans ?_)))
end
end Mine
end
theorem Mine.calm_S7 : True := by (w_top off); exact True.intro
-- S8
section
namespace Mine
/-- the law has come back -/
def DoneAt (h₀ : Heap) (L : Nat) (s s₃ : Shared) : Prop := ∃ h tk m, s₃ = { s with heap := h, toks := tk } ∧ Fr h₀ L h m
/-- some of the law's statements, from a condition to a condition, or to the law's end -/
def SegR (w : World) (a n : Nat) (J J' : World → Heap → Nat → Shared → Shared → Prop) : Prop :=
  ∀ (h₀ : Heap) (mean : ExcName → Option Value) (mg mb : Str → Option Value) (fa : Addr) (cd : Value) (s s₂ : Shared) (Q : Flow → Shared → Prop) (E : Value → Shared → Prop),
    Below callerA h₀ [] h₀ → (hd.heap_39 w.params).In h₀ → Top VW (looseW VW []) mean mg mb h₀ → J w h₀ h₀.objs.size s s₂ → (∀ s₃, J' w h₀ h₀.objs.size s s₃ → Q .next s₃) → (∀ s₃, DoneAt h₀ h₀.objs.size s s₃ → Q (.ret (.bool true)) s₃) →
      wpAny (model PG w) (callerA.deeper (lawEnv h₀ fa cd)) (execs ((lawBody.drop a).take n) (lawEnv h₀ fa cd)) Q E s₂
theorem goal_nodup {H R : List Str} (hH : MenuH H) (hR : MenuR R) : (H ++ R).Nodup := by
  simp only [MenuH, MenuR, List.mem_cons, List.not_mem_nil, or_false] at hH hR
  rcases hH with rfl | rfl | rfl <;> rcases hR with rfl | rfl | rfl <;> decide
theorem WorthIn.pull {P : Params} {led T own : List (Addr × Obj)} {kn sl : Addr} {i : Int} {t : Tok} {c : Nat} {v wo} (h : WorthIn P led own v wo) (hp : ∀ p ∈ led, p ≠ (kn, knobOf sl i t c) → p ∈ T) : WorthIn P T own v wo := by
  cases h with
  | num n t => exact .num n t
  | arr n x dx b tp l t1 t2 t3 t4 t5 t6 e1 e2 h1 h2 h3 h4 h5 h6 => exact .arr n x dx b tp l t1 t2 t3 t4 t5 t6 e1 e2 (hp _ h1 (ne_cls (fun h => absurd h (by simp [instObj])))) (hp _ h2 (ne_cls (fun h => absurd h (by simp [dictOf])))) (hp _ h3 (ne_len (zs := [_]) (by simp))) (hp _ h4 (ne_cls (fun h => absurd h (by simp [tupOf])))) (hp _ h5 ne_two) h6
theorem CopiesIn.pull {P : Params} {led T own : List (Addr × Obj)} {kn sl : Addr} {i : Int} {t : Tok} {c : Nat} {ws wk} (h : CopiesIn P led own ws wk) (hp : ∀ p ∈ led, p ≠ (kn, knobOf sl i t c) → p ∈ T) : CopiesIn P T own ws wk :=
  fun p hm => let ⟨wo, a, b⟩ := h p hm; ⟨wo, a, b.pull hp⟩
/-- what the law has found -/
structure FoundData where
  (T1 T2 tl : List (Addr × Obj)) (ah : Nat) (ao : Obj) (fka : List (Str × Value)) (fx fd ff : Nat) (fo : Obj) (fk wk : List (Str × Value)) (u1 u2 : Tok)
structure FoundIn (w : World) (T : List (Addr × Obj)) (D : LawData) (Z : GivenData) (Y : FoundData) : Prop where
  (hT2 : ∀ p ∈ Y.T2, p ∈ T) (ap : Apart Y.T2 Y.tl) (G : GivenIn w Y.T2 Y.T1 D Z) (f1 : (Y.ah, Y.ao) ∈ Y.T2) (f2 : Y.ao.IsDictOf (strKind PG w) Y.fka) (f3 : (Y.ah == sysModules) = false) (f4 : FlatsIn Y.T2 Y.fka D.ws) (hb : Z.b = false)
  (x1 : (Y.fx, instObj 119 Y.fd) ∈ T) (x2 : (Y.fd, rvDict w.params Y.u1 Y.u2 Z.gx Y.ff) ∈ T) (x3 : (Y.ff, Y.fo) ∈ T) (x4 : Y.fo.IsDictOf (strKind PG w) Y.fk) (x5 : (Y.ff == sysModules) = false) (x6 : Gathered (putAll Y.wk Z.kvg) Y.fk (D.H ++ Z.R)) (x7 : CopiesIn w.params T Y.tl D.ws Y.wk) (x8 : Y.wk.map (·.1) = (D.H ++ D.X).filter (fun k => (D.H ++ Z.R).any (· == k)))
theorem FoundIn.mono {w : World} {T T' : List (Addr × Obj)} {D : LawData} {Z : GivenData} {Y : FoundData} (h : FoundIn w T D Z Y) (hs : ∀ p ∈ T, p ∈ T') : FoundIn w T' D Z Y :=
  ⟨fun p hp => hs p (h.hT2 p hp), h.ap, h.G, h.f1, h.f2, h.f3, h.f4, h.hb, hs _ h.x1, hs _ h.x2, hs _ h.x3, h.x4, h.x5, h.x6, h.x7.mono hs fun p hp => hp, h.x8⟩
structure Names3 (m : Str → Option Value) (D : LawData) (Z : GivenData) (Y : FoundData) : Prop where
  (M : Names2 m D Z) (m9 : m "ahead" = some (.ref Y.ah)) (m10 : m "found" = some (.ref Y.fx))
theorem Names3.set {m : Str → Option Value} {D : LawData} {Z : GivenData} {Y : FoundData} {x : Str} {v : Option Value} (h : Names3 m D Z Y) (hx : x ∉ theirNames2) (hx2 : x ≠ "ahead") (hx3 : x ≠ "found") : Names3 (fun y => if y = x then v else m y) D Z Y :=
  ⟨h.M.set hx, (if_neg fun (e : ("ahead" : Str) = x) => hx2 e.symm).trans h.m9, (if_neg fun (e : ("found" : Str) = x) => hx3 e.symm).trans h.m10⟩
/-- the record is made -/
inductive P8 (w : World) (m : Str → Option Value) (T : List (Addr × Obj)) : Prop
  | mk (D : LawData) (Z : GivenData) (Y : FoundData) (K : FoundIn w T D Z Y) (M : Names3 m D Z Y) : P8 w m T
section
set_option maxRecDepth 100000 in
set_option maxHeartbeats 8000000 in
theorem seg8 (w : World) : SegR w 17 1 (LawAt 41 P7) (LawAt 41 P8) := by
  k_with_none
  k_with "call ref" => (k_here; (with_reducible show wpAny _ _ (call (Value.ref 187) _) _ _ _); k_dflt (refine' (ext_spec _ _ _ _ _ _ _ _ _ _ _ _ _ _ _ _ _ _ _ _ _ _ _ _ _ ?p1ₖ ?p2ₖ ?p3ₖ ?p4ₖ ?p5ₖ ?p6ₖ ?p7ₖ ?p8ₖ ?p9ₖ ?q1ₖ ?q2ₖ ?q3ₖ ?q4ₖ ?q5ₖ ?q6ₖ ?q7ₖ ?q8ₖ ?q9ₖ ?o1ₖ ?o2ₖ ?o3ₖ) _ _ _ _ _ _ _ _ _ _ _ _ _ _ _ _ _ _ _ _ ?Bₖ ?Fₖ ?Xₖ ?Nₖ ?Tₖ ?kkₖ ?ddₖ ?uuₖ ?okₖ ?excₖ; (case Fₖ => k_asm); (case Nₖ => k_asm); (case p1ₖ => k_mem); (case p2ₖ => k_mem); (case p5ₖ => assumption); (case p3ₖ => k_mem); (case p6ₖ => assumption); (case p7ₖ => assumption); (case p4ₖ => k_mem); (case p8ₖ => assumption); (case p9ₖ => exact RowsIn.mono (by assumption) (fun p hp => by k_mem)); (case q1ₖ => k_mem); (case q2ₖ => assumption); (case q3ₖ => assumption); (case q4ₖ => assumption); (case q5ₖ => assumption); (case q6ₖ => k_mem); (case q7ₖ => k_mem); (case q8ₖ => k_mem); (case q9ₖ => assumption); (case o1ₖ => assumption); (case o2ₖ => assumption); (case o3ₖ => exact WorthsIn.mono (by assumption) (fun p hp => by k_mem) (fun p hp => hp)); (case Bₖ => k_asm); (case Xₖ => k_asm); (case Tₖ => k_asm); (case kkₖ => first | exact rfl | assumption); (case ddₖ => (first | ktr_room | decide)); (case uuₖ => (first | ktr_units | decide)); (case' okₖ => (intro r'ₖ n'ₖ h'ₖ tk'ₖ F'ₖ N'ₖ hp'ₖ; obtain ⟨x'ₖ, dx'ₖ, d'ₖ, o'ₖ, fk'ₖ, wk'ₖ, tl'ₖ, t1'ₖ, t2'ₖ, er'ₖ, en'ₖ, hfk'ₖ, lo'ₖ, hga'ₖ, hcp'ₖ, hok'ₖ, hwk'ₖ, ap'ₖ⟩ := hp'ₖ; subst er'ₖ; subst en'ₖ; (try dsimp only at N'ₖ); (try k_sweep))); (case' excₖ => (intro e'ₖ h'ₖ tk'ₖ B2'ₖ g2'ₖ hex'ₖ R'ₖ hB'ₖ F2'ₖ U'ₖ))))
  k_with "eval Name" => ((with_reducible refine inCells ?_); name_kind "local"; with_unfolding_all refine ldLoc (by assumption) (by ((try dsimp only); (repeat (first | exact if_pos rfl | assumption | refine (if_neg (by decide)).trans ?_)))) ?_)
  k_with "exec Try" => (refine wpAny_Try_except ?_)
  k_with "exec Try cons cons nil nil" => (refine wpAny_Try_except ?_)
  k_with "getAttr ref" => (k_here; (with_reducible show wpAny _ _ (getAttr (Value.ref _) (Str.ofString "word") _) _ _ _); k_dflt (refine word_K (by k_asm) (by k_asm) (by k_asm) (by k_mem) (by assumption) (by assumption) (by assumption) (by k_mem) (by assumption) (by assumption) ?_))
  have hseed : Seed PySem.Challenge.rw_pp0004_01 hd.heap_39 := by k_fill; trivial
  clear hseed
  unfold SegR
  intro h₀ mean mg mb fa cd s s₂ Q E B KX T hJ hQ hRet
  dsimp only [lawEnv]
  generalize eB : lawBody = LB
  generalize eS : lawScope = LS
  conv at eB => lhs; whnf
  conv at eS => lhs; whnf
  subst eB; subst eS
  dsimp only [List.drop, List.take]
  obtain ⟨h, tk, m, kn, sl, xs, ms, n1, n2, i, t, oc2, T0, es, F2, N2, K2, i0, i1, hP⟩ := hJ
  subst es
  obtain ⟨hsl, hx, hlen, hne, hT, hcl, hcd2⟩ := K2
  obtain ⟨T1, D, Z, ah, ao, fka, G, M, m9, f1, f2, f3, f4⟩ := hP
  obtain ⟨hT1, V, c2, hzr, hzrl, hR9, hg, q2, q3, q4, q5, hok, hall, hkl⟩ := G
  have v6 := V.v6.mono hT1 hT1
  have v1 := hT1 _ V.v1
  have v2 := hT1 _ V.v2
  have v3 := hT1 _ V.v3
  have v4 := V.v4
  have v5 := V.v5
  have m5 := M.M.m5
  have m6 := M.m6
  have m7 := M.m7
  have m8 := M.m8
  have hal : D.kva.length ≤ 20 := by
    have h1 := congrArg List.length V.v7
    have h2 := menuH_len V.hH
    have h3 := menuX_len V.hX
    rw [List.length_map, List.length_append] at h1
    omega
  have hgl : Z.kvg.length ≤ 20 := by omega
  have hnd := goal_nodup V.hH hR9
  obtain ⟨xd, lc, ld, op, es, nn, ec, ed, oo, cs, tt', w1, w2, w3, w4, w5, w6, w7, w8, w9, w10, w11, w12, w13, t1, t2, t3, t4, t5, t6, t7, hr, j1, j2, j3, j4, j5, j6, j7, j8, j9, j10, j11, j12, j13, j14, j15, j16, j17, j18, e1, e2, e3, e4, e5, e6, e7, e8, e9, e10, e11, e12, e13⟩ := hg.mono hT1
  have hcl2 : cs.length ≤ 20 := by
    have h1 := hr.len
    have h2 := menuH_len V.hH
    have h3 := menuR_len hR9
    rw [List.length_append] at h1
    omega
  clear e1 e2 e3 e4 e5 e6 e7 e8 e9 e10 e11 e12 e13 j4 j6 j7 j8 j9 j10 j11 j12 j13 j14 j15 j16 j17 j18
  k_steps
  · rename RaisedAda _ _ _ _ => R9
    rename (¬ ExtOk _ _ _) => hex9
    have hb : Z.b = true := by
      cases hz : Z.b with
      | true => rfl
      | false => rw [V.v7] at hex9; exact absurd (hok.mpr hz) hex9
    rw [hb] at m8
    refine caught_law (by assumption) (by assumption) (by assumption) R9 (by assumption) (by k_asm) (by k_asm) (by k_is) ?_
    intro h' tk' oe' od' dx' mA' vs' t' F' N' c1' c2' c3' c4' c5'
    k_steps
    dsimp only
    rw [show (Str.ofString "constraint_error" == Str.ofString "constraint_error") = true by decide]
    exact wpAny_nameGoes_keeps (by rfl) F'.ns (by rfl) fun h'' v hn hs => hRet _ ⟨h'', _, _, rfl, F'.set hn hs⟩
  · rename Obj.IsDictOf _ _ _ => hd9
    rename Gathered _ _ _ => hga9
    rename CopiesIn _ _ _ _ _ => hcp9
    rename Apart _ _ => ap9
    rename ExtOk _ _ _ => hok9
    rename (_ == sysModules) = false => lo9
    rename _ = List.filter _ _ => hwk9
    have N9 := ‹News h₀ h₀.objs.size _ ((_, instObj 119 _) :: _)›
    refine hQ _ (LawAt.close (by k_asm) N9 (by k_mem) (by k_mem) hx hlen hne (by k_mem) hcd2 (by omega) (by omega) (fun T hin => ?_))
    have hin0 : ∀ p ∈ T0, p ∈ T := fun p hp => hin p (by k_mem) (fun e => hT p hp (congrArg Prod.fst e))
    refine P8.mk D Z ⟨T1, T0, _, ah, ao, fka, _, _, _, _, _, _, _, _⟩ ⟨hin0, fun q hq p hp => ap9 q (.tail _ hq) p (.tail _ (.tail _ (.tail _ hp))), ⟨hT1, V, c2, hzr, hzrl, hR9, hg, q2, q3, q4, q5, hok, hall, hkl⟩, f1, f2, f3, f4, hok.mp (by rw [← V.v7]; exact hok9), hin _ (.head _) (ne_cls ?c1), hin _ (.tail _ (.head _)) (ne_cls ?c2), hin _ (.tail _ (.tail _ (.head _))) (ne_dict hd9), hd9, lo9, hga9, hcp9.pull fun p hp hn => hin p (.tail _ (.tail _ (.tail _ hp))) hn, by rw [← V.v7]; exact hwk9⟩ ⟨Names2.set M (by decide), ?m1, ?m2⟩
    case c1 => exact fun h => absurd h (by simp)
    case c2 => exact fun h => absurd h (by simp)
    all_goals ((try dsimp only); (repeat (first | exact if_pos rfl | assumption | refine (if_neg (by decide)).trans ?_)))
end
end Mine
end
theorem Mine.calm_S8 : True := by (w_top off); exact True.intro
-- S9
section
namespace Mine
/-- what is due at a name -/
def WantIn (kvg : List (Str × Value)) (ws : List (Str × Worth)) (k : Str) (wo : Worth) : Prop := (∃ n t, valueAt kvg k = some (.int n t) ∧ wo = .num n) ∨ (valueAt kvg k = none ∧ (k, wo) ∈ ws)
theorem valueAt_mem {kvs : List (Str × Value)} {k : Str} {v : Value} (h : valueAt kvs k = some v) : (k, v) ∈ kvs := by
  unfold valueAt at h
  cases hf : kvs.find? fun kv => decide (kv.1 = k) with
  | none => rw [hf] at h; cases h
  | some p =>
    rw [hf] at h
    have h1 : p.1 = k := by simpa using List.find?_some hf
    have h2 := List.mem_of_find?_eq_some hf
    obtain ⟨a, b⟩ := p
    cases h
    dsimp only at h1
    subst h1
    exact h2
theorem FlatsIn.look {led : List (Addr × Obj)} {kvs : List (Str × Value)} {ws : List (Str × Worth)} (h : FlatsIn led kvs ws) {k : Str} (hk : k ∈ kvs.map (·.1)) : ∃ y wo, valueAt kvs k = some y ∧ (k, wo) ∈ ws ∧ FlatIn led y wo := by
  induction h with
  | nil => cases hk
  | @cons k' v wo kvs ws a _ ih =>
    by_cases e : k' = k
    · subst e
      exact ⟨v, wo, by simp [valueAt], .head _, a⟩
    · rcases List.mem_cons.mp hk with rfl | hk
      · exact absurd rfl e
      · obtain ⟨y, wo', h1, h2, h3⟩ := ih hk
        refine ⟨y, wo', ?_, .tail _ h2, h3⟩
        unfold valueAt at h1 ⊢
        rw [List.find?_cons_of_neg (by simpa using e)]
        exact h1
/-- the due dict grows -/
structure DueIn (w : World) (T : List (Addr × Obj)) (Z : GivenData) (ws : List (Str × Worth)) (duo : Obj) (fdk : List (Str × Value)) (ks : List Str) : Prop where
  (d1 : duo.IsDictOf (strKind PG w) fdk) (d2 : fdk.map (·.1) = ks) (d3 : ∃ wd, FlatsIn T fdk wd ∧ ∀ p ∈ wd, WantIn Z.kvg ws p.1 p.2)
theorem DueIn.put {w : World} {T : List (Addr × Obj)} {Z : GivenData} {ws : List (Str × Worth)} {duo duo' : Obj} {fdk : List (Str × Value)} {ks : List Str} {k : Str} {y : Value} {wo : Worth} (h : DueIn w T Z ws duo fdk ks) (hn : k ∉ ks) (hd : duo'.IsDictOf (strKind PG w) (stored fdk k y)) (hf : FlatIn T y wo) (hw : WantIn Z.kvg ws k wo) :
    DueIn w T Z ws duo' (fdk ++ [(k, y)]) (ks ++ [k]) := by
  obtain ⟨d1, d2, wd, d3, d4⟩ := h
  rw [stored_snoc (by rw [d2]; exact hn)] at hd
  refine ⟨hd, by rw [List.map_append, d2]; rfl, wd ++ [(k, wo)], d3.snoc hf, fun p hp => ?_⟩
  rcases List.mem_append.mp hp with hp | hp
  · exact d4 p hp
  · rw [List.mem_singleton.mp hp]; exact hw
/-- after the first loop -/
inductive P9a (w : World) (m : Str → Option Value) (T : List (Addr × Obj)) : Prop
  | mk (T0 : List (Addr × Obj)) (hT0 : ∀ p ∈ T0, p ∈ T) (D : LawData) (Z : GivenData) (Y : FoundData) (K : FoundIn w T0 D Z Y) (M : Names3 m D Z Y) (du : Nat) (duo : Obj) (fdk : List (Str × Value)) (m11 : m "due" = some (.ref du)) (hdu : (du, duo) ∈ T) (hda : ∀ p ∈ T0, @Ne Nat p.1 du) (lo : (du == sysModules) = false) (C : DueIn w T0 Z D.ws duo fdk D.H) : P9a w m T
inductive P9 (w : World) (m : Str → Option Value) (T : List (Addr × Obj)) : Prop
  | mk (D : LawData) (Z : GivenData) (Y : FoundData) (K : FoundIn w T D Z Y) (M : Names3 m D Z Y) (du : Nat) (duo : Obj) (fdk : List (Str × Value)) (m11 : m "due" = some (.ref du)) (hdu : (du, duo) ∈ T) (lo : (du == sysModules) = false) (C : DueIn w T Z D.ws duo fdk (D.H ++ Z.R)) : P9 w m T
section
set_option maxRecDepth 100000 in
set_option maxHeartbeats 8000000 in
theorem seg9a (w : World) : Seg w 18 2 (LawAt 41 P8) (LawAt 41 P9a) := by
  k_with_none
  k_with "exec For Name Name cons nil" => (k_here; (rename Fr _ _ _ _ => lF'ₖ); (with_unfolding_all refine' For_turns lF'ₖ ?_; k_whole))
  k_with "subscriptTail" => (k_here; (with_reducible show wpAny _ _ (subscriptTail _ _ (Value.ref _) (Value.str _ _)) _ _ _); k_dflt (refine' kda_item (knd := PySem.strKind _ _) ?aNₖ ?aMₖ ?aDₖ (strKind_is _ _ _ _) ?aVₖ ?_; (case aNₖ => k_asm); (case aMₖ => k_mem); (case aDₖ => assumption); (case aVₖ => assumption)))
  k_with "subscriptTail Name Name ref str" => (k_here; (with_reducible show wpAny _ _ (subscriptTail _ _ (Value.ref _) (Value.str _ _)) _ _ _); k_dflt (refine' kda_item (knd := PySem.strKind _ _) ?aNₖ ?aMₖ ?aDₖ (strKind_is _ _ _ _) ?aVₖ ?_; (case aNₖ => k_asm); (case aMₖ => k_mem); (case aDₖ => assumption); (case aVₖ => assumption)))
  k_with "subscriptTail Attribute Name ref str" => (k_here; (with_reducible show wpAny _ _ (subscriptTail _ _ (Value.ref _) (Value.str _ _)) _ _ _); k_dflt (refine' kda_item (knd := PySem.strKind _ _) ?aNₖ ?aMₖ ?aDₖ (strKind_is _ _ _ _) ?aVₖ ?_; (case aNₖ => k_asm); (case aMₖ => k_mem); (case aDₖ => assumption); (case aVₖ => assumption)))
  k_with "getMethod ref" => (k_here; (with_reducible show wpAny _ _ (getMethod (Value.ref _) (Str.ofString "get") _) _ _ _); k_dflt (refine' kdg_method (knd := PySem.strKind _ _) ?aNₖ ?aMₖ ?aDₖ ?_; (case aNₖ => k_asm); (case aMₖ => k_mem); (case aDₖ => assumption)))
  k_with "call builtin:dict.get" => (k_here; (with_reducible show wpAny _ _ (call (Value.builtin "dict.get") [Value.ref _, Value.str _ _, _]) _ _ _); k_dflt (refine' kdg_get2 (knd := PySem.strKind _ _) ?aNₖ ?aMₖ ?aDₖ ?aLₖ (strKind_is _ _ _ _) _ ?aVₖ ?_; (case aNₖ => k_asm); (case aMₖ => k_mem); (case aDₖ => assumption); (case aLₖ => assumption); (case aVₖ => assumption)); (try dsimp only [Option.getD]))
  k_with "call builtin:dict.get" => (k_here; (with_reducible show wpAny _ _ (call (Value.builtin "dict.get") [Value.ref _, Value.str _ _]) _ _ _); k_dflt (refine' kdg_get1 (knd := PySem.strKind _ _) ?aNₖ ?aMₖ ?aDₖ ?aLₖ (strKind_is _ _ _ _) _ ?aVₖ ?_; (case aNₖ => k_asm); (case aMₖ => k_mem); (case aDₖ => assumption); (case aLₖ => assumption); (case aVₖ => assumption)); (try dsimp only [Option.getD]))
  k_with "setItem ref str" => (k_here; k_dflt (refine' kda_set (knd := PySem.strKind _ _) ?Fₖ ?Nₖ ?Uₖ ?dₖ (strKind_is _ _ _ _) ?zₖ ?_; (case Fₖ => k_asm); (case Nₖ => k_asm); (case Uₖ => k_updF); (case dₖ => assumption); (case zₖ => (rw [sizeLine_eq]; omega))); intro h'ₖ o'ₖ F'ₖ N'ₖ hd'ₖ; (try dsimp only at N'ₖ))
  k_with "eval Name" => ((with_reducible refine inCells ?_); name_kind "local"; with_unfolding_all refine ldLoc (by assumption) (by ((try dsimp only); (repeat (first | exact if_pos rfl | assumption | refine (if_neg (by decide)).trans ?_)))) ?_)
  have hseed : Seed PySem.Challenge.rw_pp0004_01 hd.heap_39 := by k_fill; trivial
  clear hseed
  unfold Seg
  intro h₀ mean mg mb fa cd s s₂ Q E B KX T hJ hQ
  dsimp only [lawEnv]
  generalize eB : lawBody = LB
  generalize eS : lawScope = LS
  conv at eB => lhs; whnf
  conv at eS => lhs; whnf
  subst eB; subst eS
  dsimp only [List.drop, List.take]
  refine wpAny_noRaise ?_
  obtain ⟨h, tk, m, kn, sl, xs, ms, n1, n2, i, t, oc2, T0, es, F2, N2, K2, i0, i1, hP⟩ := hJ
  subst es
  obtain ⟨hsl, hx, hlen, hne, hT, hcl, hcd2⟩ := K2
  obtain ⟨D, Z, Y, K, M⟩ := hP
  have a1 := M.M.M.a1
  have V := K.G.V
  have hTT : ∀ p ∈ Y.T1, p ∈ T0 := fun p hp => K.hT2 _ (K.G.hT1 p hp)
  have a2 := hTT _ V.a2
  k_steps
  have hD := ‹Obj.IsDictOf (strKind PG w) _ ([] : List (Str × Value))›
  rename (_ == sysModules) = false => lo1
  rename (kn < _ ∧ AllLt _ T0) => l1
  rename Fr h₀ _ _ _ => F1
  have N1 := ‹News h₀ h₀.objs.size _ ((_, _) :: (kn, _) :: T0)›
  obtain ⟨m₀, em₀, F2⟩ := Fr.gen F1
  obtain ⟨du, duo, eg, ego, N2⟩ := news_gen1 N1
  subst eg; subst ego
  have M0 : Names3 m₀ D Z Y := by rw [em₀]; exact M.set (by decide) (by decide) (by decide)
  have d0 : m₀ "due" = some (.ref du) := by rw [em₀]; exact if_pos rfl
  clear F1 N1 em₀
  have hdu : ∀ p ∈ ((kn, knobOf sl i t n1) : Addr × Obj) :: T0, p.1 ≠ du := fun p hp => by
    rcases List.mem_cons.mp hp with rfl | hp
    · exact Nat.ne_of_lt l1.1
    · exact Nat.ne_of_lt (allLt_mem l1.2 p hp)
  have hkdu : @Ne Nat kn du := hdu _ (.head _)
  have hH3 := menuH_len V.hH
  have hHn : D.H.Nodup := by have := goal_nodup V.hH K.G.hR; exact (List.nodup_append.mp this).1
  refine for_list_inv (vs := D.zs) (n := D.e) (fun r m nw => ∃ kd kr duo fdk, StrsAre r kr ∧ D.H = kd ++ kr ∧ Names3 m D Z Y ∧ m "due" = some (.ref du) ∧ nw = (du, duo) :: (kn, knobOf sl i t n1) :: T0 ∧ DueIn w T0 Z D.ws duo fdk kd) rfl F2 N2 (.tail _ (.tail _ a2)) ⟨[], D.H, duo, [], V.hz, rfl, M0, d0, rfl, ⟨hD, rfl, [], .nil, fun _ h => nomatch h⟩⟩ ?turn ?fin
  case turn =>
    clear N2 F2 hD M0 d0
    rintro I v r m nw oI h tk ⟨kd, kr, duo', fdk, hr, eH, M1, d1, rfl, C⟩ hoff hc F3 N3
    cases hr with
    | cons k t9 hr =>
    have hIu : @Ne Nat I du := Ne.symm (hoff (du, duo') (.head _))
    have q2 := K.hT2 _ K.G.g2
    have q3 := K.G.g3
    have q4 := K.G.g4
    have f1 := K.hT2 _ K.f1
    have f2 := K.f2
    have f3 := K.f3
    have m7 := M1.M.m7
    have m9 := M1.m9
    have C1 := C.d1
    have hfl : fdk.length ≤ 100 := by
      have h1 := congrArg List.length C.d2
      have h2 := congrArg List.length eH
      rw [List.length_map] at h1
      rw [List.length_append, List.length_cons] at h2
      omega
    have hk : k ∈ Y.fka.map (·.1) := by
      rw [K.f4.keys, ← V.v6.keys, V.v7, eH]
      simp
    have hkd : k ∉ kd := fun hc => by
      rw [eH] at hHn
      exact (List.nodup_append.mp hHn).2.2 k hc k (by simp) rfl
    obtain ⟨y, wo, hy, hw, hyf⟩ := K.f4.look hk
    have hyf' := hyf.mono K.hT2
    cases hv : valueAt Z.kvg k with
    | none =>
      k_steps
      rename Obj.IsDictOf (strKind PG w) _ (stored _ _ _) => hd9
      have kN := ‹News _ _ _ _›
      refine ⟨_, _, _, (du, _) :: (kn, knobOf sl i t n1) :: T0, rfl, (by k_asm), kN, ?off, .tail _ (.tail _ a2), kd ++ [k], _, _, _, hr, by simp [eH], M1.set (by decide) (by decide) (by decide), (if_neg (by decide)).trans d1, rfl, C.put hkd hd9 hyf' (.inr ⟨hv, hw⟩)⟩
      intro p hp
      rcases List.mem_cons.mp hp with rfl | hp
      · exact Ne.symm hIu
      · exact hoff p (.tail _ hp)
    | some v =>
      obtain ⟨n, tn, e⟩ := K.G.g5 _ (valueAt_mem hv)
      dsimp only at e
      subst e
      k_steps
      rename Obj.IsDictOf (strKind PG w) _ (stored _ _ _) => hd9
      have kN := ‹News _ _ _ _›
      refine ⟨_, _, _, (du, _) :: (kn, knobOf sl i t n1) :: T0, rfl, (by k_asm), kN, ?off2, .tail _ (.tail _ a2), kd ++ [k], _, _, _, hr, by simp [eH], M1.set (by decide) (by decide) (by decide), (if_neg (by decide)).trans d1, rfl, C.put hkd hd9 (.num n tn) (.inl ⟨n, tn, hv, rfl⟩)⟩
      intro p hp
      rcases List.mem_cons.mp hp with rfl | hp
      · exact Ne.symm hIu
      · exact hoff p (.tail _ hp)
  case fin =>
    clear N2 F2 hD M0 d0
    rintro m nw h tk ⟨kd, kr, duo', fdk, hr, eH, M1, d1, rfl, C⟩ F3 N3
    have ekr : kr = [] := by cases hr; rfl
    subst ekr
    rw [List.append_nil] at eH
    subst eH
    dsimp only
    k_steps
    refine hQ _ (LawAt.close F3 N3 (.tail _ (.head _)) (.tail _ (.tail _ hsl)) hx hlen hne (.tail _ (.tail _ hcl)) hcd2 i0 i1 (fun T hin => ?_))
    have hin0 : ∀ p ∈ T0, p ∈ T := fun p hp => hin p (.tail _ (.tail _ hp)) (fun e => hT p hp (congrArg Prod.fst e))
    exact P9a.mk T0 hin0 D Z Y K M1 du duo' fdk d1 (hin _ (.head _) (fun e => hkdu (congrArg Prod.fst e).symm)) (fun p hp => hdu p (.tail _ hp)) lo1 C
end
end Mine
end
theorem Mine.calm_S9 : True := by (w_top off); exact True.intro
-- SA
section
namespace Mine
theorem DueIn.mono {w : World} {T T' : List (Addr × Obj)} {Z : GivenData} {ws : List (Str × Worth)} {duo : Obj} {fdk : List (Str × Value)} {ks : List Str} (h : DueIn w T Z ws duo fdk ks) (hs : ∀ p ∈ T, p ∈ T') : DueIn w T' Z ws duo fdk ks :=
  let ⟨d1, d2, wd, d3, d4⟩ := h
  ⟨d1, d2, wd, d3.mono hs, d4⟩
theorem valueAt_some {kvs : List (Str × Value)} {k : Str} (h : k ∈ kvs.map (·.1)) : ∃ v, valueAt kvs k = some v := by
  cases hv : valueAt kvs k with
  | none => exact absurd hv ((valueAt_isSome kvs k).mpr h)
  | some v => exact ⟨v, rfl⟩
section
set_option maxRecDepth 100000 in
set_option maxHeartbeats 8000000 in
theorem seg9b (w : World) : Seg w 20 1 (LawAt 41 P9a) (LawAt 41 P9) := by
  k_with_none
  k_with "exec For Name Name cons nil" => (k_here; (rename Fr _ _ _ _ => lF'ₖ); (with_unfolding_all refine' For_turns lF'ₖ ?_; k_whole))
  k_with "getMethod ref" => (k_here; (with_reducible show wpAny _ _ (getMethod (Value.ref _) (Str.ofString "get") _) _ _ _); k_dflt (refine' kdg_method (knd := PySem.strKind _ _) ?aNₖ ?aMₖ ?aDₖ ?_; (case aNₖ => k_asm); (case aMₖ => k_mem); (case aDₖ => assumption)))
  k_with "call builtin:dict.get" => (k_here; (with_reducible show wpAny _ _ (call (Value.builtin "dict.get") [Value.ref _, Value.str _ _, _]) _ _ _); k_dflt (refine' kdg_get2 (knd := PySem.strKind _ _) ?aNₖ ?aMₖ ?aDₖ ?aLₖ (strKind_is _ _ _ _) _ ?aVₖ ?_; (case aNₖ => k_asm); (case aMₖ => k_mem); (case aDₖ => assumption); (case aLₖ => assumption); (case aVₖ => assumption)); (try dsimp only [Option.getD]))
  k_with "call builtin:dict.get" => (k_here; (with_reducible show wpAny _ _ (call (Value.builtin "dict.get") [Value.ref _, Value.str _ _]) _ _ _); k_dflt (refine' kdg_get1 (knd := PySem.strKind _ _) ?aNₖ ?aMₖ ?aDₖ ?aLₖ (strKind_is _ _ _ _) _ ?aVₖ ?_; (case aNₖ => k_asm); (case aMₖ => k_mem); (case aDₖ => assumption); (case aLₖ => assumption); (case aVₖ => assumption)); (try dsimp only [Option.getD]))
  k_with "setItem ref str" => (k_here; k_dflt (refine' kda_set (knd := PySem.strKind _ _) ?Fₖ ?Nₖ ?Uₖ ?dₖ (strKind_is _ _ _ _) ?zₖ ?_; (case Fₖ => k_asm); (case Nₖ => k_asm); (case Uₖ => k_updF); (case dₖ => assumption); (case zₖ => (rw [sizeLine_eq]; omega))); intro h'ₖ o'ₖ F'ₖ N'ₖ hd'ₖ; (try dsimp only at N'ₖ))
  k_with "eval Name" => ((with_reducible refine inCells ?_); name_kind "local"; with_unfolding_all refine ldLoc (by assumption) (by ((try dsimp only); (repeat (first | exact if_pos rfl | assumption | refine (if_neg (by decide)).trans ?_)))) ?_)
  have hseed : Seed PySem.Challenge.rw_pp0004_01 hd.heap_39 := by k_fill; trivial
  clear hseed
  unfold Seg
  intro h₀ mean mg mb fa cd s s₂ Q E B KX T hJ hQ
  dsimp only [lawEnv]
  generalize eB : lawBody = LB
  generalize eS : lawScope = LS
  conv at eB => lhs; whnf
  conv at eS => lhs; whnf
  subst eB; subst eS
  dsimp only [List.drop, List.take]
  refine wpAny_noRaise ?_
  obtain ⟨h, tk, m, kn, sl, xs, ms, n1, n2, i, t, oc2, T0, es, F2, N2, K2, i0, i1, hP⟩ := hJ
  subst es
  obtain ⟨hsl, hx, hlen, hne, hT, hcl, hcd2⟩ := K2
  obtain ⟨T1, hT1, D, Z, Y, K, M, du, duo, fdk, d1, hdu0, hda, lo1, C⟩ := hP
  obtain ⟨T', N', hdk, hTk, hTd, hin', hback⟩ := front2 N2 hT hdu0
  have hT1' : ∀ p ∈ T1, p ∈ T' := fun p hp => hin' p (hT1 p hp) fun e => hda p hp (congrArg Prod.fst e)
  have V := K.G.V
  have hTT : ∀ p ∈ Y.T1, p ∈ T' := fun p hp => hT1' _ (K.hT2 _ (K.G.hT1 p hp))
  have c1 := M.M.c1
  have c2 := hTT _ K.G.c2
  have hsl' : (sl, listOf xs.toArray n2) ∈ T' := hin' _ hsl (ne_dict2 C.d1 (by intro es ep h; cases h))
  have hcl' : (h₀.objs.size + 1, oc2) ∈ T' := hin' _ hcl (ne_dict2 C.d1 (by intro es ep h; rw [hcd2] at h; cases h))
  have hR3 := menuR_len K.G.hR
  have hH3 := menuH_len V.hH
  have hHn := goal_nodup V.hH K.G.hR
  have N3 : News h₀ h₀.objs.size h ((du, duo) :: (kn, knobOf sl i t n1) :: T') := fun p hp => N' p (by
    rcases List.mem_cons.mp hp with rfl | hp
    · exact .tail _ (.head _)
    rcases List.mem_cons.mp hp with rfl | hp
    · exact .head _
    · exact .tail _ (.tail _ hp))
  have hdu : ∀ p ∈ ((kn, knobOf sl i t n1) : Addr × Obj) :: T', p.1 ≠ du := fun p hp => by
    rcases List.mem_cons.mp hp with rfl | hp
    · exact Ne.symm hdk
    · exact hTd p hp
  clear N2 N' hTd
  k_steps
  refine for_list_inv (vs := Z.zr) (n := Z.er) (fun r m nw => ∃ kd kr duo fdk, StrsAre r kr ∧ Z.R = kd ++ kr ∧ Names3 m D Z Y ∧ m "due" = some (.ref du) ∧ nw = (du, duo) :: (kn, knobOf sl i t n1) :: T' ∧ DueIn w T' Z D.ws duo fdk (D.H ++ kd)) rfl (by k_asm) N3 (.tail _ (.tail _ c2)) ⟨[], Z.R, duo, fdk, K.G.hzr, rfl, M, d1, rfl, by rw [List.append_nil]; exact C.mono hT1'⟩ ?turn ?fin
  case turn =>
    clear N3
    rintro I v r m nw oI h tk ⟨kd, kr, duo', fdk', hr, eH, M1, d1, rfl, C⟩ hoff hc F3 N3
    cases hr with
    | cons k t9 hr =>
    have hIu : @Ne Nat I du := Ne.symm (hoff (du, duo') (.head _))
    have q2 := hT1' _ (K.hT2 _ K.G.g2)
    have q3 := K.G.g3
    have q4 := K.G.g4
    have m7 := M1.M.m7
    have C1 := C.d1
    have hfl : fdk'.length ≤ 100 := by
      have h1 := congrArg List.length C.d2
      have h2 := congrArg List.length eH
      rw [List.length_map, List.length_append] at h1
      rw [List.length_append, List.length_cons] at h2
      omega
    have hkR : k ∈ Z.R := by rw [eH]; simp
    have hkd : k ∉ D.H ++ kd := fun hc => by
      rw [eH, ← List.append_assoc] at hHn
      exact (List.nodup_append.mp hHn).2.2 k hc k (by simp) rfl
    obtain ⟨v, hv⟩ := valueAt_some (K.G.hall K.hb k hkR)
    obtain ⟨n, tn, e⟩ := K.G.g5 _ (valueAt_mem hv)
    dsimp only at e
    subst e
    k_steps
    rename Obj.IsDictOf (strKind PG w) _ (stored _ _ _) => hd9
    have kN := ‹News _ _ _ _›
    refine ⟨_, _, _, (du, _) :: (kn, knobOf sl i t n1) :: T', rfl, (by k_asm), kN, ?off, .tail _ (.tail _ c2), kd ++ [k], _, _, _, hr, by simp [eH], M1.set (by decide) (by decide) (by decide), (if_neg (by decide)).trans d1, rfl, by rw [← List.append_assoc]; exact C.put hkd hd9 (.num n tn) (.inl ⟨n, tn, hv, rfl⟩)⟩
    intro p hp
    rcases List.mem_cons.mp hp with rfl | hp
    · exact Ne.symm hIu
    · exact hoff p (.tail _ hp)
  case fin =>
    clear N3
    rintro m nw h tk ⟨kd, kr, duo', fdk', hr, eH, M1, d1, rfl, C⟩ F3 N3
    have ekr : kr = [] := by cases hr; rfl
    subst ekr
    rw [List.append_nil] at eH
    subst eH
    dsimp only
    k_steps
    refine hQ _ (LawAt.close F3 N3 (.tail _ (.head _)) (.tail _ (.tail _ hsl')) hx hlen hne (.tail _ (.tail _ hcl')) hcd2 i0 i1 (fun T hin => ?_))
    have hin0 : ∀ p ∈ T', p ∈ T := fun p hp => hin p (.tail _ (.tail _ hp)) (fun e => hTk p hp (congrArg Prod.fst e))
    exact P9.mk D Z Y (K.mono fun p hp => hin0 p (hT1' p hp)) M1 du duo' fdk' d1 (hin _ (.head _) (fun e => hdk (congrArg Prod.fst e))) lo1 (C.mono hin0)
end
end Mine
end
theorem Mine.calm_SA : True := by (w_top off); exact True.intro
-- SB
section
namespace Mine
theorem valueAt_cons (p : Str × Value) (r : List (Str × Value)) (j : Str) : valueAt (p :: r) j = if p.1 = j then some p.2 else valueAt r j := by
  unfold valueAt
  by_cases h : p.1 = j
  · rw [List.find?_cons_of_pos (by simpa using h), if_pos h]; rfl
  · rw [List.find?_cons_of_neg (by simpa using h), if_neg h]
theorem valueAt_app (a b : List (Str × Value)) (j : Str) : valueAt (a ++ b) j = (valueAt a j).or (valueAt b j) := by
  induction a with
  | nil => rfl
  | cons p r ih =>
    rw [List.cons_append, valueAt_cons, valueAt_cons, ih]
    split <;> rfl
theorem valueAt_put (a : List (Str × Value)) (k j : Str) (v : Value) : valueAt (a.map fun kv => if kv.1 = k then (kv.1, v) else kv) j = if j = k then (valueAt a j).map (fun _ => v) else valueAt a j := by
  induction a with
  | nil => split <;> rfl
  | cons p r ih =>
    rw [List.map_cons, valueAt_cons, valueAt_cons, ih]
    have e : (if p.1 = k then (p.1, v) else p).1 = p.1 := by split <;> rfl
    rw [e]
    by_cases h : p.1 = j
    · subst h
      by_cases h2 : p.1 = k
      · simp [h2]
      · simp [h2]
    · simp only [if_neg h]
theorem valueAt_stored (a : List (Str × Value)) (k j : Str) (v : Value) : valueAt (stored a k v) j = if j = k then some v else valueAt a j := by
  by_cases h : k ∈ a.map (·.1)
  · have e : stored a k v = a.map (fun kv => if kv.1 = k then (kv.1, v) else kv) := by
      unfold stored
      rw [if_pos]
      obtain ⟨p, hp, rfl⟩ := List.mem_map.mp h
      exact List.any_eq_true.mpr ⟨p, hp, by simp⟩
    rw [e, valueAt_put]
    by_cases hj : j = k
    · subst hj
      obtain ⟨v', hv'⟩ := valueAt_some h
      simp [hv']
    · simp [hj]
  · rw [stored_snoc h, valueAt_app, valueAt_cons]
    by_cases hj : j = k
    · subst hj
      have hn : valueAt a j = none := by
        cases hv : valueAt a j with
        | none => rfl
        | some v => exact absurd ((valueAt_isSome a j).mp (by rw [hv]; exact nofun)) h
      simp [hn]
    · have : ¬ k = j := fun e => hj e.symm
      simp only [if_neg this, if_neg hj]
      cases valueAt a j <;> rfl
theorem valueAt_putAll {kvg : List (Str × Value)} (hn : (kvg.map (·.1)).Nodup) (a : List (Str × Value)) (j : Str) : valueAt (putAll a kvg) j = (valueAt kvg j).or (valueAt a j) := by
  induction kvg generalizing a with
  | nil => rfl
  | cons p r ih =>
    rw [List.map_cons, List.nodup_cons] at hn
    show valueAt (putAll (stored a p.1 p.2) r) j = _
    rw [ih hn.2, valueAt_stored, valueAt_cons]
    by_cases hj : j = p.1
    · subst hj
      have h0 : valueAt r p.1 = none := by
        cases hv : valueAt r p.1 with
        | none => rfl
        | some v => exact absurd ((valueAt_isSome r p.1).mp (by rw [hv]; exact nofun)) hn.1
      simp [h0]
    · have : ¬ p.1 = j := fun e => hj e.symm
      simp only [if_neg this, if_neg hj]
/-- each field of what is found is worth what is wanted -/
theorem found_each {P : Params} {T tl : List (Addr × Obj)} {wk kvg fk : List (Str × Value)} {ks : List Str} {ws : List (Str × Worth)} (hn : (kvg.map (·.1)).Nodup) (h5 : Nums kvg) (x6 : Gathered (putAll wk kvg) fk ks) (x7 : CopiesIn P T tl ws wk) : ∀ p ∈ fk, ∃ wo, WorthIn P T tl p.2 wo ∧ WantIn kvg ws p.1 wo := by
  intro p hp
  have h := x6.2 p hp
  rw [valueAt_putAll hn] at h
  cases hv : valueAt kvg p.1 with
  | some v =>
    rw [hv] at h
    have e : v = p.2 := Option.some.inj h
    subst e
    obtain ⟨n, t, e⟩ := h5 _ (valueAt_mem hv)
    dsimp only at e
    rw [e] at hv ⊢
    exact ⟨_, .num n t, .inl ⟨n, t, hv, rfl⟩⟩
  | none =>
    rw [hv] at h
    obtain ⟨wo, a, b⟩ := x7 _ (valueAt_mem (show valueAt wk p.1 = some p.2 from h))
    exact ⟨wo, b, .inr ⟨hv, a⟩⟩
theorem worths_each {P : Params} {T tl : List (Addr × Obj)} {kvg : List (Str × Value)} {ws : List (Str × Worth)} : ∀ {fk : List (Str × Value)}, (∀ p ∈ fk, ∃ wo, WorthIn P T tl p.2 wo ∧ WantIn kvg ws p.1 wo) → ∃ wf, WorthsIn P T tl fk wf ∧ ∀ p ∈ wf, WantIn kvg ws p.1 p.2
  | [], _ => ⟨[], .nil, fun _ h => nomatch h⟩
  | (k, v) :: r, h => by
    obtain ⟨wf, a, b⟩ := worths_each (fk := r) fun p hp => h p (.tail _ hp)
    obtain ⟨wo, c, d⟩ := h (k, v) (.head _)
    refine ⟨(k, wo) :: wf, .cons c a, fun p hp => ?_⟩
    rcases List.mem_cons.mp hp with rfl | hp
    · exact d
    · exact b p hp
theorem one_worth {k : Str} {a b : Worth} : ∀ {ws : List (Str × Worth)}, (ws.map (·.1)).Nodup → (k, a) ∈ ws → (k, b) ∈ ws → a = b
  | [], _, h, _ => nomatch h
  | p :: r, hn, ha, hb => by
    rw [List.map_cons, List.nodup_cons] at hn
    rcases List.mem_cons.mp ha with rfl | ha2
    · rcases List.mem_cons.mp hb with e | hb2
      · exact ((Prod.mk.inj e).2).symm
      · exact absurd (show k ∈ r.map (·.1) from List.mem_map.mpr ⟨(k, b), hb2, rfl⟩) hn.1
    · rcases List.mem_cons.mp hb with rfl | hb2
      · exact absurd (show k ∈ r.map (·.1) from List.mem_map.mpr ⟨(k, a), ha2, rfl⟩) hn.1
      · exact one_worth hn.2 ha2 hb2
theorem want_one {kvg : List (Str × Value)} {ws : List (Str × Worth)} (hn : (ws.map (·.1)).Nodup) {k : Str} {a b : Worth} (ha : WantIn kvg ws k a) (hb : WantIn kvg ws k b) : a = b := by
  rcases ha with ⟨n, t, h1, rfl⟩ | ⟨h1, h2⟩
  · rcases hb with ⟨n2, t2, h3, rfl⟩ | ⟨h3, _⟩
    · rw [h1] at h3
      injection h3 with h4
      injection h4 with h5 h6
      rw [h5]
    · rw [h1] at h3; cases h3
  · rcases hb with ⟨n2, t2, h3, rfl⟩ | ⟨_, h4⟩
    · rw [h1] at h3; cases h3
    · exact one_worth hn h2 h4
theorem want_eq {kvg : List (Str × Value)} {ws : List (Str × Worth)} (hn : (ws.map (·.1)).Nodup) : ∀ {a b : List (Str × Worth)}, a.map (·.1) = b.map (·.1) → (∀ p ∈ a, WantIn kvg ws p.1 p.2) → (∀ p ∈ b, WantIn kvg ws p.1 p.2) → a = b
  | [], [], _, _, _ => rfl
  | [], _ :: _, h, _, _ => by simp at h
  | _ :: _, [], h, _, _ => by simp at h
  | (k, x) :: r, (k2, y) :: r2, h, ha, hb => by
    simp only [List.map_cons, List.cons.injEq] at h
    obtain ⟨rfl, h⟩ := h
    have e1 : x = y := want_one hn (ha _ (.head _)) (hb _ (.head _))
    rw [e1, want_eq hn h (fun p hp => ha p (.tail _ hp)) fun p hp => hb p (.tail _ hp)]
section
set_option maxRecDepth 100000 in
set_option maxHeartbeats 8000000 in
theorem seg10 (w : World) : Seg w 21 1 (LawAt 41 P9) (LawAt 41 P8) := by
  k_with_none
  k_with "eval Name" => ((with_reducible refine inCells ?_); name_kind "local"; with_unfolding_all refine ldLoc (by assumption) (by ((try dsimp only); (repeat (first | exact if_pos rfl | assumption | refine (if_neg (by decide)).trans ?_)))) ?_)
  k_with "call ref" => (k_here; (with_reducible show wpAny _ _ (call (Value.ref 318) [Value.ref _]) _ _ _); k_dflt (refine' (flat_spec _ _ _ _ _ _ _ ?hmₖ ?hfdₖ ?loₖ ?hwₖ ?hlenₖ) _ _ _ _ _ _ _ _ _ _ _ _ _ _ _ _ _ _ _ _ ?Bₖ ?Fₖ ?Xₖ ?Nₖ ?Tₖ ?kkₖ ?ddₖ ?uuₖ ?_; (case Fₖ => k_asm); (case Nₖ => k_asm); (case hmₖ => k_mem); (case hfdₖ => assumption); (case loₖ => assumption); (case hwₖ => exact WorthsIn.mono (by assumption) (fun p hp => by k_mem) (fun p hp => hp)); (case hlenₖ => (first | assumption | omega)); (case Bₖ => k_asm); (case Xₖ => k_asm); (case Tₖ => k_asm); (case kkₖ => first | exact rfl | assumption); (case ddₖ => (first | ktr_room | decide)); (case uuₖ => (first | ktr_units | decide))); intro r'ₖ n'ₖ h'ₖ tk'ₖ F'ₖ N'ₖ hp'ₖ; obtain ⟨g'ₖ, go'ₖ, tl'ₖ, fk'ₖ, er'ₖ, en'ₖ, hd'ₖ, hf'ₖ, ap'ₖ, lo'ₖ⟩ := hp'ₖ; subst er'ₖ; subst en'ₖ; (try dsimp only at N'ₖ); (try k_sweep))
  k_with "compareOp NotEq ref ref" => (refine of_hold ?_)
  have hseed : Seed PySem.Challenge.rw_pp0004_01 hd.heap_39 := by k_fill; trivial
  clear hseed
  unfold Seg
  intro h₀ mean mg mb fa cd s s₂ Q E B KX T hJ hQ
  dsimp only [lawEnv]
  generalize eB : lawBody = LB
  generalize eS : lawScope = LS
  conv at eB => lhs; whnf
  conv at eS => lhs; whnf
  subst eB; subst eS
  dsimp only [List.drop, List.take]
  obtain ⟨h, tk, m, kn, sl, xs, ms, n1, n2, i, t, oc2, T0, es, F2, N2, K2, i0, i1, hP⟩ := hJ
  subst es
  obtain ⟨hsl, hx, hlen, hne, hT, hcl, hcd2⟩ := K2
  obtain ⟨D, Z, Y, K, M, du, duo, fdk, m11, hdu, lod, C⟩ := hP
  obtain ⟨d1, d2, wd, d3, d4⟩ := C
  have hng := isDictOf_nodup K.G.g3
  obtain ⟨wf, u1, u2⟩ := worths_each (found_each hng K.G.g5 K.x6 K.x7)
  have ek : wf = wd := want_eq (ws := D.ws) (by rw [← K.G.V.v6.keys]; exact isDictOf_nodup K.G.V.v4) (by rw [← u1.keys, ← d3.keys, K.x6.1, d2]) u2 d4
  subst ek
  have hR3 := menuR_len K.G.hR
  have hH3 := menuH_len K.G.V.hH
  have hfl : Y.fk.length ≤ 100 := by
    have h1 := congrArg List.length K.x6.1
    rw [List.length_map, List.length_append] at h1
    omega
  have x1 := K.x1
  have x2 := K.x2
  have x3 := K.x3
  have x4 := K.x4
  have x5 := K.x5
  have m8 := M.M.m8
  rw [K.hb] at m8
  have m10 := M.m10
  obtain ⟨xd, lc, ld, op, es, nn, ec, ed, oo, cs, tt', w1, w2, w3, w4, w5, w6, w7, w8, w9, w10, w11, w12, w13, t1, t2, t3, t4, t5, t6, t7, hr, j1, j2, j3, j4, j5, j6, j7, j8, j9, j10, j11, j12, j13, j14, j15, j16, j17, j18, e1, e2, e3, e4, e5, e6, e7, e8, e9, e10, e11, e12, e13⟩ := (K.G.hg.mono K.G.hT1).mono K.hT2
  clear e1 e2 e3 e4 e5 e6 e7 e8 e9 e10 e11 e12 e13 j4 j6 j7 j8 j9 j10 j11 j12 j13 j14 j15 j16 j17 j18
  k_steps
  rename FlatsIn (_ ++ _) _ _ => hf9
  rename Apart _ _ => ap9
  rename Obj.IsDictOf _ _ (_ : List (Str × Value)) => hd9
  rename (_ == sysModules) = false => lo9
  have N9 := ‹News h₀ h₀.objs.size _ (_ :: (_ ++ _))›
  refine Hold.mk ?_
  refine flats_ne_K N9 (by k_mem) (by k_mem) hd9 d1 lo9 lod (hf9.mono fun p hp => .tail _ hp) (d3.mono fun p hp => by k_mem) (by first | ktr_units | decide) (by first | ktr_units | decide) ?_
  k_steps
  refine hQ _ (LawAt.close (by k_asm) N9 (by k_mem) (by k_mem) hx hlen hne (by k_mem) hcd2 (by omega) (by omega) (fun T hin => ?_))
  have hin0 : ∀ p ∈ T0, p ∈ T := fun p hp => hin p (by k_mem) (fun e => hT p hp (congrArg Prod.fst e))
  exact P8.mk D Z Y (K.mono hin0) M
end
end Mine
end
theorem Mine.calm_SB : True := by (w_top off); exact True.intro
-- SC
section
namespace Mine
/-- a number, or an array whose list of items lies apart from T2 -/
inductive LooseIn (P : Params) (T2 T : List (Addr × Obj)) : Value → Prop
  | num (n : Int) (t : Tok) : LooseIn P T2 T (.int n t)
  | arr (x dx b l : Nat) (t1 t2 u1 u2 : Tok) (n1 n2 : Int) (e : Nat) (h1 : (x, instObj 98 dx) ∈ T) (h2 : (dx, avDict P t1 t2 b l) ∈ T) (h3 : (l, listOf #[.int n1 u1, .int n2 u2] e) ∈ T) (h4 : ∀ p ∈ T2, @Ne Nat p.1 l) : LooseIn P T2 T (.ref x)
theorem ne_clsG {a l : Addr} {o : Obj} {vs : Array Value} {e : Nat} (hc : o.cls ≠ .type "list") : ((a, o) : Addr × Obj) ≠ (l, listOf vs e) := by
  intro h
  exact hc (congrArg Obj.cls (Prod.mk.inj h).2)
theorem LooseIn.put {P : Params} {T2 T T' : List (Addr × Obj)} {v : Value} {l : Nat} {u1 u2 u3 u4 : Tok} {n1 n2 n3 n4 : Int} {e e' : Nat} (h : LooseIn P T2 T v) (hin : ∀ p ∈ T, p ≠ (l, listOf #[.int n1 u1, .int n2 u2] e) → p ∈ T') (hl : (l, listOf #[.int n3 u3, .int n4 u4] e') ∈ T') : LooseIn P T2 T' v := by
  cases h with
  | num n t => exact .num n t
  | arr x dx b l' t1 t2 v1 v2 m1 m2 e2 h1 h2 h3 h4 =>
    have a1 := hin _ h1 (ne_clsG (fun h => absurd h (by simp [instObj])))
    have a2 := hin _ h2 (ne_clsG (fun h => absurd h (by simp [dictOf])))
    by_cases hc : @Eq Nat l' l
    · subst hc
      exact .arr x dx b l' t1 t2 _ _ _ _ _ a1 a2 hl h4
    · exact .arr x dx b l' t1 t2 _ _ _ _ _ a1 a2 (hin _ h3 fun e => hc (congrArg Prod.fst e)) h4
theorem WorthIn.loose {P : Params} {T tl T2 : List (Addr × Obj)} {v : Value} {wo : Worth} (h : WorthIn P T tl v wo) (ap : Apart T2 tl) : LooseIn P T2 T v := by
  cases h with
  | num n t => exact .num n t
  | arr n x dx b tp l t1 t2 t3 t4 t5 t6 e1 e2 h1 h2 h3 h4 h5 h6 => exact .arr x dx b l t1 t2 _ _ _ _ _ h1 h2 h5 fun p hp => ap p hp _ h6
theorem swap2 {h₀ h : Heap} {L : Addr} {a b : Addr × Obj} {T : List (Addr × Obj)} (N : News h₀ L h (a :: b :: T)) : News h₀ L h (b :: a :: T) := fun p hp => N p (by
  rcases List.mem_cons.mp hp with rfl | hp
  · exact .tail _ (.head _)
  rcases List.mem_cons.mp hp with rfl | hp
  · exact .head _
  · exact .tail _ (.tail _ hp))
/-- the law after its last loop: the knob is no longer spoken of -/
def PlainAt (P : World → (Str → Option Value) → List (Addr × Obj) → Prop) (w : World) (h₀ : Heap) (L : Nat) (s s₂ : Shared) : Prop := ∃ h tk m T, s₂ = { s with heap := h, toks := tk } ∧ Fr h₀ L h m ∧ News h₀ L h T ∧ P w m T
section
set_option maxRecDepth 100000 in
set_option maxHeartbeats 8000000 in
theorem seg11 (w : World) : Seg w 22 1 (LawAt 41 P8) (PlainAt P7) := by
  k_with_none
  k_with "exec For Name Name cons nil" => (k_here; (rename Fr _ _ _ _ => lF'ₖ); (with_unfolding_all refine' For_turns lF'ₖ ?_; k_whole))
  k_with "subscriptTail" => (k_here; (with_reducible show wpAny _ _ (subscriptTail _ _ (Value.ref _) (Value.str _ _)) _ _ _); k_dflt (refine' kda_item (knd := PySem.strKind _ _) ?aNₖ ?aMₖ ?aDₖ (strKind_is _ _ _ _) ?aVₖ ?_; (case aNₖ => k_asm); (case aMₖ => k_mem); (case aDₖ => assumption); (case aVₖ => assumption)))
  k_with "subscriptTail Name Name ref str" => (k_here; (with_reducible show wpAny _ _ (subscriptTail _ _ (Value.ref _) (Value.str _ _)) _ _ _); k_dflt (refine' kda_item (knd := PySem.strKind _ _) ?aNₖ ?aMₖ ?aDₖ (strKind_is _ _ _ _) ?aVₖ ?_; (case aNₖ => k_asm); (case aMₖ => k_mem); (case aDₖ => assumption); (case aVₖ => assumption)))
  k_with "subscriptTail Attribute Name ref str" => (k_here; (with_reducible show wpAny _ _ (subscriptTail _ _ (Value.ref _) (Value.str _ _)) _ _ _); k_dflt (refine' kda_item (knd := PySem.strKind _ _) ?aNₖ ?aMₖ ?aDₖ (strKind_is _ _ _ _) ?aVₖ ?_; (case aNₖ => k_asm); (case aMₖ => k_mem); (case aDₖ => assumption); (case aVₖ => assumption)))
  k_with "eval Name" => ((with_reducible refine inCells ?_); name_kind "local"; with_unfolding_all refine ldLoc (by assumption) (by ((try dsimp only); (repeat (first | exact if_pos rfl | assumption | refine (if_neg (by decide)).trans ?_)))) ?_)
  have hseed : Seed PySem.Challenge.rw_pp0004_01 hd.heap_39 := by k_fill; trivial
  clear hseed
  unfold Seg
  intro h₀ mean mg mb fa cd s s₂ Q E B KX T hJ hQ
  dsimp only [lawEnv]
  generalize eB : lawBody = LB
  generalize eS : lawScope = LS
  conv at eB => lhs; whnf
  conv at eS => lhs; whnf
  subst eB; subst eS
  dsimp only [List.drop, List.take]
  refine wpAny_noRaise ?_
  obtain ⟨h, tk, m, kn, sl, xs, ms, n1, n2, i, t, oc2, T0, es, F2, N2, K2, i0, i1, hP⟩ := hJ
  subst es
  obtain ⟨hsl, hx, hlen, hne, hT, hcl, hcd2⟩ := K2
  obtain ⟨D, Z, Y, K, M⟩ := hP
  have hng := isDictOf_nodup K.G.g3
  have hlo : ∀ p ∈ Y.fk, LooseIn w.params Y.T2 T0 p.2 := fun p hp => by
    obtain ⟨wo, a, _⟩ := found_each hng K.G.g5 K.x6 K.x7 p hp
    exact a.loose K.ap
  have a1 := M.M.M.a1
  have V := K.G.V
  have a2 := K.G.hT1 _ V.a2
  have a3 := K.hT2 _ a2
  have N3 : News h₀ h₀.objs.size h T0 := fun p hp => N2 p (.tail _ hp)
  clear N2
  have q4 := K.x4
  have q5 := K.x5
  k_steps
  refine for_list_inv (vs := D.zs) (n := D.e) (fun r m nw => ∃ kr, StrsAre r kr ∧ (∀ k ∈ kr, k ∈ D.H) ∧ Names3 m D Z Y ∧ (∀ p ∈ Y.T2, p ∈ nw) ∧ (Y.fx, instObj 119 Y.fd) ∈ nw ∧ (Y.fd, rvDict w.params Y.u1 Y.u2 Z.gx Y.ff) ∈ nw ∧ (Y.ff, Y.fo) ∈ nw ∧ ∀ p ∈ Y.fk, LooseIn w.params Y.T2 nw p.2) rfl (by k_asm) N3 a3 ⟨D.H, V.hz, fun _ h => h, M, K.hT2, K.x1, K.x2, K.x3, hlo⟩ ?turn ?fin
  case turn =>
    clear N3
    rintro I v r m nw oI h tk ⟨kr, hr, hk, M1, hT2, x1, x2, x3, hL⟩ hoff hc F3 N3
    cases hr with
    | cons k t9 hr =>
    have m10 := M1.m10
    obtain ⟨y, hy⟩ := valueAt_some (kvs := Y.fk) (k := k) (by rw [K.x6.1]; exact List.mem_append_left _ (hk k (.head _)))
    have hLy := hL _ (valueAt_mem hy)
    dsimp only at hLy
    cases hLy with
    | num n t =>
      k_steps
      have kN := ‹News _ _ _ _›
      exact ⟨_, _, _, nw, rfl, (by k_asm), kN, hoff, hT2 _ a2, _, hr, fun k hm => hk k (.tail _ hm), M1.set (by decide) (by decide) (by decide), hT2, x1, x2, x3, hL⟩
    | arr x dx b l t1 t2 u1 u2 e1 e2 e h1 h2 h3 h4 =>
      obtain ⟨T', N', hlI, hTI, hTl, hin, hback⟩ := front2 N3 hoff h3
      have hIl : @Ne Nat I l := Ne.symm hlI
      clear N3
      have y1 := hin _ x1 (ne_clsG (fun h => absurd h (by simp [instObj])))
      have y2 := hin _ x2 (ne_clsG (fun h => absurd h (by simp [dictOf])))
      have y3 : (Y.ff, Y.fo) ∈ T' := hin _ x3 fun e => by
        obtain ⟨es, ep, hx, hd, _⟩ := q4
        have h8 := congrArg (fun q => q.2.data) e
        dsimp only at h8
        rw [hd] at h8
        cases h8
      have z1 := hin _ h1 (ne_clsG (fun h => absurd h (by simp [instObj])))
      have z2 := hin _ h2 (ne_clsG (fun h => absurd h (by simp [dictOf])))
      have N4 : News h₀ h₀.objs.size h ((l, listOf #[.int e1 u1, .int e2 u2] e) :: (I, oI) :: T') := fun p hp => N' p (by
        rcases List.mem_cons.mp hp with rfl | hp
        · exact .tail _ (.head _)
        rcases List.mem_cons.mp hp with rfl | hp
        · exact .head _
        · exact .tail _ (.tail _ hp))
      clear N'
      k_steps
      have kN := ‹News _ _ _ _›
      refine ⟨_, _, _, (l, _) :: T', rfl, (by k_asm), swap2 kN, ?off, .tail _ (hin _ (hT2 _ a2) fun e => h4 _ a2 (congrArg Prod.fst e)), _, hr, fun k hm => hk k (.tail _ hm), M1.set (by decide) (by decide) (by decide), fun p hp => .tail _ (hin _ (hT2 _ hp) fun e => h4 _ hp (congrArg Prod.fst e)), .tail _ y1, .tail _ y2, .tail _ y3, fun p hp => (hL p hp).put (fun q hq hn => .tail _ (hin q hq hn)) (.head _)⟩
      case off =>
        intro p hp
        rcases List.mem_cons.mp hp with rfl | hp
        · exact hlI
        · exact hTI p hp
  case fin =>
    clear N3
    rintro m nw h tk ⟨kr, hr, hk, M1, hT2, x1, x2, x3, hL⟩ F3 N3
    dsimp only
    k_steps
    refine hQ _ ⟨h, tk, m, nw, rfl, F3, N3, P7.mk Y.T1 D Z Y.ah Y.ao Y.fka (K.G.mono hT2) M1.M M1.m9 (hT2 _ K.f1) K.f2 K.f3 (K.f4.mono hT2)⟩
end
end Mine
end
theorem Mine.calm_SC : True := by (w_top off); exact True.intro
-- SD
section
namespace Mine
theorem item_at {prog : Program} {w : World} {A : Around} {E : Value → Shared → Prop} {s : Shared} {h₀ : Heap} {L l : Addr} {news : List (Addr × Obj)} {value slice : PySem.Expr} {Q : Value → Shared → Prop} {vs : List Value} {k : Int} {u : Tok} {n : Nat} {v : Value} (N : News h₀ L s.heap news) (hm : (l, listOf vs.toArray n) ∈ news) (h0 : 0 ≤ k) (h1 : k < vs.length) (hb : vs.length ≤ 100) (hat : vs[k.toNat]? = some v) (h : Q v s)
    (hs : subscripted slice false (.ref l) (.int k u) = operate [.ref l, .int k u] (getItem (.ref l) (.int k u)) := by with_unfolding_all rfl) :
    wpAny (model prog w) A (subscriptTail value slice (.ref l) (.int k u)) Q E s :=
  item_led N hm h0 h1 hb (fun v' hv' => by rw [hat] at hv'; cases hv'; exact h) hs
theorem ValIn.typed {w : World} {T : List (Addr × Obj)} {D : LawData} (V : ValIn w T D) : ∃ (n : Int) (ks : List Str), TypeIn w T D.tt n ks := by
  have h := V.htt
  have h0 := V.g0
  have h1 := V.g1
  rcases (show D.g = 0 ∨ D.g = 1 ∨ D.g = 2 by omega) with e | e | e
  · rw [e] at h
    have h2 : Value.ref D.bx = .ref D.tt := Option.some.inj h
    injection h2 with h3
    rw [← h3]; exact ⟨_, _, V.hb⟩
  · rw [e] at h
    have h2 : Value.ref D.dx = .ref D.tt := Option.some.inj h
    injection h2 with h3
    rw [← h3]; exact ⟨_, _, V.hd⟩
  · rw [e] at h
    have h2 : Value.ref D.fx = .ref D.tt := Option.some.inj h
    injection h2 with h3
    rw [← h3]; exact ⟨_, _, V.hf⟩
section
set_option maxRecDepth 100000 in
set_option maxHeartbeats 8000000 in
theorem seg12 (w : World) : SegR w 23 1 (PlainAt P7) (fun _ _ _ _ _ => False) := by
  k_with_none
  k_with "eval Name" => ((with_reducible refine inCells ?_); name_kind "local"; with_unfolding_all refine ldLoc (by assumption) (by ((try dsimp only); (repeat (first | exact if_pos rfl | assumption | refine (if_neg (by decide)).trans ?_)))) ?_)
  k_with "call ref" => (k_here; (with_reducible show wpAny _ _ (call (Value.ref 318) [Value.ref _]) _ _ _); k_dflt (refine' (flat_spec _ _ _ _ _ _ _ ?hmₖ ?hfdₖ ?loₖ ?hwₖ ?hlenₖ) _ _ _ _ _ _ _ _ _ _ _ _ _ _ _ _ _ _ _ _ ?Bₖ ?Fₖ ?Xₖ ?Nₖ ?Tₖ ?kkₖ ?ddₖ ?uuₖ ?_; (case Fₖ => k_asm); (case Nₖ => k_asm); (case hmₖ => k_mem); (case hfdₖ => assumption); (case loₖ => assumption); (case hwₖ => exact WorthsIn.mono (by assumption) (fun p hp => by k_mem) (fun p hp => hp)); (case hlenₖ => (first | assumption | omega)); (case Bₖ => k_asm); (case Xₖ => k_asm); (case Tₖ => k_asm); (case kkₖ => first | exact rfl | assumption); (case ddₖ => (first | ktr_room | decide)); (case uuₖ => (first | ktr_units | decide))); intro r'ₖ n'ₖ h'ₖ tk'ₖ F'ₖ N'ₖ hp'ₖ; obtain ⟨g'ₖ, go'ₖ, tl'ₖ, fk'ₖ, er'ₖ, en'ₖ, hd'ₖ, hf'ₖ, ap'ₖ, lo'ₖ⟩ := hp'ₖ; subst er'ₖ; subst en'ₖ; (try dsimp only at N'ₖ); (try k_sweep))
  k_with "subscriptTail" => (k_here; (with_reducible show wpAny _ _ (subscriptTail _ _ (Value.ref _) (Value.int _ _)) _ _ _); k_dflt (refine item_at (by k_asm) (by k_mem) (by omega) (by (simp only [List.length_cons, List.length_nil]; omega)) (by (simp only [List.length_cons, List.length_nil]; omega)) (by assumption) ?_ (by with_unfolding_all rfl)))
  k_with "subscriptTail List Name ref int" => (k_here; (with_reducible show wpAny _ _ (subscriptTail _ _ (Value.ref _) (Value.int _ _)) _ _ _); k_dflt (refine item_at (by k_asm) (by k_mem) (by omega) (by (simp only [List.length_cons, List.length_nil]; omega)) (by (simp only [List.length_cons, List.length_nil]; omega)) (by assumption) ?_ (by with_unfolding_all rfl)))
  k_with "subscriptTail Name Name ref int" => (k_here; (with_reducible show wpAny _ _ (subscriptTail _ _ (Value.ref _) (Value.int _ _)) _ _ _); k_dflt (refine item_at (by k_asm) (by k_mem) (by omega) (by (simp only [List.length_cons, List.length_nil]; omega)) (by (simp only [List.length_cons, List.length_nil]; omega)) (by assumption) ?_ (by with_unfolding_all rfl)))
  k_with "compareOp Eq ref ref" => (refine of_hold ?_)
  have hseed : Seed PySem.Challenge.rw_pp0004_01 hd.heap_39 := by k_fill; trivial
  clear hseed
  unfold SegR
  intro h₀ mean mg mb fa cd s s₂ Q E B KX T hJ hQ hRet
  dsimp only [lawEnv]
  generalize eB : lawBody = LB
  generalize eS : lawScope = LS
  conv at eB => lhs; whnf
  conv at eS => lhs; whnf
  subst eB; subst eS
  dsimp only [List.drop, List.take]
  obtain ⟨h, tk, m, T0, es, F2, N2, hP⟩ := hJ
  subst es
  obtain ⟨T1, D, Z, ah, ao, fka, G, M, m9, f1, f2, f3, f4⟩ := hP
  have V := G.V.mono G.hT1
  have hkl2 : D.kva.length ≤ 10 := by
    have h1 := congrArg List.length V.v7
    have h2 := menuH_len V.hH
    have h3 := menuX_len V.hX
    rw [List.length_map, List.length_append] at h1
    omega
  obtain ⟨nT, ksT, hT⟩ := V.typed
  have v1 := V.v1
  have v2 := V.v2
  have v3 := V.v3
  have v4 := V.v4
  have v5 := V.v5
  have v6 := V.v6
  have g0 := V.g0
  have g1 := V.g1
  have h3 := V.h3
  have htt := V.htt
  have m3 := M.M.m3
  have m4 := M.M.m4
  have m5 := M.M.m5
  obtain ⟨xd, lc, ld, op, es, nn, ec, ed, oo, cs, tt', w1, w2, w3, w4, w5, w6, w7, w8, w9, w10, w11, w12, w13, t1, t2, t3, t4, t5, t6, t7, hr, j1, j2, j3, j4, j5, j6, j7, j8, j9, j10, j11, j12, j13, j14, j15, j16, j17, j18, e1, e2, e3, e4, e5, e6, e7, e8, e9, e10, e11, e12, e13⟩ := hT
  clear e1 e2 e3 e4 e5 e6 e7 e8 e9 e10 e11 e12 e13 j4 j6 j7 j8 j9 j10 j11 j12 j13 j14 j15 j16 j17 j18
  clear V
  k_steps
  rename FlatsIn (_ ++ _) _ _ => hf9
  rename Apart _ _ => ap9
  rename Obj.IsDictOf _ _ (_ : List (Str × Value)) => hd9
  rename (_ == sysModules) = false => lo9
  have N9 := ‹News h₀ h₀.objs.size _ (_ :: (_ ++ _))›
  refine Hold.mk ?_
  refine flats_eq_K N9 (by k_mem) (by k_mem) hd9 f2 lo9 f3 (hf9.mono fun p hp => .tail _ hp) (f4.mono fun p hp => by k_mem) (by first | ktr_units | decide) (by first | ktr_units | decide) ?_
  k_steps
  rw [beq_self_eq_true nT]
  exact hRet _ ⟨_, _, _, rfl, by k_asm⟩
end
end Mine
end
theorem Mine.calm_SD : True := by (w_top off); exact True.intro
end
-- SE
section
namespace Mine
section
variable {w : World} {h₀ : Heap} {mean : ExcName → Option Value} {mg mb : Str → Option Value} {fa : Addr} {cd : Value} {s s₂ : Shared} {Q : Flow → Shared → Prop} {E : Value → Shared → Prop} {a n b : Nat} {J J' : World → Heap → Nat → Shared → Shared → Prop}
theorem Seg.go (S : Seg w a n J J') (e : b = a + n) (B : Below callerA h₀ [] h₀) (KX : (hd.heap_39 w.params).In h₀) (T : Top VW (looseW VW []) mean mg mb h₀)
    (rest : ∀ s₃, J' w h₀ h₀.objs.size s s₃ → wpAny (model PG w) (callerA.deeper (lawEnv h₀ fa cd)) (execs (lawBody.drop b) (lawEnv h₀ fa cd)) Q E s₃) (hJ : J w h₀ h₀.objs.size s s₂) :
    wpAny (model PG w) (callerA.deeper (lawEnv h₀ fa cd)) (execs (lawBody.drop a) (lawEnv h₀ fa cd)) Q E s₂ := by
  subst e
  refine execs_split n (J' w h₀ h₀.objs.size s) (S h₀ mean mg mb fa cd s s₂ _ E B KX T hJ fun _ h => h) fun s₃ h => ?_
  rw [List.drop_drop]
  exact rest s₃ h
theorem SegR.go (S : SegR w a n J J') (e : b = a + n) (B : Below callerA h₀ [] h₀) (KX : (hd.heap_39 w.params).In h₀) (T : Top VW (looseW VW []) mean mg mb h₀)
    (hRet : ∀ s₃, DoneAt h₀ h₀.objs.size s s₃ → Q (.ret (.bool true)) s₃)
    (rest : ∀ s₃, J' w h₀ h₀.objs.size s s₃ → wpAny (model PG w) (callerA.deeper (lawEnv h₀ fa cd)) (execs (lawBody.drop b) (lawEnv h₀ fa cd)) Q E s₃) (hJ : J w h₀ h₀.objs.size s s₂) :
    wpAny (model PG w) (callerA.deeper (lawEnv h₀ fa cd)) (execs (lawBody.drop a) (lawEnv h₀ fa cd)) Q E s₂ := by
  subst e
  refine execs_split n (J' w h₀ h₀.objs.size s) (S h₀ mean mg mb fa cd s s₂ _ E B KX T hJ (fun _ h => h) fun s₃ h => hRet s₃ h) fun s₃ h => ?_
  rw [List.drop_drop]
  exact rest s₃ h
/-- all that follows the law's first four statements -/
theorem law_rest (B : Below callerA h₀ [] h₀) (KX : (hd.heap_39 w.params).In h₀) (T : Top VW (looseW VW []) mean mg mb h₀) (hRet : ∀ s₃, DoneAt h₀ h₀.objs.size s s₃ → Q (.ret (.bool true)) s₃) (hJ : J0 w h₀ h₀.objs.size s s₂) :
    wpAny (model PG w) (callerA.deeper (lawEnv h₀ fa cd)) (execs (lawBody.drop 4) (lawEnv h₀ fa cd)) Q E s₂ :=
  (seg1 w).go (b := 7) rfl B KX T (fun _ h1 => (seg2 w).go (b := 9) rfl B KX T (fun _ h2 => (seg3 w).go (b := 10) rfl B KX T (fun _ h3 => (seg4 w).go (b := 12) rfl B KX T (fun _ h4 =>
    (seg5 w).go (b := 13) rfl B KX T (fun _ h5 => (seg6a w).go (b := 14) rfl B KX T (fun _ h6 => (seg6 w).go (b := 16) rfl B KX T (fun _ h7 => (seg7 w).go (b := 17) rfl B KX T (fun _ h8 =>
      (seg8 w).go (b := 18) rfl B KX T hRet (fun _ h9 => (seg9a w).go (b := 20) rfl B KX T (fun _ h10 => (seg9b w).go (b := 21) rfl B KX T (fun _ h11 => (seg10 w).go (b := 22) rfl B KX T (fun _ h12 =>
        (seg11 w).go (b := 23) rfl B KX T (fun _ h13 => (seg12 w).go (b := 24) rfl B KX T hRet (fun _ h14 => h14.elim) h13) h12) h11) h10) h9) h8) h7) h6) h5) h4) h3) h2) h1) hJ
end
end Mine
end
-- W1
section
namespace Mine
section
local macro_rules | `(tactic| k_mem) => `(tactic| ((fail_if_success (with_reducible show _ ∈ ([] : List (Addr × Obj)))); refine List.mem_append_left (α := Addr × Obj) _ ?_; k_mem))
local macro_rules | `(tactic| k_mem) => `(tactic| ((fail_if_success (with_reducible show _ ∈ ([] : List (Addr × Obj)))); refine List.mem_append_right (α := Addr × Obj) _ ?_; k_mem))
local macro_rules | `(tactic| k_mem) => `(tactic| assumption)
local macro_rules | `(tactic| k_get) => `(tactic| assumption)
local macro_rules | `(tactic| k_all) => `(tactic| first | assumption | exact ne_of_lt_all (by assumption))
local macro_rules | `(tactic| k_qdec) => `(tactic| decide +kernel)
set_option maxRecDepth 100000 in
set_option maxHeartbeats 8000000 in
theorem law0 : PySem.Challenge.rw_pp0004_01.Holds := by
  k_with_none
  k_with "call ref" => (k_here; (with_reducible show wpAny _ _ (call (Value.ref 204) [_, _]) _ _ _); k_dflt (refine' (type_spec _ _ _ _) _ _ _ _ _ _ _ _ _ _ _ _ _ _ _ _ _ _ _ _ ?Bₖ ?Fₖ ?Xₖ ?Nₖ ?Tₖ ?kkₖ ?ddₖ ?uuₖ ?_; (case Fₖ => k_asm); (case Nₖ => k_asm); (case Bₖ => k_asm); (case Xₖ => k_asm); (case Tₖ => k_asm); (case kkₖ => first | exact rfl | assumption); (case ddₖ => (first | ktr_room | decide)); (case uuₖ => (first | ktr_units | decide))); intro r'ₖ n'ₖ h'ₖ tk'ₖ F'ₖ N'ₖ hp'ₖ; obtain ⟨x'ₖ, d'ₖ, li'ₖ, sm'ₖ, ix'ₖ, di'ₖ, co'ₖ, op'ₖ, o'ₖ, l1'ₖ, l2'ₖ, ⟨l3a'ₖ, l3b'ₖ, l3'ₖ⟩, ⟨l4a'ₖ, l4b'ₖ, l4c'ₖ, l4'ₖ⟩, ⟨l5a'ₖ, l5b'ₖ, l5c'ₖ, l5d'ₖ, l5'ₖ⟩, ⟨l6a'ₖ, l6b'ₖ, l6c'ₖ, l6d'ₖ, l6e'ₖ, l6'ₖ⟩, ⟨l7a'ₖ, l7b'ₖ, l7c'ₖ, l7d'ₖ, l7e'ₖ, l7f'ₖ, l7'ₖ⟩, ⟨l8a'ₖ, l8b'ₖ, l8c'ₖ, l8d'ₖ, l8e'ₖ, l8f'ₖ, l8g'ₖ, l8'ₖ⟩, lo'ₖ, hs'ₖ, fs'ₖ, hi'ₖ, fi'ₖ⟩ := hp'ₖ; (try k_lt l1'ₖ); (replace l3'ₖ := allLt_of l3'ₖ); (try simp only [AllLt, and_true] at l3'ₖ); (replace l4'ₖ := allLt_of l4'ₖ); (try simp only [AllLt, and_true] at l4'ₖ); (replace l5'ₖ := allLt_of l5'ₖ); (try simp only [AllLt, and_true] at l5'ₖ); (replace l6'ₖ := allLt_of l6'ₖ); (try simp only [AllLt, and_true] at l6'ₖ); (replace l7'ₖ := allLt_of l7'ₖ); (try simp only [AllLt, and_true] at l7'ₖ); (replace l8'ₖ := allLt_of l8'ₖ); (try simp only [AllLt, and_true] at l8'ₖ); (try k_sweep))
  k_with "call ref" => (k_here; (with_reducible show wpAny _ _ (call (Value.ref _) [Value.ref _, Value.int _ _]) _ _ _); k_dflt (refine' (tell_K _ _ _ _ _ _ _ _ _ _ _ _ _ ?Uₖ ?slₖ ?hxₖ ?hlₖ ?i0ₖ ?i1ₖ ?m0ₖ ?m1ₖ ?hneₖ) _ _ _ _ _ _ _ _ _ _ _ _ _ _ _ _ _ _ _ _ ?Bₖ ?Fₖ ?Xₖ ?Nₖ ?Tₖ ?kkₖ ?ddₖ ?uuₖ ?_; (case Fₖ => k_asm); (case Nₖ => k_asm); (case Uₖ => k_updF); (case slₖ => k_mem); (case hxₖ => assumption); (case hlₖ => (first | assumption | omega)); (case i0ₖ => omega); (case i1ₖ => omega); (case m0ₖ => omega); (case m1ₖ => omega); (case hneₖ => (first | assumption | exact Nat.ne_of_gt (And.left (by assumption)))); (case Bₖ => k_asm); (case Xₖ => k_asm); (case Tₖ => k_asm); (case kkₖ => first | exact rfl | assumption); (case ddₖ => (first | ktr_room | decide)); (case uuₖ => (first | ktr_units | decide))); intro r'ₖ n'ₖ h'ₖ tk'ₖ F'ₖ N'ₖ hp'ₖ; obtain ⟨v'ₖ, t'ₖ, t2'ₖ, er'ₖ, hv0'ₖ, hv1'ₖ, en'ₖ⟩ := hp'ₖ; subst er'ₖ; subst en'ₖ; (try dsimp only at N'ₖ); (try k_sweep))
  k_with "subscriptTail" => (k_here; (with_reducible show wpAny _ _ (subscriptTail _ (PySem.Expr.Slice none (some _) none _) (Value.ref _) (Value.ref _)) _ _ _); k_dflt (refine kba_turn (value' := PySem.Expr.Name (PySem.Str.ofString "_") ⟨0, 0, 0, 0⟩) (fun _ => rfl) ?_; refine slice_strs (by k_asm) (by k_asm) (by k_mem) (by first | assumption | exact .cons _ _ (.cons _ _ (.cons _ _ .nil)) | exact .cons _ _ .nil) (by omega) ?_ (by with_unfolding_all rfl) (fun _ => rfl) (by first | assumption | (simp only [List.length_cons, List.length_nil]; omega) | omega)); intro D'ₖ h'ₖ zs'ₖ F'ₖ N'ₖ hz'ₖ hzl'ₖ l1ₖ; (try k_lt l1ₖ); (try k_sweep))
  k_with "subscriptTail List Slice ref ref" => (k_here; (with_reducible show wpAny _ _ (subscriptTail _ (PySem.Expr.Slice none (some _) none _) (Value.ref _) (Value.ref _)) _ _ _); k_dflt (refine kba_turn (value' := PySem.Expr.Name (PySem.Str.ofString "_") ⟨0, 0, 0, 0⟩) (fun _ => rfl) ?_; refine slice_strs (by k_asm) (by k_asm) (by k_mem) (by first | assumption | exact .cons _ _ (.cons _ _ (.cons _ _ .nil)) | exact .cons _ _ .nil) (by omega) ?_ (by with_unfolding_all rfl) (fun _ => rfl) (by first | assumption | (simp only [List.length_cons, List.length_nil]; omega) | omega)); intro D'ₖ h'ₖ zs'ₖ F'ₖ N'ₖ hz'ₖ hzl'ₖ l1ₖ; (try k_lt l1ₖ); (try k_sweep))
  k_with "subscriptTail Call Slice ref ref" => (k_here; (with_reducible show wpAny _ _ (subscriptTail _ (PySem.Expr.Slice none (some _) none _) (Value.ref _) (Value.ref _)) _ _ _); k_dflt (refine kba_turn (value' := PySem.Expr.Name (PySem.Str.ofString "_") ⟨0, 0, 0, 0⟩) (fun _ => rfl) ?_; refine slice_strs (by k_asm) (by k_asm) (by k_mem) (by first | assumption | exact .cons _ _ (.cons _ _ (.cons _ _ .nil)) | exact .cons _ _ .nil) (by omega) ?_ (by with_unfolding_all rfl) (fun _ => rfl) (by first | assumption | (simp only [List.length_cons, List.length_nil]; omega) | omega)); intro D'ₖ h'ₖ zs'ₖ F'ₖ N'ₖ hz'ₖ hzl'ₖ l1ₖ; (try k_lt l1ₖ); (try k_sweep))
  k_with "subscriptTail Name Slice ref ref" => (k_here; (with_reducible show wpAny _ _ (subscriptTail _ (PySem.Expr.Slice none (some _) none _) (Value.ref _) (Value.ref _)) _ _ _); k_dflt (refine kba_turn (value' := PySem.Expr.Name (PySem.Str.ofString "_") ⟨0, 0, 0, 0⟩) (fun _ => rfl) ?_; refine slice_strs (by k_asm) (by k_asm) (by k_mem) (by first | assumption | exact .cons _ _ (.cons _ _ (.cons _ _ .nil)) | exact .cons _ _ .nil) (by omega) ?_ (by with_unfolding_all rfl) (fun _ => rfl) (by first | assumption | (simp only [List.length_cons, List.length_nil]; omega) | omega)); intro D'ₖ h'ₖ zs'ₖ F'ₖ N'ₖ hz'ₖ hzl'ₖ l1ₖ; (try k_lt l1ₖ); (try k_sweep))
  k_with "subscriptTail Subscript Slice ref ref" => (k_here; (with_reducible show wpAny _ _ (subscriptTail _ (PySem.Expr.Slice none (some _) none _) (Value.ref _) (Value.ref _)) _ _ _); k_dflt (refine kba_turn (value' := PySem.Expr.Name (PySem.Str.ofString "_") ⟨0, 0, 0, 0⟩) (fun _ => rfl) ?_; refine slice_strs (by k_asm) (by k_asm) (by k_mem) (by first | assumption | exact .cons _ _ (.cons _ _ (.cons _ _ .nil)) | exact .cons _ _ .nil) (by omega) ?_ (by with_unfolding_all rfl) (fun _ => rfl) (by first | assumption | (simp only [List.length_cons, List.length_nil]; omega) | omega)); intro D'ₖ h'ₖ zs'ₖ F'ₖ N'ₖ hz'ₖ hzl'ₖ l1ₖ; (try k_lt l1ₖ); (try k_sweep))
  k_with "execs cons" => ((with_reducible show wpAny _ _ (execs (Stmt.Assign [PySem.Expr.Name (PySem.Str.ofString "knob") _] _ _ :: _) _) _ _ _); refine of_hold ?_)
  k_with "call ref" => (k_here; (with_reducible show wpAny _ _ (call (Value.ref 297) [Value.ref _]) _ _ _); k_dflt (refine' (rows_spec _ _ _ _ _ _ ?h1ₖ ?hsₖ ?hlₖ) _ _ _ _ _ _ _ _ _ _ _ _ _ _ _ _ _ _ _ _ ?Bₖ ?Fₖ ?Xₖ ?Nₖ ?Tₖ ?kkₖ ?ddₖ ?uuₖ ?_; (case Fₖ => k_asm); (case Nₖ => k_asm); (case h1ₖ => k_mem); (case hsₖ => assumption); (case hlₖ => first | assumption | omega); (case Bₖ => k_asm); (case Xₖ => k_asm); (case Tₖ => k_asm); (case kkₖ => first | exact rfl | assumption); (case ddₖ => (first | ktr_room | decide)); (case uuₖ => (first | ktr_units | decide))); intro r'ₖ n'ₖ h'ₖ tk'ₖ F'ₖ N'ₖ hp'ₖ; obtain ⟨g'ₖ, e'ₖ, tl'ₖ, rs'ₖ, er'ₖ, en'ₖ, hrs'ₖ, ap'ₖ⟩ := hp'ₖ; subst er'ₖ; subst en'ₖ; (try dsimp only at N'ₖ); (try k_sweep))
  k_with "call type:list" => (k_here; k_dflt (refine' list_copyK ?k1ₖ ?k2ₖ ?k3ₖ ?_ ?zₖ; (case k1ₖ => k_asm); (case k2ₖ => k_asm); (case k3ₖ => exact isList_led (by k_asm) (by k_mem)); (case zₖ => (simp only [List.size_toArray]; rw [sizeLine_eq]; (try rename RowsIn _ _ _ => hrzₖ; have hrz'ₖ := hrzₖ.len); (try rename StrsAre _ _ => hszₖ; have hsz'ₖ := StrsAre.length hszₖ); omega))); intro D'ₖ c'ₖ h'ₖ F'ₖ N'ₖ l1ₖ; (try k_lt l1ₖ); (try k_sweep))
  have hseed : Seed PySem.Challenge.rw_pp0004_01 hd.heap_39 := by k_fill; trivial
  clear hseed
  refine holds_law hd.said fun _ => ?_
  refine holds_open (r := PySem.Challenge.rw_pp0004_01.row) (q := VW) (loose := []) (Xt := hd.XT) (XP := XL VW []) (Yf := hd.HK.obs) (Ya := hd.HK.val) (YP := hd.HK.says) (N := 4990) hd.left (Hook.of hd.HK) (Hook.keeps hd.HK) (fun s e => xl_of s (Bool.and_eq_true_iff.mp e).1) XL.keeps (by rfl) (by rfl) (by rfl) (fun s e => recFacts_of (Bool.and_eq_true_iff.mp e).2) (by rfl) (row_said hd.said) hd.chains hd.bare ?hw ?hc
  case hw => w_witness2
  k_go0
  k_steps
  rename_i w s0 s1 mg mb G Y fa o pm doc ho hg KX X V GL T B TE TW w10 w9 M w8 w7 hcd ns hs hlay0 hL1 hr1 hl2 w5 w4 sa vs w1 hLs ra w1' r0 hIs hr hc1 hc K0 hD h1 tk1 F oc hright N0 X0
  refine Hold.mk ?_
  refine execs_split 4 (J0 w s1.heap s1.heap.objs.size s1) ?seg0 ?rest0
  case rest0 =>
    intro s2 hJ
    refine law_rest (h₀ := s1.heap) (by assumption) KX T ?ret hJ
    case ret =>
      rintro s3 ⟨h9, tk9, m9, rfl, F9⟩
      refine goodW_bool F9 hg (raisesW_false ?_) ?_
      · wrow_none_raised
      · wrow_post
  dsimp only [List.take]
  refine wpAny_execs_cons ?_
  k_steps
  have hcell := ‹Obj.data _ = Data.cell (some (Value.ref _))›
  have N9 := ‹News s1.heap s1.heap.objs.size _ _›
  rename Apart _ (_ :: _) => ap9
  (repeat ((with_reducible rename ((_ : Addr) < _ ∧ _) => hc); obtain ⟨_, _⟩ := hc))
  have hg9 := ap9 _ (.tail _ (.tail _ (.tail _ (.head _)))) _ (.head _)
  have kp9 := knob_pull2 [_, _, _, _, _, _, _, _, _, _, _, _] _ [_, _, _] [_, _] hcell N9
  obtain ⟨T9, N10, hT9, hin9⟩ := kp9 (by
    intro p hp
    simp only [List.mem_cons, List.not_mem_nil, or_false] at hp
    rcases hp with rfl | rfl | rfl | rfl | rfl | rfl | rfl | rfl | rfl | rfl | rfl | rfl
    all_goals first | exact Nat.ne_of_gt (allLt_mem (by assumption) (_, _) (List.mem_append_right _ (.tail _ (.tail _ (.tail _ (.head _)))))) | (refine Nat.ne_of_gt (Nat.lt_trans ?_ (by assumption)); exact allLt_mem (by assumption) (_, _) (List.mem_append_right _ (.tail _ (.tail _ (.tail _ (.head _)))))) | exact Ne.symm hg9) (fun p hp => Ne.symm (ap9 _ (.tail _ (.tail _ (.tail _ (.head _)))) p (.tail _ hp))) (by
    intro p hp
    simp only [List.mem_cons, List.not_mem_nil, or_false] at hp
    rcases hp with rfl | rfl | rfl <;> exact Nat.ne_of_gt (by assumption)) (by
    intro p hp
    simp only [List.mem_cons, List.not_mem_nil, or_false] at hp
    rcases hp with rfl | rfl <;> exact Nat.ne_of_lt (by assumption))
  clear kp9
  rename RowsIn _ _ _ => hr9
  rename StrsAre _ _ => hz9
  rename IntsAre _ (List.take 24 ns) => hx9
  refine' J0.mk _ _ _ _ _ _ _ _ _ _ _ _ T9 _ _ _ _ _ _ rfl (by k_asm) N10 ⟨hin9 _ (by k_mem) (ne_ints hx9), hx9, (by omega), ?_, hT9, hin9 _ (by k_mem) ?_, hcell⟩ (by omega) (by omega) (hin9 _ (by k_mem) (ne_strs hz9)) hz9 (by assumption) rfl (by omega) (by omega) ?_ ?_ ?_
  rotate_left
  · exact Nat.ne_of_gt (by assumption)
  · exact fun h => absurd (congrArg Prod.fst h) (Nat.ne_of_lt (by assumption))
  · ((try dsimp only); (repeat (first | exact if_pos rfl | refine (if_neg (by decide)).trans ?_)))
  · ((try dsimp only); (repeat (first | exact if_pos rfl | refine (if_neg (by decide)).trans ?_)))
  · refine' TypeIn.pull (TypeIn.mk _ _ _ _ _ _ _ _ _ _ _ _ _ _ _ _ _ _ _ _ _ _ _ _ (by k_mem) (by k_mem) ?_ ?_ ?_ ?_ ?_ (hr9.mono (fun p hp => by k_mem)) (by exact rfl) (by exact rfl) (by exact rfl) (by exact rfl) (by exact rfl) (by exact rfl) (by exact rfl) (by exact rfl) (by exact rfl) (by exact rfl) (by exact rfl) (by exact rfl) (by exact rfl) (by exact rfl) (by exact rfl) (by exact rfl) (by exact rfl) (by exact rfl) ?_ ?_ ?_ ?_ ?_ ?_ ?_ ?_ ?_ ?_ ?_ ?_ ?_) hin9
    any_goals ((with_reducible show _ ∈ _); k_mem)
    all_goals first | assumption | exact rfl
end
end Mine
end
theorem Mine.calm_W1 : True := by (w_top off); exact True.intro
set_option maxRecDepth 100000 in
set_option maxHeartbeats 8000000 in
theorem PySem.Challenge.cw_pp0004_01_holds : PySem.Challenge.rw_pp0004_01.Holds := by
  exact Mine.law0
