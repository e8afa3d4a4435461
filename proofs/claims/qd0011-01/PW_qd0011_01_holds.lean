import PyProof.Rows.All
import Wide.All
import OpenK.AllK
import Wide.FinOn
import PyProof.NeData
import PyProof.SetScanFacts
import PyProof.CollectWalk
import KE.KDictList
import KE.KSortTup
import PyProof.Rows.TupDisplay
import PyProof.DictRoadsH
import KE.KSuper
import PySem.Challenge.RW_qd0011_01
set_option Elab.async false
section
open PySem PySem.W PyProof.Rows
set_option Elab.async false
set_option maxRecDepth 100000
set_option maxHeartbeats 8000000
set_option linter.unusedVariables false
namespace Mine
/-! the heap behind the row's top, as far as the walk leans on it -/
noncomputable def topS (i : Nat) : Stmt := PySem.Challenge.pw_qd0011_01.main.body.getD i (.Pass ⟨0, 0, 0, 0⟩)
def clsB : Stmt → List Stmt
  | .ClassDef _ _ _ b _ _ _ _ _ _ _ => b
  | _ => []
noncomputable def topC (i j : Nat) : Stmt := (clsB (topS i)).getD j (.Pass ⟨0, 0, 0, 0⟩)
@[reducible] def withFn {α : Type} (s : Stmt) {n : Str} {a : Arguments} {b : List Stmt} {d : List Expr} {r : Option Expr} {t : List TypeParam} {sc : Scope} {ts : Option Scope} {bd : Str} {p : Pos} (_ : s = .FunctionDef n a b d r t sc ts bd p) (k : Arguments → List Stmt → Scope → α) : α := k a b sc
noncomputable def o2 (P : Params) : Obj := Obj.mk Value.none none (Data.dict #[]) #[]
noncomputable def o3 (P : Params) : Obj := Obj.mk (Value.type "dict") none (Data.dict #[DictEntry.mk (PyData.keyHash P (Str.ofString "__name__")) (Value.str (Str.ofString "__name__") 165) (Value.str (Str.ofString "law_qd0011_01") 406), DictEntry.mk (PyData.keyHash P (Str.ofString "__doc__")) (Value.str (Str.ofString "__doc__") 166) Value.none, DictEntry.mk (PyData.keyHash P (Str.ofString "__package__")) (Value.str (Str.ofString "__package__") 167) Value.none, DictEntry.mk (PyData.keyHash P (Str.ofString "__loader__")) (Value.str (Str.ofString "__loader__") 168) (Value.builtin "__main__.__loader__#opaque"), DictEntry.mk (PyData.keyHash P (Str.ofString "__spec__")) (Value.str (Str.ofString "__spec__") 169) Value.none, DictEntry.mk (PyData.keyHash P (Str.ofString "__annotations__")) (Value.str (Str.ofString "__annotations__") 170) (Value.ref 6), DictEntry.mk (PyData.keyHash P (Str.ofString "__builtins__")) (Value.str (Str.ofString "__builtins__") 171) (Value.ref 4), DictEntry.mk (PyData.keyHash P (Str.ofString "__file__")) (Value.str (Str.ofString "__file__") 173) (Value.str (Str.ofString "/claim/cut.py") 172), DictEntry.mk (PyData.keyHash P (Str.ofString "__cached__")) (Value.str (Str.ofString "__cached__") 174) Value.none, DictEntry.mk (PyData.keyHash P (Str.ofString "_wall")) (Value.str (Str.ofString "_wall") 193) (Value.ref 21), DictEntry.mk (PyData.keyHash P (Str.ofString "Propagator")) (Value.str (Str.ofString "Propagator") 250) (Value.ref 59), DictEntry.mk (PyData.keyHash P (Str.ofString "Regular")) (Value.str (Str.ofString "Regular") 405) (Value.ref 166), DictEntry.mk (PyData.keyHash P (Str.ofString "_law_take")) (Value.str (Str.ofString "_law_take") 416) (Value.ref 175), DictEntry.mk (PyData.keyHash P (Str.ofString "_law_words")) (Value.str (Str.ofString "_law_words") 422) (Value.ref 180), DictEntry.mk (PyData.keyHash P (Str.ofString "_law_states")) (Value.str (Str.ofString "_law_states") 433) (Value.ref 187), DictEntry.mk (PyData.keyHash P (Str.ofString "_law_ends")) (Value.str (Str.ofString "_law_ends") 443) (Value.ref 194), DictEntry.mk (PyData.keyHash P (Str.ofString "_law_can_end")) (Value.str (Str.ofString "_law_can_end") 449) (Value.ref 199), DictEntry.mk (PyData.keyHash P (Str.ofString "_law_turns")) (Value.str (Str.ofString "_law_turns") 455) (Value.ref 204), DictEntry.mk (PyData.keyHash P (Str.ofString "law")) (Value.str (Str.ofString "law") 461) (Value.ref 209)] 19) #[]
noncomputable def o15 (P : Params) : Obj := Obj.mk (Value.type "tuple") none (Data.seq #[]) #[]
noncomputable def o17 (P : Params) : Obj := Obj.mk (Value.type "tuple") none (Data.seq #[Value.str (Str.ofString "k") 190]) #[]
noncomputable def o18 (P : Params) : Obj := Obj.mk (Value.type "tuple") none (Data.seq #[]) #[]
noncomputable def o29 (P : Params) : Obj := Obj.mk (Value.type "tuple") none (Data.seq #[]) #[]
noncomputable def o31 (P : Params) : Obj := Obj.mk (Value.type "tuple") none (Data.seq #[Value.str (Str.ofString "self") 211, Value.str (Str.ofString "scope") 212, Value.str (Str.ofString "strength") 213]) #[]
noncomputable def o32 (P : Params) : Obj := Obj.mk (Value.type "tuple") none (Data.seq #[]) #[]
noncomputable def o34 (P : Params) : Obj := Obj.mk (Value.type "code") none (Data.fields #[Value.str (Str.ofString "__init__") 208, Value.str (Str.ofString "Propagator.__init__") 209, Value.str (Str.ofString "/claim/cut.py") 210, Value.int 7 0, Value.int 3 0, Value.int 0 0, Value.int 0 0, Value.int 3 0, Value.ref 29, Value.bool Bool.true, Value.int 181 0, Value.ref 30, Value.none, Value.ref 31, Value.ref 32, Value.ref 33, Value.int 214 0, Value.int 7 0, Value.str (Str.ofString "/claim/cut.py") 215]) #[]
noncomputable def o35 (P : Params) : Obj := withFn (topC 2 0) rfl fun a b sc => Obj.mk (Value.type "function") none (Data.func (FuncData.mk (Str.ofString "__init__") (Str.ofString "Propagator.__init__") a (FuncBody.stmts b) sc 3 [] Value.none Value.none Value.none (Value.str (Str.ofString "fdsolve.store") 194) none (Value.ref 34) Value.none 0)) #[]
noncomputable def o36 (P : Params) : Obj := Obj.mk (Value.type "tuple") none (Data.seq #[]) #[]
noncomputable def o38 (P : Params) : Obj := Obj.mk (Value.type "tuple") none (Data.seq #[Value.str (Str.ofString "self") 220, Value.str (Str.ofString "store") 221]) #[]
noncomputable def o39 (P : Params) : Obj := Obj.mk (Value.type "tuple") none (Data.seq #[]) #[]
noncomputable def o43 (P : Params) : Obj := Obj.mk (Value.type "tuple") none (Data.seq #[]) #[]
noncomputable def o45 (P : Params) : Obj := Obj.mk (Value.type "tuple") none (Data.seq #[Value.str (Str.ofString "self") 228, Value.str (Str.ofString "values") 229]) #[]
noncomputable def o46 (P : Params) : Obj := Obj.mk (Value.type "tuple") none (Data.seq #[]) #[]
noncomputable def o50 (P : Params) : Obj := Obj.mk (Value.type "tuple") none (Data.seq #[]) #[]
noncomputable def o52 (P : Params) : Obj := Obj.mk (Value.type "tuple") none (Data.seq #[Value.str (Str.ofString "self") 236]) #[]
noncomputable def o53 (P : Params) : Obj := Obj.mk (Value.type "tuple") none (Data.seq #[]) #[]
noncomputable def o57 (P : Params) : Obj := Obj.mk (Value.type "tuple") none (Data.seq #[Value.str (Str.ofString "number") 240, Value.str (Str.ofString "scope") 241, Value.str (Str.ofString "strength") 242]) #[]
noncomputable def o58 (P : Params) : Obj := Obj.mk (Value.type "dict") none (Data.dict #[DictEntry.mk (PyData.keyHash P (Str.ofString "__module__")) (Value.str (Str.ofString "__module__") 203) (Value.str (Str.ofString "fdsolve.store") 194), DictEntry.mk (PyData.keyHash P (Str.ofString "__firstlineno__")) (Value.str (Str.ofString "__firstlineno__") 207) (Value.int 5 206), DictEntry.mk (PyData.keyHash P (Str.ofString "__init__")) (Value.str (Str.ofString "__init__") 216) (Value.ref 35), DictEntry.mk (PyData.keyHash P (Str.ofString "propagate")) (Value.str (Str.ofString "propagate") 224) (Value.ref 42), DictEntry.mk (PyData.keyHash P (Str.ofString "check")) (Value.str (Str.ofString "check") 232) (Value.ref 49), DictEntry.mk (PyData.keyHash P (Str.ofString "told")) (Value.str (Str.ofString "told") 239) (Value.ref 56), DictEntry.mk (PyData.keyHash P (Str.ofString "__static_attributes__")) (Value.str (Str.ofString "__static_attributes__") 243) (Value.ref 57), DictEntry.mk (PyData.keyHash P (Str.ofString "__dict__")) (Value.str (Str.ofString "__dict__") 245) (Value.ref 60), DictEntry.mk (PyData.keyHash P (Str.ofString "__weakref__")) (Value.str (Str.ofString "__weakref__") 247) (Value.ref 61), DictEntry.mk (PyData.keyHash P (Str.ofString "__doc__")) (Value.str (Str.ofString "__doc__") 248) Value.none] 4) #[]
noncomputable def o59 (P : Params) : Obj := Obj.mk (Value.type "type") none (Data.cls (ClassData.mk (Str.ofString "Propagator") [Value.type "object"] [Value.ref 59, Value.type "object"] 58 (Str.ofString "Propagator") Bool.true [] [Value.ref 166] Bool.false none Bool.false)) #[none, none, some (Value.str (Str.ofString "Propagator") 196), some (Value.str (Str.ofString "Propagator") 204), some (Value.builtin "object.__new__"), some (Value.bool Bool.true)]
noncomputable def o60 (P : Params) : Obj := Obj.mk (Value.type "getset_descriptor") none (Data.fields #[Value.str (Str.ofString "__dict__") 244, Value.ref 59, Value.builtin "function.__dict__", Value.builtin "function.__dict__#set"]) #[]
noncomputable def o61 (P : Params) : Obj := Obj.mk (Value.type "getset_descriptor") none (Data.fields #[Value.str (Str.ofString "__weakref__") 246, Value.ref 59, Value.builtin "ExceptionGroup.__weakref__", Value.none]) #[]
noncomputable def o64 (P : Params) : Obj := Obj.mk (Value.type "tuple") none (Data.seq #[Value.ref 59]) #[]
noncomputable def o67 (P : Params) : Obj := Obj.mk (Value.type "cell") none (Data.cell (some (Value.ref 166))) #[]
noncomputable def o72 (P : Params) : Obj := Obj.mk (Value.type "tuple") none (Data.seq #[Value.ref 67]) #[]
noncomputable def o73 (P : Params) : Obj := Obj.mk (Value.type "tuple") none (Data.seq #[Value.str (Str.ofString "__class__") 268]) #[]
noncomputable def o75 (P : Params) : Obj := Obj.mk (Value.type "tuple") none (Data.seq #[Value.str (Str.ofString "self") 269, Value.str (Str.ofString "xs") 270, Value.str (Str.ofString "states") 271, Value.str (Str.ofString "letters") 272, Value.str (Str.ofString "rows") 273, Value.str (Str.ofString "start") 274, Value.str (Str.ofString "finals") 275]) #[]
noncomputable def o76 (P : Params) : Obj := Obj.mk (Value.type "tuple") none (Data.seq #[]) #[]
noncomputable def o78 (P : Params) : Obj := Obj.mk (Value.type "code") none (Data.fields #[Value.str (Str.ofString "__init__") 265, Value.str (Str.ofString "Regular.__init__") 266, Value.str (Str.ofString "/claim/cut.py") 267, Value.int 23 0, Value.int 7 0, Value.int 0 0, Value.int 0 0, Value.int 3 0, Value.ref 73, Value.bool Bool.true, Value.int 181 0, Value.ref 74, Value.none, Value.ref 75, Value.ref 76, Value.ref 77, Value.int 276 0, Value.int 23 0, Value.str (Str.ofString "/claim/cut.py") 277]) #[]
noncomputable def o79 (P : Params) : Obj := withFn (topC 4 0) rfl fun a b sc => Obj.mk (Value.type "function") none (Data.func (FuncData.mk (Str.ofString "__init__") (Str.ofString "Regular.__init__") a (FuncBody.stmts b) sc 3 [(Str.ofString "__class__", OfNat.ofNat 67)] Value.none Value.none Value.none (Value.str (Str.ofString "fdsolve.regular") 251) none (Value.ref 78) (Value.ref 72) 0)) #[]
noncomputable def o80 (P : Params) : Obj := Obj.mk (Value.type "tuple") none (Data.seq #[]) #[]
noncomputable def o82 (P : Params) : Obj := Obj.mk (Value.type "tuple") none (Data.seq #[Value.str (Str.ofString "self") 282]) #[]
noncomputable def o83 (P : Params) : Obj := Obj.mk (Value.type "tuple") none (Data.seq #[]) #[]
noncomputable def o87 (P : Params) : Obj := Obj.mk (Value.type "tuple") none (Data.seq #[]) #[]
noncomputable def o89 (P : Params) : Obj := Obj.mk (Value.type "tuple") none (Data.seq #[Value.str (Str.ofString "self") 289, Value.str (Str.ofString "numbers") 290]) #[]
noncomputable def o90 (P : Params) : Obj := Obj.mk (Value.type "tuple") none (Data.seq #[]) #[]
noncomputable def o94 (P : Params) : Obj := Obj.mk (Value.type "tuple") none (Data.seq #[]) #[]
noncomputable def o96 (P : Params) : Obj := Obj.mk (Value.type "tuple") none (Data.seq #[Value.str (Str.ofString "self") 297, Value.str (Str.ofString "kept") 298]) #[]
noncomputable def o97 (P : Params) : Obj := Obj.mk (Value.type "tuple") none (Data.seq #[]) #[]
noncomputable def o101 (P : Params) : Obj := Obj.mk (Value.type "tuple") none (Data.seq #[]) #[]
noncomputable def o103 (P : Params) : Obj := Obj.mk (Value.type "tuple") none (Data.seq #[Value.str (Str.ofString "self") 305, Value.str (Str.ofString "kept") 306]) #[]
noncomputable def o104 (P : Params) : Obj := Obj.mk (Value.type "tuple") none (Data.seq #[]) #[]
noncomputable def o108 (P : Params) : Obj := Obj.mk (Value.type "tuple") none (Data.seq #[]) #[]
noncomputable def o110 (P : Params) : Obj := Obj.mk (Value.type "tuple") none (Data.seq #[Value.str (Str.ofString "self") 313, Value.str (Str.ofString "kept") 314, Value.str (Str.ofString "alive") 315, Value.str (Str.ofString "spot") 316, Value.str (Str.ofString "some") 317, Value.str (Str.ofString "noted") 318, Value.str (Str.ofString "k") 319, Value.str (Str.ofString "late") 320, Value.str (Str.ofString "state") 321, Value.str (Str.ofString "a") 322, Value.str (Str.ofString "goal") 323]) #[]
noncomputable def o111 (P : Params) : Obj := Obj.mk (Value.type "tuple") none (Data.seq #[]) #[]
noncomputable def o113 (P : Params) : Obj := Obj.mk (Value.type "code") none (Data.fields #[Value.str (Str.ofString "note_dead") 310, Value.str (Str.ofString "Regular.note_dead") 311, Value.str (Str.ofString "/claim/cut.py") 312, Value.int 44 0, Value.int 6 0, Value.int 0 0, Value.int 0 0, Value.int 3 0, Value.ref 108, Value.bool Bool.true, Value.int 181 0, Value.ref 109, Value.none, Value.ref 110, Value.ref 111, Value.ref 112, Value.int 324 0, Value.int 44 0, Value.str (Str.ofString "/claim/cut.py") 325]) #[]
noncomputable def o114 (P : Params) : Obj := withFn (topC 4 5) rfl fun a b sc => Obj.mk (Value.type "function") none (Data.func (FuncData.mk (Str.ofString "note_dead") (Str.ofString "Regular.note_dead") a (FuncBody.stmts b) sc 3 [] Value.none Value.none Value.none (Value.str (Str.ofString "fdsolve.regular") 251) none (Value.ref 113) Value.none 0)) #[]
noncomputable def o115 (P : Params) : Obj := Obj.mk (Value.type "tuple") none (Data.seq #[]) #[]
noncomputable def o117 (P : Params) : Obj := Obj.mk (Value.type "tuple") none (Data.seq #[Value.str (Str.ofString "self") 330, Value.str (Str.ofString "reached") 331, Value.str (Str.ofString "spot") 332, Value.str (Str.ofString "some") 333, Value.str (Str.ofString "noted") 334]) #[]
noncomputable def o118 (P : Params) : Obj := Obj.mk (Value.type "tuple") none (Data.seq #[]) #[]
noncomputable def o122 (P : Params) : Obj := Obj.mk (Value.type "tuple") none (Data.seq #[]) #[]
noncomputable def o124 (P : Params) : Obj := Obj.mk (Value.type "tuple") none (Data.seq #[Value.str (Str.ofString "self") 341, Value.str (Str.ofString "store") 342, Value.str (Str.ofString "noted") 343]) #[]
noncomputable def o125 (P : Params) : Obj := Obj.mk (Value.type "tuple") none (Data.seq #[]) #[]
noncomputable def o129 (P : Params) : Obj := Obj.mk (Value.type "tuple") none (Data.seq #[]) #[]
noncomputable def o131 (P : Params) : Obj := Obj.mk (Value.type "tuple") none (Data.seq #[Value.str (Str.ofString "self") 350, Value.str (Str.ofString "store") 351, Value.str (Str.ofString "kept") 352, Value.str (Str.ofString "reached") 353, Value.str (Str.ofString "alive") 354, Value.str (Str.ofString "spot") 355, Value.str (Str.ofString "a") 356]) #[]
noncomputable def o132 (P : Params) : Obj := Obj.mk (Value.type "tuple") none (Data.seq #[]) #[]
noncomputable def o136 (P : Params) : Obj := Obj.mk (Value.type "tuple") none (Data.seq #[]) #[]
noncomputable def o138 (P : Params) : Obj := Obj.mk (Value.type "tuple") none (Data.seq #[Value.str (Str.ofString "self") 363, Value.str (Str.ofString "reached") 364, Value.str (Str.ofString "alive") 365, Value.str (Str.ofString "spot") 366, Value.str (Str.ofString "a") 367]) #[]
noncomputable def o139 (P : Params) : Obj := Obj.mk (Value.type "tuple") none (Data.seq #[]) #[]
noncomputable def o143 (P : Params) : Obj := Obj.mk (Value.type "tuple") none (Data.seq #[]) #[]
noncomputable def o145 (P : Params) : Obj := Obj.mk (Value.type "tuple") none (Data.seq #[Value.str (Str.ofString "self") 374, Value.str (Str.ofString "store") 375]) #[]
noncomputable def o146 (P : Params) : Obj := Obj.mk (Value.type "tuple") none (Data.seq #[]) #[]
noncomputable def o150 (P : Params) : Obj := Obj.mk (Value.type "tuple") none (Data.seq #[]) #[]
noncomputable def o152 (P : Params) : Obj := Obj.mk (Value.type "tuple") none (Data.seq #[Value.str (Str.ofString "self") 382, Value.str (Str.ofString "store") 383]) #[]
noncomputable def o153 (P : Params) : Obj := Obj.mk (Value.type "tuple") none (Data.seq #[]) #[]
noncomputable def o157 (P : Params) : Obj := Obj.mk (Value.type "tuple") none (Data.seq #[]) #[]
noncomputable def o159 (P : Params) : Obj := Obj.mk (Value.type "tuple") none (Data.seq #[Value.str (Str.ofString "self") 390, Value.str (Str.ofString "store") 391]) #[]
noncomputable def o160 (P : Params) : Obj := Obj.mk (Value.type "tuple") none (Data.seq #[]) #[]
noncomputable def o164 (P : Params) : Obj := Obj.mk (Value.type "tuple") none (Data.seq #[Value.str (Str.ofString "finals") 395, Value.str (Str.ofString "has_twins") 396, Value.str (Str.ofString "letters") 397, Value.str (Str.ofString "rows") 398, Value.str (Str.ofString "start") 399, Value.str (Str.ofString "states") 400]) #[]
noncomputable def o165 (P : Params) : Obj := Obj.mk (Value.type "dict") none (Data.dict #[DictEntry.mk (PyData.keyHash P (Str.ofString "__module__")) (Value.str (Str.ofString "__module__") 260) (Value.str (Str.ofString "fdsolve.regular") 251), DictEntry.mk (PyData.keyHash P (Str.ofString "__firstlineno__")) (Value.str (Str.ofString "__firstlineno__") 264) (Value.int 21 263), DictEntry.mk (PyData.keyHash P (Str.ofString "__init__")) (Value.str (Str.ofString "__init__") 278) (Value.ref 79), DictEntry.mk (PyData.keyHash P (Str.ofString "told")) (Value.str (Str.ofString "told") 285) (Value.ref 86), DictEntry.mk (PyData.keyHash P (Str.ofString "check")) (Value.str (Str.ofString "check") 293) (Value.ref 93), DictEntry.mk (PyData.keyHash P (Str.ofString "reached_of")) (Value.str (Str.ofString "reached_of") 301) (Value.ref 100), DictEntry.mk (PyData.keyHash P (Str.ofString "alive_of")) (Value.str (Str.ofString "alive_of") 309) (Value.ref 107), DictEntry.mk (PyData.keyHash P (Str.ofString "note_dead")) (Value.str (Str.ofString "note_dead") 326) (Value.ref 114), DictEntry.mk (PyData.keyHash P (Str.ofString "note_unreached")) (Value.str (Str.ofString "note_unreached") 337) (Value.ref 121), DictEntry.mk (PyData.keyHash P (Str.ofString "reasons_of")) (Value.str (Str.ofString "reasons_of") 346) (Value.ref 128), DictEntry.mk (PyData.keyHash P (Str.ofString "why_not")) (Value.str (Str.ofString "why_not") 359) (Value.ref 135), DictEntry.mk (PyData.keyHash P (Str.ofString "has_support")) (Value.str (Str.ofString "has_support") 370) (Value.ref 142), DictEntry.mk (PyData.keyHash P (Str.ofString "keep_letters")) (Value.str (Str.ofString "keep_letters") 378) (Value.ref 149), DictEntry.mk (PyData.keyHash P (Str.ofString "strike_round")) (Value.str (Str.ofString "strike_round") 386) (Value.ref 156), DictEntry.mk (PyData.keyHash P (Str.ofString "propagate")) (Value.str (Str.ofString "propagate") 394) (Value.ref 163), DictEntry.mk (PyData.keyHash P (Str.ofString "__static_attributes__")) (Value.str (Str.ofString "__static_attributes__") 401) (Value.ref 164), DictEntry.mk (PyData.keyHash P (Str.ofString "__doc__")) (Value.str (Str.ofString "__doc__") 403) Value.none] 3) #[]
noncomputable def o166 (P : Params) : Obj := Obj.mk (Value.type "type") none (Data.cls (ClassData.mk (Str.ofString "Regular") [Value.ref 59] [Value.ref 166, Value.ref 59, Value.type "object"] 165 (Str.ofString "Regular") Bool.true [] [] Bool.false none Bool.false)) #[some (Value.ref 64), none, some (Value.str (Str.ofString "Regular") 253), some (Value.str (Str.ofString "Regular") 261), some (Value.builtin "object.__new__"), some (Value.bool Bool.true)]
noncomputable def o169 (P : Params) : Obj := Obj.mk (Value.type "tuple") none (Data.seq #[]) #[]
noncomputable def o171 (P : Params) : Obj := Obj.mk (Value.type "tuple") none (Data.seq #[Value.str (Str.ofString "tape") 411, Value.str (Str.ofString "wide") 412, Value.str (Str.ofString "spot") 413]) #[]
noncomputable def o172 (P : Params) : Obj := Obj.mk (Value.type "tuple") none (Data.seq #[]) #[]
noncomputable def o174 (P : Params) : Obj := Obj.mk (Value.type "code") none (Data.fields #[Value.str (Str.ofString "_law_take") 408, Value.str (Str.ofString "_law_take") 409, Value.str (Str.ofString "/claim/cut.py") 410, Value.int 77 0, Value.int 2 0, Value.int 0 0, Value.int 0 0, Value.int 3 0, Value.ref 169, Value.bool Bool.true, Value.int 181 0, Value.ref 170, Value.none, Value.ref 171, Value.ref 172, Value.ref 173, Value.int 414 0, Value.int 77 0, Value.str (Str.ofString "/claim/cut.py") 415]) #[]
noncomputable def o175 (P : Params) : Obj := withFn (topS 6) rfl fun a b sc => Obj.mk (Value.type "function") none (Data.func (FuncData.mk (Str.ofString "_law_take") (Str.ofString "_law_take") a (FuncBody.stmts b) sc 3 [] Value.none Value.none Value.none (Value.str (Str.ofString "law_qd0011_01") 406) none (Value.ref 174) Value.none 0)) #[]
noncomputable def o176 (P : Params) : Obj := Obj.mk (Value.type "tuple") none (Data.seq #[]) #[]
noncomputable def o179 (P : Params) : Obj := Obj.mk (Value.type "code") none (Data.fields #[Value.str (Str.ofString "_law_words") 417, Value.str (Str.ofString "_law_words") 418, Value.str (Str.ofString "/claim/cut.py") 419, Value.int 83 0, Value.int 2 0, Value.int 0 0, Value.int 0 0, Value.int 3 0, Value.ref 176, Value.bool Bool.true, Value.int 181 0, Value.ref 177, Value.none, Value.none, Value.none, Value.ref 178, Value.int 420 0, Value.int 83 0, Value.str (Str.ofString "/claim/cut.py") 421]) #[]
noncomputable def o180 (P : Params) : Obj := withFn (topS 7) rfl fun a b sc => Obj.mk (Value.type "function") none (Data.func (FuncData.mk (Str.ofString "_law_words") (Str.ofString "_law_words") a (FuncBody.stmts b) sc 3 [] Value.none Value.none Value.none (Value.str (Str.ofString "law_qd0011_01") 406) none (Value.ref 179) Value.none 0)) #[]
noncomputable def o181 (P : Params) : Obj := Obj.mk (Value.type "tuple") none (Data.seq #[]) #[]
noncomputable def o183 (P : Params) : Obj := Obj.mk (Value.type "tuple") none (Data.seq #[Value.str (Str.ofString "moves") 426, Value.str (Str.ofString "state") 427, Value.str (Str.ofString "word") 428, Value.str (Str.ofString "met") 429, Value.str (Str.ofString "a") 430]) #[]
noncomputable def o184 (P : Params) : Obj := Obj.mk (Value.type "tuple") none (Data.seq #[]) #[]
noncomputable def o186 (P : Params) : Obj := Obj.mk (Value.type "code") none (Data.fields #[Value.str (Str.ofString "_law_states") 423, Value.str (Str.ofString "_law_states") 424, Value.str (Str.ofString "/claim/cut.py") 425, Value.int 88 0, Value.int 3 0, Value.int 0 0, Value.int 0 0, Value.int 3 0, Value.ref 181, Value.bool Bool.true, Value.int 181 0, Value.ref 182, Value.none, Value.ref 183, Value.ref 184, Value.ref 185, Value.int 431 0, Value.int 88 0, Value.str (Str.ofString "/claim/cut.py") 432]) #[]
noncomputable def o187 (P : Params) : Obj := withFn (topS 8) rfl fun a b sc => Obj.mk (Value.type "function") none (Data.func (FuncData.mk (Str.ofString "_law_states") (Str.ofString "_law_states") a (FuncBody.stmts b) sc 3 [] Value.none Value.none Value.none (Value.str (Str.ofString "law_qd0011_01") 406) none (Value.ref 186) Value.none 0)) #[]
noncomputable def o188 (P : Params) : Obj := Obj.mk (Value.type "tuple") none (Data.seq #[]) #[]
noncomputable def o190 (P : Params) : Obj := Obj.mk (Value.type "tuple") none (Data.seq #[Value.str (Str.ofString "moves") 437, Value.str (Str.ofString "finals") 438, Value.str (Str.ofString "state") 439, Value.str (Str.ofString "word") 440]) #[]
noncomputable def o191 (P : Params) : Obj := Obj.mk (Value.type "tuple") none (Data.seq #[]) #[]
noncomputable def o193 (P : Params) : Obj := Obj.mk (Value.type "code") none (Data.fields #[Value.str (Str.ofString "_law_ends") 434, Value.str (Str.ofString "_law_ends") 435, Value.str (Str.ofString "/claim/cut.py") 436, Value.int 95 0, Value.int 4 0, Value.int 0 0, Value.int 0 0, Value.int 3 0, Value.ref 188, Value.bool Bool.true, Value.int 181 0, Value.ref 189, Value.none, Value.ref 190, Value.ref 191, Value.ref 192, Value.int 441 0, Value.int 95 0, Value.str (Str.ofString "/claim/cut.py") 442]) #[]
noncomputable def o194 (P : Params) : Obj := withFn (topS 9) rfl fun a b sc => Obj.mk (Value.type "function") none (Data.func (FuncData.mk (Str.ofString "_law_ends") (Str.ofString "_law_ends") a (FuncBody.stmts b) sc 3 [] Value.none Value.none Value.none (Value.str (Str.ofString "law_qd0011_01") 406) none (Value.ref 193) Value.none 0)) #[]
noncomputable def o195 (P : Params) : Obj := Obj.mk (Value.type "tuple") none (Data.seq #[]) #[]
noncomputable def o198 (P : Params) : Obj := Obj.mk (Value.type "code") none (Data.fields #[Value.str (Str.ofString "_law_can_end") 444, Value.str (Str.ofString "_law_can_end") 445, Value.str (Str.ofString "/claim/cut.py") 446, Value.int 97 0, Value.int 5 0, Value.int 0 0, Value.int 0 0, Value.int 3 0, Value.ref 195, Value.bool Bool.true, Value.int 181 0, Value.ref 196, Value.none, Value.none, Value.none, Value.ref 197, Value.int 447 0, Value.int 97 0, Value.str (Str.ofString "/claim/cut.py") 448]) #[]
noncomputable def o199 (P : Params) : Obj := withFn (topS 10) rfl fun a b sc => Obj.mk (Value.type "function") none (Data.func (FuncData.mk (Str.ofString "_law_can_end") (Str.ofString "_law_can_end") a (FuncBody.stmts b) sc 3 [] Value.none Value.none Value.none (Value.str (Str.ofString "law_qd0011_01") 406) none (Value.ref 198) Value.none 0)) #[]
noncomputable def o200 (P : Params) : Obj := Obj.mk (Value.type "tuple") none (Data.seq #[]) #[]
noncomputable def o203 (P : Params) : Obj := Obj.mk (Value.type "code") none (Data.fields #[Value.str (Str.ofString "_law_turns") 450, Value.str (Str.ofString "_law_turns") 451, Value.str (Str.ofString "/claim/cut.py") 452, Value.int 103 0, Value.int 6 0, Value.int 0 0, Value.int 0 0, Value.int 3 0, Value.ref 200, Value.bool Bool.true, Value.int 181 0, Value.ref 201, Value.none, Value.none, Value.none, Value.ref 202, Value.int 453 0, Value.int 103 0, Value.str (Str.ofString "/claim/cut.py") 454]) #[]
noncomputable def o204 (P : Params) : Obj := withFn (topS 11) rfl fun a b sc => Obj.mk (Value.type "function") none (Data.func (FuncData.mk (Str.ofString "_law_turns") (Str.ofString "_law_turns") a (FuncBody.stmts b) sc 3 [] Value.none Value.none Value.none (Value.str (Str.ofString "law_qd0011_01") 406) none (Value.ref 203) Value.none 0)) #[]
noncomputable def o205 (P : Params) : Obj := Obj.mk (Value.type "tuple") none (Data.seq #[]) #[]
noncomputable def o208 (P : Params) : Obj := Obj.mk (Value.type "code") none (Data.fields #[Value.str (Str.ofString "law") 456, Value.str (Str.ofString "law") 457, Value.str (Str.ofString "/claim/cut.py") 458, Value.int 111 0, Value.int 1 0, Value.int 0 0, Value.int 0 0, Value.int 3 0, Value.ref 205, Value.bool Bool.true, Value.int 181 0, Value.ref 206, Value.none, Value.none, Value.none, Value.ref 207, Value.int 459 0, Value.int 111 0, Value.str (Str.ofString "/claim/cut.py") 460]) #[]
noncomputable def o209 (P : Params) : Obj := withFn (topS 12) rfl fun a b sc => Obj.mk (Value.type "function") none (Data.func (FuncData.mk (Str.ofString "law") (Str.ofString "law") a (FuncBody.stmts b) sc 3 [] Value.none Value.none Value.none (Value.str (Str.ofString "law_qd0011_01") 406) none (Value.ref 208) Value.none 0)) #[]
noncomputable def frag0 (P : Params) : Frag := [(2, o2 P), (3, o3 P), (15, o15 P), (17, o17 P), (18, o18 P), (29, o29 P), (31, o31 P), (32, o32 P), (34, o34 P), (35, o35 P), (36, o36 P), (38, o38 P)]
noncomputable def frag1 (P : Params) : Frag := [(39, o39 P), (43, o43 P), (45, o45 P), (46, o46 P), (50, o50 P), (52, o52 P), (53, o53 P), (57, o57 P), (58, o58 P), (59, o59 P), (60, o60 P), (61, o61 P)]
noncomputable def frag2 (P : Params) : Frag := [(64, o64 P), (67, o67 P), (72, o72 P), (73, o73 P), (75, o75 P), (76, o76 P), (78, o78 P), (79, o79 P), (80, o80 P), (82, o82 P), (83, o83 P), (87, o87 P)]
noncomputable def frag3 (P : Params) : Frag := [(89, o89 P), (90, o90 P), (94, o94 P), (96, o96 P), (97, o97 P), (101, o101 P), (103, o103 P), (104, o104 P), (108, o108 P), (110, o110 P), (111, o111 P), (113, o113 P)]
noncomputable def frag4 (P : Params) : Frag := [(114, o114 P), (115, o115 P), (117, o117 P), (118, o118 P), (122, o122 P), (124, o124 P), (125, o125 P), (129, o129 P), (131, o131 P), (132, o132 P), (136, o136 P), (138, o138 P)]
noncomputable def frag5 (P : Params) : Frag := [(139, o139 P), (143, o143 P), (145, o145 P), (146, o146 P), (150, o150 P), (152, o152 P), (153, o153 P), (157, o157 P), (159, o159 P), (160, o160 P), (164, o164 P), (165, o165 P)]
noncomputable def frag6 (P : Params) : Frag := [(166, o166 P), (169, o169 P), (171, o171 P), (172, o172 P), (174, o174 P), (175, o175 P), (176, o176 P), (179, o179 P), (180, o180 P), (181, o181 P), (183, o183 P), (184, o184 P)]
noncomputable def frag7 (P : Params) : Frag := [(186, o186 P), (187, o187 P), (188, o188 P), (190, o190 P), (191, o191 P), (193, o193 P), (194, o194 P), (195, o195 P), (198, o198 P), (199, o199 P), (200, o200 P), (203, o203 P)]
noncomputable def frag8 (P : Params) : Frag := [(204, o204 P), (205, o205 P), (208, o208 P), (209, o209 P)]
noncomputable def heapK (P : Params) : Frag := frag0 P ++ (frag1 P ++ (frag2 P ++ (frag3 P ++ (frag4 P ++ (frag5 P ++ (frag6 P ++ (frag7 P ++ (frag8 P))))))))
def heapAs : List Addr := [2, 3, 15, 17, 18, 29, 31, 32, 34, 35, 36, 38, 39, 43, 45, 46, 50, 52, 53, 57, 58, 59, 60, 61, 64, 67, 72, 73, 75, 76, 78, 79, 80, 82, 83, 87, 89, 90, 94, 96, 97, 101, 103, 104, 108, 110, 111, 113, 114, 115, 117, 118, 122, 124, 125, 129, 131, 132, 136, 138, 139, 143, 145, 146, 150, 152, 153, 157, 159, 160, 164, 165, 166, 169, 171, 172, 174, 175, 176, 179, 180, 181, 183, 184, 186, 187, 188, 190, 191, 193, 194, 195, 198, 199, 200, 203, 204, 205, 208, 209]
noncomputable def viewP : Program := { PySem.Challenge.pw_qd0011_01 with main := { PySem.Challenge.pw_qd0011_01.main with body := [topS 0, topS 2, topS 4, topS 6, topS 7, topS 8, topS 9, topS 10, topS 11, topS 12] } }
end Mine
end

section
open PySem PySem.W PyProof.Rows
set_option Elab.async false
set_option maxRecDepth 100000
set_option maxHeartbeats 8000000
namespace Mine
noncomputable abbrev hookK : Hook := kHook heapK heapAs (fun _ => by kernel_rfl)
def topRunT (tb : String → Option Builtin) (p : Program) (w : World) (n₀ : Nat) (ann : Option Value) : Nat → SharedT → Thread → Option SharedT
  | 0, _, _ => none
  | n + 1, s, t => match through t with
    | true => some s
    | false => match stepOk n₀ ann t with
      | false => none
      | true => match stepT (denote tb) p w s t with
        | some (s', t') => topRunT tb p w n₀ ann n s' t'
        | none => none
theorem topRun_of {tb : String → Option Builtin} {p : Program} {w : World} {n₀ : Nat} {ann : Option Value} : ∀ {n : Nat} {s s' : SharedT} {t : Thread}, topRunT tb p w n₀ ann n s t = some s' → topRun tb p w n₀ ann n s.abs t = some s'.abs
  | 0, _, _, _, h => by cases h
  | n + 1, s, s', t, h => by
    unfold topRunT at h
    unfold topRun
    cases he : through t with
    | true => rw [he] at h; cases h; rfl
    | false =>
      rw [he] at h
      cases hk : stepOk n₀ ann t with
      | false => rw [hk] at h; cases h
      | true =>
        rw [hk] at h
        cases hs : stepT (denote tb) p w s t with
        | none => rw [hs] at h; cases h
        | some r => obtain ⟨s₂, t₂⟩ := r; rw [hs] at h; rw [stepT_spec hs]; exact topRun_of h
/-- what is asked behind the run -/
def behindTop (p : Program) (h₀ : Heap) (s₁ : Shared) : Option Shared := match staticsOk (importedModules p.main.body) h₀ s₁.heap && namesBound p s₁.heap && gensDone s₁ && laidKept h₀ s₁.heap with
  | true => some s₁
  | false => none
theorem topFrom_of {β : Type} {p : Program} {w : World} {N n₀ : Nat} {ann : Option Value} {s₀ : SharedT} {F : Shared → β} {X : β} (h1 : (s₀.abs.heap.isNs mainGlobals && s₀.abs.gens.size == 0) = true) (h2 : s₀.abs.heap.objs.size = n₀) (h3 : s₀.abs.heap.nsMap mainGlobals "__annotations__" = ann)
    (h : ((topRunT treeTable p w n₀ ann N s₀ (topStub p)).bind fun s₁ => behindTop p s₀.abs.heap s₁.abs).map F = some X) : (topFrom treeTable p w N s₀.abs).map F = some X := by
  unfold topFrom
  rw [h1, h2, h3]
  cases hr : topRunT treeTable p w n₀ ann N s₀ (topStub p) with
  | none => rw [hr] at h; cases h
  | some s₁ =>
    rw [hr] at h
    rw [topRun_of hr]
    exact h
theorem left_boot {p q : Program} {loose : List Str} {Xt : Shared → Bool} {α : Type} {Yf : Shared → α} {Ya : World → α} {N : Nat} (e : opening p = plainProg p.main.scope.names) (hN : Nat.ble 600 N = true) (f : ∀ s, fenceModules? p s = some s)
    (h : ∀ (w : World) (os : OsState), (topFrom treeTable p w N ⟨boot_heap w.params, Array.mk [], boot_drawn, boot_toks, os⟩).map (fun s => (openSeen q loose (importedModules p.main.body) Xt true s, Yf s)) = some (openGood q loose, Ya w)) :
    LeftO p q loose Xt Yf Ya N := fun w => by
  obtain ⟨⟨hh, gs, d, k, os⟩, e1, e'⟩ := Option.map_eq_some_iff.mp (boot_open e hN f w)
  obtain ⟨rfl, rfl, rfl, rfl⟩ : hh = boot_heap w.params ∧ gs = Array.mk [] ∧ d = boot_drawn ∧ k = boot_toks := by simpa using e'
  unfold openEnds
  rw [e1]
  exact h w os
noncomputable def bootT (P : Params) : BT := ((boot_heap P).objs.toList.foldl (fun (x : BT × Nat) o => (x.1.ins x.2 o, x.2 + 1)) (BT.nil, 0)).1
noncomputable def bootS (w : World) (os : OsState) : SharedT := ⟨bootT w.params, (boot_heap w.params).objs.size, (boot_heap w.params).life, Array.mk [], boot_drawn, boot_toks, os⟩
theorem bootS_abs (w : World) (os : OsState) : (bootS w os).abs = ⟨boot_heap w.params, Array.mk [], boot_drawn, boot_toks, os⟩ := by kernel_rfl
def topRunG (st : SharedT → Thread → Option (SharedT × Thread)) (ok : Thread → Bool) : Nat → SharedT → Thread → Option SharedT
  | 0, _, _ => none
  | n + 1, s, t => match through t with
    | true => some s
    | false => match ok t with
      | false => none
      | true => match st s t with
        | some (s', t') => topRunG st ok n s' t'
        | none => none
theorem topRunT_eq {tb : String → Option Builtin} {p : Program} {w : World} {n₀ : Nat} {ann : Option Value} : ∀ (n : Nat) (s : SharedT) (t : Thread), topRunT tb p w n₀ ann n s t = topRunG (stepT (denote tb) p w) (stepOk n₀ ann) n s t
  | 0, _, _ => rfl
  | n + 1, s, t => by
    unfold topRunT topRunG
    cases through t with
    | true => rfl
    | false =>
      dsimp only
      cases stepOk n₀ ann t with
      | false => rfl
      | true =>
        dsimp only
        cases stepT (denote tb) p w s t with
        | none => rfl
        | some r => exact topRunT_eq n _ _
theorem bootS_size (w : World) (os : OsState) : (bootS w os).abs.heap.objs.size = 11 := by kernel_rfl
theorem bootS_ns (w : World) (os : OsState) : ((bootS w os).abs.heap.isNs mainGlobals && (bootS w os).abs.gens.size == 0) = true := by kernel_rfl
theorem bootS_ann (w : World) (os : OsState) : (bootS w os).abs.heap.nsMap mainGlobals "__annotations__" = some (.ref 6) := by kernel_rfl
end Mine
end

section
open PySem PySem.W PyProof.Rows PySem.Calls
set_option Elab.async false
set_option autoImplicit false
namespace Mine

abbrev PMap := Addr → Option Obj
def Le (g g' : PMap) : Prop := ∀ a o, g a = some o → g' a = some o
theorem Le.refl (g : PMap) : Le g g := fun _ _ h => h
theorem Le.trans {g g' g'' : PMap} (h : Le g g') (h' : Le g' g'') : Le g g'' := fun a o e => h' a o (h a o e)

structure GE (w : World) (mg mb : Str → Option Value) (h : Heap) : Prop where
  X : (heapK w.params).In h
  g : h.Ns mainGlobals mg
  b : h.Ns builtinsNs mb
  nolimit : h.NoLimit
  builtins : ∀ x : Str, x ≠ "__name__" → mb x = bootBuiltins x
theorem GE.keeps {w : World} {mg mb : Str → Option Value} {h h' : Heap} (G : GE w mg mb h) (hk : ∀ b o, h.get? b = some o → h'.get? b = some o) : GE w mg mb h' :=
  ⟨fun a o e => hk _ _ (G.X a o e), G.g.keeps hk, G.b.keeps hk, G.nolimit.keeps hk, G.builtins⟩

structure Pm where
  w : World
  mg : Str → Option Value
  mb : Str → Option Value
  h₀ : Heap
  O : OsState
  ge : GE w mg mb h₀

structure Res where
  fp : Addr → Prop
  P : Heap → Prop
  loc : ∀ h h', (∀ a o, fp a → h.get? a = some o → h'.get? a = some o) → P h → P h'
  dom : ∀ h, P h → ∀ a, fp a → ∃ o, h.get? a = some o

structure St (Γ : Pm) (g : PMap) (own : List Res) (s : Shared) : Prop where
  base : ∀ a o, Γ.h₀.get? a = some o → g a = some o
  keep : ∀ a o, g a = some o → s.heap.get? a = some o
  holds : ∀ (i : Nat) r, own[i]? = some r → r.P s.heap
  off : ∀ (i : Nat) r, own[i]? = some r → ∀ a, r.fp a → g a = none
  disj : ∀ (i j : Nat) r r', i ≠ j → own[i]? = some r → own[j]? = some r' → ∀ a, r.fp a → ¬ r'.fp a
  gens : s.gens = #[]
  os : s.os = Γ.O

section
variable {Γ : Pm} {g g' : PMap} {own : List Res} {s s' : Shared}

theorem St.ge (S : St Γ g own s) : GE Γ.w Γ.mg Γ.mb s.heap := Γ.ge.keeps fun b o e => S.keep b o (S.base b o e)

/-- every object kept: the state stands -/
theorem St.kept (S : St Γ g own s) (hk : ∀ b o, s.heap.get? b = some o → s'.heap.get? b = some o) (hg : s'.gens = s.gens) (ho : s'.os = s.os) : St Γ g own s' where
  base := S.base
  keep := fun a o e => hk a o (S.keep a o e)
  holds := fun i r hi => r.loc _ _ (fun a o _ e => hk a o e) (S.holds i r hi)
  off := S.off
  disj := S.disj
  gens := hg.trans S.gens
  os := ho.trans S.os
theorem St.toks (S : St Γ g own s) (n : Nat) : St Γ g own { s with toks := n } := S.kept (fun _ _ e => e) rfl rfl

theorem St.lt (S : St Γ g own s) {i : Nat} {r : Res} (hi : own[i]? = some r) {a : Addr} (ha : r.fp a) : a < s.heap.objs.size :=
  let ⟨_, e⟩ := r.dom _ (S.holds i r hi) a ha; Heap.lt_size e

theorem St.cons (S : St Γ g own s) {r : Res} (hk : ∀ b o, s.heap.get? b = some o → s'.heap.get? b = some o) (hg : s'.gens = s.gens) (ho : s'.os = s.os)
    (hr : r.P s'.heap) (hf : ∀ a, r.fp a → s.heap.objs.size ≤ a) : St Γ g (r :: own) s' := by
  have S' : St Γ g own s' := S.kept hk hg ho
  refine ⟨S'.base, S'.keep, fun i r' hi => ?_, fun i r' hi a ha => ?_, fun i j r1 r2 hij h1 h2 a ha hb => ?_, S'.gens, S'.os⟩
  · cases i with
    | zero => simp at hi; subst hi; exact hr
    | succ i => exact S'.holds i r' (by simpa using hi)
  · cases i with
    | zero =>
      simp at hi; subst hi
      cases e : g a with
      | none => rfl
      | some o => exact absurd (Heap.lt_size (S.keep a o e)) (Nat.not_lt.mpr (hf a ha))
    | succ i => exact S'.off i r' (by simpa using hi) a ha
  · cases i with
    | zero =>
      cases j with
      | zero => exact hij rfl
      | succ j =>
        simp at h1; subst h1
        exact absurd (S.lt (i := j) (by simpa using h2) hb) (Nat.not_lt.mpr (hf a ha))
    | succ i =>
      cases j with
      | zero =>
        simp at h2; subst h2
        exact absurd (S.lt (i := i) (by simpa using h1) ha) (Nat.not_lt.mpr (hf a hb))
      | succ j => exact S'.disj i j r1 r2 (by omega) (by simpa using h1) (by simpa using h2) a ha hb

theorem St.drop {r : Res} (S : St Γ g (r :: own) s) : St Γ g own s where
  base := S.base
  keep := S.keep
  holds := fun i r hi => S.holds (i + 1) r (by simpa using hi)
  off := fun i r hi => S.off (i + 1) r (by simpa using hi)
  disj := fun i j r r' hij hi hj => S.disj (i + 1) (j + 1) r r' (by omega) (by simpa using hi) (by simpa using hj)
  gens := S.gens
  os := S.os

theorem get_set {α : Type} {l : List α} {i j : Nat} {x y : α} (h : (l.set i x)[j]? = some y) : (i = j ∧ y = x) ∨ (i ≠ j ∧ l[j]? = some y) := by
  rw [List.getElem?_set] at h
  by_cases hij : i = j
  · rw [if_pos hij] at h
    split at h
    · exact .inl ⟨hij, (Option.some.inj h).symm⟩
    · cases h
  · rw [if_neg hij] at h; exact .inr ⟨hij, h⟩

/-- one resource turned, all else kept -/
theorem St.set (S : St Γ g own s) (i : Nat) {r : Res} (r' : Res) (hi : own[i]? = some r) (hf : ∀ a, r'.fp a → r.fp a)
    (hk : ∀ b o, ¬ r.fp b → s.heap.get? b = some o → s'.heap.get? b = some o) (hr : r'.P s'.heap) (hg : s'.gens = s.gens) (ho : s'.os = s.os) : St Γ g (own.set i r') s' where
  base := S.base
  keep := fun a o e => hk a o (fun h => by rw [S.off i r hi a h] at e; cases e) (S.keep a o e)
  holds := fun j r2 hj => by
    rcases get_set hj with ⟨rfl, rfl⟩ | ⟨hne, hj'⟩
    · exact hr
    · exact r2.loc _ _ (fun a o ha e => hk a o (fun h => S.disj j i r2 r (Ne.symm hne) hj' hi a ha h) e) (S.holds j r2 hj')
  off := fun j r2 hj a ha => by
    rcases get_set hj with ⟨rfl, rfl⟩ | ⟨_, hj'⟩
    · exact S.off _ r hi a (hf a ha)
    · exact S.off j r2 hj' a ha
  disj := fun j k r2 r3 hjk hj hk' a ha hb => by
    rcases get_set hj with ⟨rfl, rfl⟩ | ⟨h1, hj'⟩
    · rcases get_set hk' with ⟨rfl, rfl⟩ | ⟨_, hk''⟩
      · exact hjk rfl
      · exact S.disj _ _ _ _ hjk hi hk'' a (hf a ha) hb
    · rcases get_set hk' with ⟨rfl, rfl⟩ | ⟨_, hk''⟩
      · exact S.disj _ _ _ _ hjk hj' hi a ha (hf a hb)
      · exact S.disj _ _ _ _ hjk hj' hk'' a ha hb
  gens := hg.trans S.gens
  os := ho.trans S.os

/-- a resource said in another way (the same or a smaller footprint) -/
theorem St.turn (S : St Γ g own s) (i : Nat) {r : Res} (r' : Res) (hi : own[i]? = some r) (hf : ∀ a, r'.fp a → r.fp a) (hr : r.P s.heap → r'.P s.heap) : St Γ g (own.set i r') s :=
  S.set i r' hi hf (fun _ _ _ e => e) (hr (S.holds i r hi)) rfl rfl

def rObj (a : Addr) (o : Obj) : Res where
  fp := fun b => b = a
  P := fun h => h.get? a = some o
  loc := fun _ _ hk e => hk a o rfl e
  dom := fun _ e b hb => ⟨o, hb ▸ e⟩

def PMap.ins (g : PMap) (a : Addr) (o : Obj) : PMap := fun b => if b = a then some o else g b
theorem le_ins {a : Addr} {o : Obj} (h : g a = none) : Le g (PMap.ins g a o) := fun b o' e => by
  unfold PMap.ins
  by_cases hb : b = a
  · subst hb; rw [h] at e; cases e
  · rw [if_neg hb]; exact e
theorem ins_self {a : Addr} {o : Obj} : PMap.ins g a o a = some o := by unfold PMap.ins; rw [if_pos rfl]

theorem St.alloc (S : St Γ g own s) (o : Obj) (hf : o.isFreed = false := by rfl) : St Γ g (rObj s.heap.objs.size o :: own) { s with heap := s.heap.push o } :=
  S.cons (fun _ _ e => Heap.get?_push_of_some _ e) rfl rfl (Heap.get?_push_size _ hf) (fun _ ha => Nat.le_of_eq ha.symm)

/-- the head object goes into the base -/
theorem St.rest {a : Addr} {o : Obj} (S : St Γ g (rObj a o :: own) s) : Le g (g.ins a o) ∧ St Γ (g.ins a o) own s := by
  have hn : g a = none := S.off 0 _ rfl a rfl
  refine ⟨le_ins hn, fun b o' e => le_ins hn b o' (S.base b o' e), fun b o' e => ?_, S.drop.holds, fun i r hi b hb => ?_, S.drop.disj, S.gens, S.os⟩
  · unfold PMap.ins at e
    by_cases hb : b = a
    · rw [if_pos hb] at e; cases e; subst hb; exact S.holds 0 _ rfl
    · rw [if_neg hb] at e; exact S.keep b o' e
  · have hba : b ≠ a := fun q => S.disj 0 (i + 1) _ r (by omega) rfl (by simpa using hi) b q hb
    unfold PMap.ins
    rw [if_neg hba]; exact S.drop.off i r hi b hb

/-- an object of the list goes into the base -/
theorem St.restAt (S : St Γ g own s) (i : Nat) {a : Addr} {o : Obj} (hi : own[i]? = some (rObj a o)) : Le g (g.ins a o) ∧ St Γ (g.ins a o) (own.eraseIdx i) s := by
  have hn : g a = none := S.off i _ hi a rfl
  have ge : ∀ {j : Nat} {r : Res}, (own.eraseIdx i)[j]? = some r → ∃ k, k ≠ i ∧ own[k]? = some r ∧ k = (if j < i then j else j + 1) := fun {j r} h => by
    rw [List.getElem?_eraseIdx] at h
    by_cases hji : j < i
    · rw [if_pos hji] at h; exact ⟨j, by omega, h, by rw [if_pos hji]⟩
    · rw [if_neg hji] at h; exact ⟨j + 1, by omega, h, by rw [if_neg hji]⟩
  refine ⟨le_ins hn, fun b o' e => le_ins hn b o' (S.base b o' e), fun b o' e => ?_, fun j r hj => ?_, fun j r hj b hb => ?_, fun j k r r' hjk hj hk b hb hb' => ?_, S.gens, S.os⟩
  · unfold PMap.ins at e
    by_cases hb : b = a
    · rw [if_pos hb] at e; cases e; subst hb; exact S.holds i _ hi
    · rw [if_neg hb] at e; exact S.keep b o' e
  · obtain ⟨k, _, hk, _⟩ := ge hj; exact S.holds k r hk
  · obtain ⟨k, hki, hk, _⟩ := ge hj
    have hba : b ≠ a := fun q => S.disj i k _ r (Ne.symm hki) hi hk b q hb
    unfold PMap.ins
    rw [if_neg hba]; exact S.off k r hk b hb
  · obtain ⟨k1, _, h1, e1⟩ := ge hj
    obtain ⟨k2, _, h2, e2⟩ := ge hk
    refine S.disj k1 k2 r r' ?_ h1 h2 b hb hb'
    rw [e1, e2]; split <;> split <;> omega

theorem St.load (S : St Γ g own s) {i : Nat} {a : Addr} {o : Obj} (hi : own[i]? = some (rObj a o)) : s.heap.get? a = some o := S.holds i _ hi
theorem St.lookup (S : St Γ g own s) {f : Addr} {o : Obj} (h : (heapK Γ.w.params).lookup f = some o) : s.heap.get? f = some o := S.ge.X f o h
theorem St.lookupG (S : St Γ g own s) {f : Addr} {o : Obj} (h : (heapK Γ.w.params).lookup f = some o) : g f = some o := S.base _ _ (Γ.ge.X f o h)
end

/-! values -/
inductive All2 {α β : Type} (R : α → β → Prop) : List α → List β → Prop
  | nil : All2 R [] []
  | cons {a b l l'} : R a b → All2 R l l' → All2 R (a :: l) (b :: l')
namespace All2
variable {α β : Type} {R R' : α → β → Prop}
theorem length {l : List α} {l' : List β} (h : All2 R l l') : l.length = l'.length := by induction h with | nil => rfl | cons _ _ ih => simp [ih]
theorem imp {l : List α} {l' : List β} (h : All2 R l l') (hi : ∀ a b, R a b → R' a b) : All2 R' l l' := by induction h with | nil => exact .nil | cons h _ ih => exact .cons (hi _ _ h) ih
theorem get {l : List α} {l' : List β} (h : All2 R l l') : ∀ {i : Nat} {b : β}, l'[i]? = some b → ∃ a, l[i]? = some a ∧ R a b := by
  induction h with
  | nil => intro i b h; simp at h
  | cons h _ ih =>
    intro i b hb
    cases i with
    | zero => simp at hb; subst hb; exact ⟨_, rfl, h⟩
    | succ i => simpa using ih (by simpa using hb)
theorem get' {l : List α} {l' : List β} (h : All2 R l l') : ∀ {i : Nat} {a : α}, l[i]? = some a → ∃ b, l'[i]? = some b ∧ R a b := by
  induction h with
  | nil => intro i b h; simp at h
  | cons h _ ih =>
    intro i b hb
    cases i with
    | zero => simp at hb; subst hb; exact ⟨_, rfl, h⟩
    | succ i => simpa using ih (by simpa using hb)
theorem append {l₁ l₂ : List α} {l₁' l₂' : List β} (h : All2 R l₁ l₁') (h' : All2 R l₂ l₂') : All2 R (l₁ ++ l₂) (l₁' ++ l₂') := by
  induction h with | nil => exact h' | cons h _ ih => exact .cons h ih
theorem snoc {l : List α} {l' : List β} {a : α} {b : β} (h : All2 R l l') (hr : R a b) : All2 R (l ++ [a]) (l' ++ [b]) := h.append (.cons hr .nil)
theorem take {l : List α} {l' : List β} (h : All2 R l l') : ∀ n, All2 R (l.take n) (l'.take n) := by
  induction h with
  | nil => intro n; simp; exact .nil
  | cons h _ ih => intro n; cases n with
    | zero => exact .nil
    | succ n => exact .cons h (ih n)
end All2

structure Rep (α : Type) where
  at' : PMap → Value → α → Prop
  mono : ∀ {g g' : PMap} {v : Value} {x : α}, Le g g' → at' g v x → at' g' v x

abbrev lstObj (vs : List Value) (n : Nat) : Obj := { cls := .type "list", data := .seq vs.toArray n }
abbrev tupObj (vs : List Value) (n : Nat) : Obj := { cls := .type "tuple", data := .seq vs.toArray n }

def rInt : Rep Int := ⟨fun _ v x => ∃ t, v = .int x t, fun _ h => h⟩
def rBool : Rep Bool := ⟨fun _ v b => v = .bool b, fun _ h => h⟩
inductive LstAt {α : Type} (R : Rep α) (g : PMap) (v : Value) (l : List α) : Prop
  | mk (a : Addr) (vs : List Value) (n : Nat) (e : v = .ref a) (hg : g a = some (lstObj vs n)) (hr : All2 (R.at' g) vs l)
def rLst {α : Type} (R : Rep α) : Rep (List α) :=
  ⟨fun g v l => LstAt R g v l,
   fun hl ⟨a, vs, n, e, h, r⟩ => ⟨a, vs, n, e, hl _ _ h, r.imp fun _ _ q => R.mono hl q⟩⟩
inductive TupAt {α : Type} (R : Rep α) (g : PMap) (v : Value) (l : List α) : Prop
  | mk (a : Addr) (vs : List Value) (n : Nat) (e : v = .ref a) (hg : g a = some (tupObj vs n)) (hr : All2 (R.at' g) vs l)
def rTup {α : Type} (R : Rep α) : Rep (List α) :=
  ⟨fun g v l => TupAt R g v l,
   fun hl ⟨a, vs, n, e, h, r⟩ => ⟨a, vs, n, e, hl _ _ h, r.imp fun _ _ q => R.mono hl q⟩⟩

/-! rooms -/
def Room (A : Around) (n : Nat) : Prop := A.handled = none ∧ A.depth + n ≤ 900 ∧ A.units + 20 * n ≤ 9800
theorem Room.le {A : Around} {n m : Nat} (h : Room A n) (hm : m ≤ n := by omega) : Room A m := ⟨h.1, by have := h.2.1; omega, by have := h.2.2; omega⟩
theorem Room.deeper {A : Around} {n : Nat} (h : Room A (n + 1)) (env : Env) : Room (A.deeper env) n := ⟨h.1, by have := h.2.1; show A.depth + 1 + n ≤ _; omega, by have := h.2.2; show A.units + 3 + _ ≤ _; omega⟩
theorem Room.in1 {A : Around} {n : Nat} (h : Room A (n + 1)) : Room A.in1 n := ⟨h.1, by have := h.2.1; show A.depth + n ≤ _; omega, by have := h.2.2; show A.units + 1 + _ ≤ _; omega⟩
theorem Room.lim {A : Around} {n : Nat} (h : Room A n) : A.depth < recursionLimit := by have := h.2.1; unfold recursionLimit; omega
theorem Room.units {A : Around} {n : Nat} (h : Room A (n + 1)) : A.units + 10 < cLine := by have := h.2.2; unfold cLine; omega
theorem room_mark (A : Around) : A.mark none = A := by cases A; rfl
theorem room_caller : Room callerA 400 := ⟨rfl, by decide, by decide⟩

/-! variables -/
structure VarsP (L : Addr) (cs : List (Str × Addr)) (m : Str → Option Value) (h : Heap) : Prop where
  ns : ∃ ml, h.Ns L ml ∧ ∀ x v, m x = some v → cs.lookup x = none → ml x = some v
  cell : ∀ x c, cs.lookup x = some c → ∃ ov, h.IsCell c ov ∧ ∀ v, m x = some v → ov = some v
  apart : ∀ x y c, cs.lookup x = some c → cs.lookup y = some c → x = y
  ne : ∀ x c, cs.lookup x = some c → c ≠ L

def rVars (L : Addr) (cs : List (Str × Addr)) (m : Str → Option Value) : Res where
  fp := fun a => a = L ∨ ∃ x, cs.lookup x = some a
  P := VarsP L cs m
  loc := fun h h' hk V => ⟨let ⟨ml, ⟨o, es, ep, ho, r⟩, k⟩ := V.ns; ⟨ml, ⟨o, es, ep, hk _ _ (.inl rfl) ho, r⟩, k⟩,
    fun x c hc => let ⟨ov, ⟨o, ho, hd⟩, k⟩ := V.cell x c hc; ⟨ov, ⟨o, hk _ _ (.inr ⟨x, hc⟩) ho, hd⟩, k⟩, V.apart, V.ne⟩
  dom := fun h V a ha => by
    rcases ha with rfl | ⟨x, hx⟩
    · obtain ⟨_, ⟨o, _, _, ho, _⟩, _⟩ := V.ns; exact ⟨o, ho⟩
    · obtain ⟨_, ⟨o, ho, _⟩, _⟩ := V.cell x a hx; exact ⟨o, ho⟩

def upd (m : Str → Option Value) (x : Str) (v : Value) : Str → Option Value := fun y => if y = x then some v else m y
theorem upd_self {m : Str → Option Value} {x : Str} {v : Value} : upd m x v x = some v := by unfold upd; rw [if_pos rfl]
theorem upd_ne {m : Str → Option Value} {x y : Str} {v w : Value} (hn : y ≠ x) (h : m y = some w) : upd m x v y = some w := by unfold upd; rw [if_neg hn]; exact h

theorem VarsP.sub {L : Addr} {cs : List (Str × Addr)} {m m' : Str → Option Value} {h : Heap} (V : VarsP L cs m h) (hm : ∀ x v, m' x = some v → m x = some v) : VarsP L cs m' h :=
  ⟨let ⟨ml, a, b⟩ := V.ns; ⟨ml, a, fun x v e => b x v (hm x v e)⟩, fun x c hc => let ⟨ov, a, b⟩ := V.cell x c hc; ⟨ov, a, fun v e => b v (hm x v e)⟩, V.apart, V.ne⟩

section
variable {prog : Program} {Γ : Pm} {g : PMap} {own : List Res} {s : Shared} {A : Around} {E : Value → Shared → Prop} {env : Env} {L : Addr} {cs : List (Str × Addr)} {m : Str → Option Value}
  {x : Str} {v : Value} {pos : Pos}

theorem ev_local {i : Nat} {Q : Value → Shared → Prop} (S : St Γ g own s) (hi : own[i]? = some (rVars env.locals cs m)) (hv : m x = some v) (h : Q v s)
    (hc : cs.lookup x = none := by rfl) (hk : env.scope.kind = .function := by rfl) (hl : env.kindOf x = some .local := by rfl) (hd : (x == ("__debug__" : Str)) = false := by decide) :
    wpAny (model prog Γ.w) A (eval (.Name x pos) env) Q E s := by
  obtain ⟨ml, hn, hm⟩ := (S.holds i _ hi).ns
  exact wpAny_Name (wpAny_loadName_local hk hl hn (hm x v hv hc) h) hd

theorem ev_cell {i : Nat} {c : Addr} {Q : Value → Shared → Prop} (S : St Γ g own s) (hi : own[i]? = some (rVars L cs m)) (hv : m x = some v) (hc : cs.lookup x = some c) (h : Q v s)
    (he : env.cells.lookup x = some c := by rfl) (hk : env.scope.kind = .function := by rfl) (hl : env.kindOf x = some .cell := by rfl) (hd : (x == ("__debug__" : Str)) = false := by decide) :
    wpAny (model prog Γ.w) A (eval (.Name x pos) env) Q E s := by
  obtain ⟨ov, hic, hm⟩ := (S.holds i _ hi).cell x c hc
  exact wpAny_Name (wpAny_loadName_cell hk hl he (hm v hv ▸ hic) h) hd

theorem ev_global {Q : Value → Shared → Prop} (S : St Γ g own s) (e : nsIn (heapK Γ.w.params) mainGlobals x = some (some v)) (h : Q v s)
    (hk : env.scope.kind = .function := by rfl) (hx : env.kindOf x = some .globalImplicit := by rfl) (hgl : env.globals = mainGlobals := by rfl) (hd : (x == ("__debug__" : Str)) = false := by decide) :
    wpAny (model prog Γ.w) A (eval (.Name x pos) env) Q E s :=
  have G := S.ge
  Name_function_global hk hx (loadGlobal_global (env := env) (hgl ▸ G.g) (mg_of G.X G.g e) h) hd
theorem ev_builtin {Q : Value → Shared → Prop} (S : St Γ g own s) (e : nsIn (heapK Γ.w.params) mainGlobals x = some none) (hv : bootBuiltins x = some v) (hn : x ≠ "__name__") (h : Q v s)
    (hk : env.scope.kind = .function := by rfl) (hx : env.kindOf x = some .globalImplicit := by rfl) (hgl : env.globals = mainGlobals := by rfl) (hb : env.builtins = builtinsNs := by rfl)
    (hd : (x == ("__debug__" : Str)) = false := by decide) :
    wpAny (model prog Γ.w) A (eval (.Name x pos) env) Q E s :=
  have G := S.ge
  Name_function_global hk hx (loadGlobal_builtin (env := env) (hgl ▸ G.g) (mg_none_of G.X G.g e) (hb ▸ G.b) ((G.builtins x hn).trans hv) h) hd

theorem st_local {i : Nat} {Q : Unit → Shared → Prop} (S : St Γ g own s) (hi : own[i]? = some (rVars env.locals cs m))
    (h : ∀ s', St Γ g (own.set i (rVars env.locals cs (upd m x v))) s' → Q () s')
    (hc : cs.lookup x = none := by rfl) (hk : env.scope.kind = .function := by rfl) (hl : env.kindOf x = some .local := by rfl) :
    wpAny (model prog Γ.w) A (storeName env x v) Q E s := by
  have V := S.holds i _ hi
  obtain ⟨ml, hn, hm⟩ := V.ns
  refine wpAny_storeName_local hl hn (fun h' hn' hs => h _ (S.set i _ hi (fun a ha => ha) (fun b o hb e => hs.extBut b o (fun q => hb (.inl q)) e) ⟨⟨_, hn', fun y u hy hcy => ?_⟩, fun y c hc' => ?_, V.apart, V.ne⟩ rfl rfl)) ?_
  · unfold upd at hy
    by_cases hyx : y = x
    · rw [if_pos hyx] at hy ⊢; exact hy
    · rw [if_neg hyx] at hy ⊢; exact hm y u hy hcy
  · obtain ⟨ov, ⟨o, ho, hd⟩, k⟩ := V.cell y c hc'
    refine ⟨ov, ⟨o, hs.extBut c o (V.ne y c hc') ho, hd⟩, fun u hu => k u ?_⟩
    unfold upd at hu
    by_cases hyx : y = x
    · subst hyx; rw [hc] at hc'; cases hc'
    · rw [if_neg hyx] at hu; exact hu
  · rw [hk]; rfl

theorem st_cell {i : Nat} {c : Addr} {Q : Unit → Shared → Prop} (S : St Γ g own s) (hi : own[i]? = some (rVars L cs m)) (hc : cs.lookup x = some c)
    (h : ∀ s', St Γ g (own.set i (rVars L cs (upd m x v))) s' → Q () s')
    (he : env.cells.lookup x = some c := by rfl) (hk : env.scope.kind = .function := by rfl) (hl : env.kindOf x = some .cell := by rfl) :
    wpAny (model prog Γ.w) A (storeName env x v) Q E s := by
  have V := S.holds i _ hi
  obtain ⟨ov, hic, hm⟩ := V.cell x c hc
  refine wpAny_storeName_cell hk hl he hic fun h' hv hs => h _ (S.set i _ hi (fun a ha => ha) (fun b o hb e => hs.extBut b o (fun q => hb (.inr ⟨x, q ▸ hc⟩)) e) ⟨?_, fun y c' hc' => ?_, V.apart, V.ne⟩ rfl rfl)
  · obtain ⟨ml, ⟨o, es, ep, ho, r⟩, k⟩ := V.ns
    refine ⟨ml, ⟨o, es, ep, hs.extBut L o (Ne.symm (V.ne x c hc)) ho, r⟩, fun y u hy hcy => k y u ?_ hcy⟩
    unfold upd at hy
    by_cases hyx : y = x
    · subst hyx; rw [hc] at hcy; cases hcy
    · rw [if_neg hyx] at hy; exact hy
  · by_cases hyx : y = x
    · subst hyx
      rw [hc] at hc'; cases hc'
      exact ⟨_, hv, fun u hu => by rw [upd_self] at hu; exact hu⟩
    · obtain ⟨ov', ⟨o, ho, hd⟩, k⟩ := V.cell y c' hc'
      refine ⟨ov', ⟨o, hs.extBut c' o (fun q => hyx (V.apart y x c' hc' (q ▸ hc))) ho, hd⟩, fun u hu => k u ?_⟩
      unfold upd at hu
      rw [if_neg hyx] at hu; exact hu
end
end Mine
end

section
open PySem PySem.W PyProof.Rows PySem.Calls
set_option Elab.async false
set_option autoImplicit false
namespace Mine

def bindV : List (Str × Value) → (Str → Option Value) → Str → Option Value
  | [], m => m
  | (n, v) :: r, m => bindV r (upd m n v)

theorem bindL_eq {kindOf : Str → Option NameKind} {x : Str} (hx : kindOf x = some .local) : ∀ (binds : List (Str × Value)) (ml m : Str → Option Value), ml x = m x → bindL kindOf binds ml x = bindV binds m x
  | [], _, _, h => h
  | (n, v) :: r, ml, m, h => by
    unfold bindL bindV
    refine bindL_eq hx r _ _ ?_
    unfold upd
    by_cases hn : x = n
    · subst hn; rw [if_pos hx, if_pos rfl, if_pos rfl]
    · rw [if_neg hn]; split
      · show (if x = n then some v else ml x) = m x
        rw [if_neg hn]; exact h
      · exact h
theorem bindC_eq {kindOf : Str → Option NameKind} {x : Str} (hx : kindOf x ≠ some .local) : ∀ (binds : List (Str × Value)) (ml m : Str → Option Value), ml x = m x → bindC kindOf binds ml x = bindV binds m x
  | [], _, _, h => h
  | (n, v) :: r, ml, m, h => by
    unfold bindC bindV
    refine bindC_eq hx r _ _ ?_
    unfold upd
    by_cases hn : x = n
    · subst hn; rw [if_neg hx, if_pos rfl, if_pos rfl]
    · rw [if_neg hn]; split
      · exact h
      · show (if x = n then some v else ml x) = m x
        rw [if_neg hn]; exact h
theorem bindV_mem {x : Str} {v : Value} : ∀ {binds : List (Str × Value)} {m : Str → Option Value}, bindV binds m x = some v → m x = some v ∨ ∃ p ∈ binds, p.1 = x
  | [], _, h => .inl h
  | (n, u) :: r, m, h => by
    rcases bindV_mem (binds := r) h with h | ⟨p, hp, e⟩
    · unfold upd at h
      by_cases hn : x = n
      · exact .inr ⟨_, .head _, hn.symm⟩
      · rw [if_neg hn] at h; exact .inl h
    · exact .inr ⟨p, .tail _ hp, e⟩

theorem lookup_mem_map {x : Str} {c : Addr} : ∀ {l : List (Str × Addr)}, l.lookup x = some c → (x, c) ∈ l
  | (y, d) :: r, h => by
    rw [List.lookup_cons] at h
    by_cases e : (x == y) = true
    · rw [e] at h; cases h; rw [beq_iff_eq.mp e]; exact .head _
    · have e' : (x == y) = false := by simpa using e
      rw [e'] at h; exact .tail _ (lookup_mem_map h)

theorem name_of_addr' : ∀ {cs : List (Str × Addr)} {x y : Str} {c : Addr}, cs.Pairwise (fun p q => p.2 ≠ q.2) → (x, c) ∈ cs → (y, c) ∈ cs → x = y
  | (z, d) :: r, x, y, c, hp, hx, hy => by
    rw [List.pairwise_cons] at hp
    rcases List.mem_cons.mp hx with e1 | h1
    · rcases List.mem_cons.mp hy with e2 | h2
      · cases e1; cases e2; rfl
      · cases e1; exact absurd rfl (hp.1 (y, _) h2)
    · rcases List.mem_cons.mp hy with e2 | h2
      · cases e2; exact absurd rfl (hp.1 (x, _) h1)
      · exact name_of_addr' hp.2 h1 h2

section
variable {prog : Program} {Γ : Pm} {g : PMap} {own : List Res} {s : Shared} {A : Around} {E : Value → Shared → Prop}

theorem call_fn0 {n : Nat} {f : Addr} {oc : Value} {od : Option Addr} {osl : Array (Option Value)} {name qual : Str} {params : Arguments} {body : List Stmt} {scope : Scope} {dV kV doc pm cdv ct : Value} {an : Option Addr}
    {args : List Value} {binds : List (Str × Value)} {Q : Value → Shared → Prop}
    (S : St Γ g own s) (hA : Room A (n + 1)) (ho : (heapK Γ.w.params).lookup f = some ⟨oc, od, .func (fnOf name qual params body scope dV kV doc pm an cdv ct), osl⟩)
    (hcd : codeIn (heapK Γ.w.params) cdv qual = true)
    (hbind : bindArgs (fnOf name qual params body scope dV kV doc pm an cdv ct) ⟨args, []⟩ = pure binds)
    (hkind : (binds.all fun y => scope.names.lookup y.1 == some .local || scope.names.lookup y.1 == some .cell) = true)
    (hcs : ((cellsFrom 0 scope.names []).map (·.1)).all (fun x => scope.names.lookup x == some .cell) = true)
    (h : ∀ L s', St Γ g (rVars L (cellsFrom (L + 1) scope.names []) (bindV binds fun _ => none) :: own) s' →
      wpAny (model prog Γ.w) (A.deeper (envOfC qual scope L f cdv)) (execs body (envOfC qual scope L f cdv)) (fun fl s' => Q (match fl with | .ret v => v | _ => .none) s') (fun _ _ => False) s')
    (hco : scope.isCoroutine = false := by rfl) (hgen : scope.isGenerator = false := by rfl) (hk : scope.kind = .function := by rfl) :
    wpAny (model prog Γ.w) A (call (.ref f) args) Q E s := by
  refine wpAny_call (codeAny_call_function (fd := fnOf name qual params body scope dV kV doc pm an cdv ct) hA.lim (S.lookup ho) rfl hco hgen rfl (codeRec_of S.ge.X hcd) ?_)
  rw [hbind]
  refine wpAny_pure (wpAny_newFunctionEnv_cells hk (kindsX hkind _) fun env' he s' x => ?_)
  subst he
  obtain ⟨h₁, tk, rfl, hkp⟩ := x.done
  refine ⟨S.ge.nolimit.keeps hkp, codeAny_func ?_⟩
  have hcell : ∀ y c, (cellsFrom (s.heap.objs.size + 1) scope.names []).lookup y = some c → scope.names.lookup y = some .cell := fun y c hy => by
    have hm : y ∈ (cellsFrom (s.heap.objs.size + 1) scope.names []).map (·.1) := List.mem_map.mpr ⟨_, lookup_mem_map hy, rfl⟩
    rw [cellsFrom_names scope.names _ 0 [] [] rfl] at hm
    simpa using List.all_eq_true.mp hcs y hm
  have hS : St Γ g (rVars s.heap.objs.size (cellsFrom (s.heap.objs.size + 1) scope.names []) (bindV binds fun _ => none) :: own) { s with heap := h₁, toks := tk } := by
    refine S.cons hkp rfl rfl ⟨⟨_, x.toInCall.ns, fun y v hy hc => ?_⟩, fun y c hy => ⟨_, x.cell y c hy, fun v hv => ?_⟩, fun y z c hy hz => ?_, fun y c hy => ?_⟩ fun a ha => ?_
    · rcases bindV_mem hy with e | ⟨p, hp, rfl⟩
      · cases e
      · rcases kindsX hkind (s.heap.objs.size + 1) p hp with hl | ⟨_, hc'⟩
        · exact (bindL_eq (kindOf := fun y => scope.names.lookup y) hl binds _ (fun _ => none) rfl).trans hy
        · rw [hc] at hc'; cases hc'
    · have hne : scope.names.lookup y ≠ some .local := by rw [hcell y c hy]; simp
      exact (bindC_eq (kindOf := fun y => scope.names.lookup y) hne binds _ (fun _ => none) rfl).trans hv
    · exact name_of_addr' x.apart (lookup_mem_map hy) (lookup_mem_map hz)
    · exact Nat.ne_of_gt (x.above y c (lookup_mem_map hy))
    · rcases ha with rfl | ⟨y, hy⟩
      · exact Nat.le_refl _
      · exact Nat.le_of_lt (x.above y a (lookup_mem_map hy))
  refine wpAny_mono (h _ _ hS) (fun fl s' hq => ?_) fun _ _ e => e.elim
  exact hq

theorem call_fn (cs : Nat → List (Str × Addr)) {n : Nat} {f : Addr} {oc : Value} {od : Option Addr} {osl : Array (Option Value)} {name qual : Str} {params : Arguments} {body : List Stmt} {scope : Scope} {dV kV doc pm cdv ct : Value} {an : Option Addr}
    {args : List Value} {binds : List (Str × Value)} {Q : Value → Shared → Prop}
    (S : St Γ g own s) (hA : Room A (n + 1)) (ho : (heapK Γ.w.params).lookup f = some ⟨oc, od, .func (fnOf name qual params body scope dV kV doc pm an cdv ct), osl⟩)
    (hcd : codeIn (heapK Γ.w.params) cdv qual = true)
    (hbind : bindArgs (fnOf name qual params body scope dV kV doc pm an cdv ct) ⟨args, []⟩ = pure binds)
    (hkind : (binds.all fun y => scope.names.lookup y.1 == some .local || scope.names.lookup y.1 == some .cell) = true)
    (hcs : ((cellsFrom 0 scope.names []).map (·.1)).all (fun x => scope.names.lookup x == some .cell) = true)
    (hcsE : ∀ n, cellsFrom n scope.names [] = cs n)
    (h : ∀ L A' s', Room A' n → St Γ g (rVars L (cs (L + 1)) (bindV binds fun _ => none) :: own) s' →
      wpAny (model prog Γ.w) A' (execs body (envOfC qual scope L f cdv)) (fun fl s' => Q (match fl with | .ret v => v | _ => .none) s') (fun _ _ => False) s')
    (hco : scope.isCoroutine = false := by rfl) (hgen : scope.isGenerator = false := by rfl) (hk : scope.kind = .function := by rfl) :
    wpAny (model prog Γ.w) A (call (.ref f) args) Q E s :=
  call_fn0 S hA ho hcd hbind hkind hcs (fun L s' S' => h L _ s' (hA.deeper _) (by rw [← hcsE]; exact S')) hco hgen hk
end
end Mine
end

section
open PySem PySem.W PyProof.Rows PySem.Calls
set_option Elab.async false
set_option autoImplicit false
namespace Mine

/-- a dict by texts: the resource -/
def rSDict (prog : Program) (w : World) (d : Addr) (kvs : List (Str × Value)) : Res where
  fp := fun a => a = d
  P := fun h => h.DictOf (strKind prog w) d kvs
  loc := fun _ _ hk ⟨o, es, ep, ho, r⟩ => ⟨o, es, ep, hk d o rfl ho, r⟩
  dom := fun _ ⟨o, _, _, ho, _⟩ a ha => ⟨o, ha ▸ ho⟩

section
variable {prog : Program} {Γ : Pm} {g : PMap} {own : List Res} {s : Shared} {A : Around} {E : Value → Shared → Prop} {env : Env}

theorem ev_int {i : Int} {k : Nat} {pos : Pos} {Q : Value → Shared → Prop} (S : St Γ g own s) (h : ∀ t s', St Γ g own s' → Q (.int i t) s') :
    wpAny (model prog Γ.w) A (eval (.Constant (.int i) k pos) env) Q E s := wpAny_Constant_int (h _ _ (S.toks _))
theorem ev_str {x : Str} {k : Nat} {pos : Pos} {Q : Value → Shared → Prop} (S : St Γ g own s) (h : ∀ t s', St Γ g own s' → Q (.str x t) s') :
    wpAny (model prog Γ.w) A (eval (.Constant (.str x) k pos) env) Q E s := fun _ _ _ => h _ _ (S.toks _)
theorem ev_bool {b : Bool} {k : Nat} {pos : Pos} {Q : Value → Shared → Prop} (h : Q (.bool b) s) :
    wpAny (model prog Γ.w) A (eval (.Constant (.bool b) k pos) env) Q E s := fun _ _ _ => h

section
variable {a b : Int} {t u : Tok}
theorem q_add {Q : Value → Shared → Prop} (S : St Γ g own s) (h : ∀ r s', St Γ g own s' → Q (.int (a + b) r) s') : wpAny (model prog Γ.w) A (binaryOp .Add (.int a t) (.int b u)) Q E s := PyProof.Rows.add_int (h _ _ (S.toks _))
theorem q_sub {Q : Value → Shared → Prop} (S : St Γ g own s) (h : ∀ r s', St Γ g own s' → Q (.int (a - b) r) s') : wpAny (model prog Γ.w) A (binaryOp .Sub (.int a t) (.int b u)) Q E s := PyProof.Rows.sub_int (h _ _ (S.toks _))
theorem q_mul {Q : Value → Shared → Prop} (S : St Γ g own s) (hm : IntMulOk a b) (h : ∀ r s', St Γ g own s' → Q (.int (a * b) r) s') : wpAny (model prog Γ.w) A (binaryOp .Mult (.int a t) (.int b u)) Q E s := PyProof.Rows.mul_int (h _ _ (S.toks _)) hm
theorem q_mod {Q : Value → Shared → Prop} (S : St Γ g own s) (hb : b ≠ 0) (h : ∀ r s', St Γ g own s' → Q (.int (a.fmod b) r) s') : wpAny (model prog Γ.w) A (binaryOp .Mod (.int a t) (.int b u)) Q E s := mod_int' hb (h _ _ (S.toks _))
theorem q_fdiv {Q : Value → Shared → Prop} (S : St Γ g own s) (hb : b ≠ 0) (hp : b.natAbs < 2 ^ 30) (h : ∀ r s', St Γ g own s' → Q (.int (a.fdiv b) r) s') : wpAny (model prog Γ.w) A (binaryOp .FloorDiv (.int a t) (.int b u)) Q E s :=
  floordiv_int hb (h _ _ (S.toks _)) (.inl (PyProof.noPylong_small (by omega)))
theorem q_pow {Q : Value → Shared → Prop} (S : St Γ g own s) (hb : 0 ≤ b) (hb2 : b ≤ 1000) (ha : a.natAbs < 2 ^ 64) (h : ∀ r s', St Γ g own s' → Q (.int (a ^ b.toNat) r) s') : wpAny (model prog Γ.w) A (binaryOp .Pow (.int a t) (.int b u)) Q E s :=
  pow_int_small hb (by omega) ha (h _ _ (S.toks _))
end

theorem q_sdict {i : Nat} {d : Addr} {kvs : List (Str × Value)} {x : Str} {t : Tok} {v : Value} {value slice : Expr} {Q : Value → Shared → Prop} (S : St Γ g own s) (hi : own[i]? = some (rSDict prog Γ.w d kvs)) (hv : valueAt kvs x = some v)
    (h : ∀ s', St Γ g own s' → Q v s')
    (hs : subscripted slice false (.ref d) (.str x t) = operate [.ref d, .str x t] (getItem (.ref d) (.str x t)) := by with_unfolding_all rfl) :
    wpAny (model prog Γ.w) A (subscriptTail value slice (.ref d) (.str x t)) Q E s :=
  have hm := (S.holds i _ hi).mapOf
  tail_any hm.typeIs F.slot_dict_getitem.lookup (wpAny_getItem_of (strKind_is prog Γ.w x t) hm hv (h _ (S.toks _))) hs

theorem q_sdictSet {i : Nat} {d : Addr} {kvs : List (Str × Value)} {x : Str} {t : Tok} {v : Value} {Q : Unit → Shared → Prop} (S : St Γ g own s) (hi : own[i]? = some (rSDict prog Γ.w d kvs))
    (h : ∀ s', St Γ g (own.set i (rSDict prog Γ.w d (stored kvs x v))) s' → Q () s') (hsz : kvs.length ≤ 100) :
    wpAny (model prog Γ.w) A (setItem (.ref d) (.str x t) v) Q E s :=
  wpAny_setItem_pairs (strKind_is prog Γ.w x t) (S.holds i _ hi) (fun h' hm hs => h _ (S.set i _ hi (fun _ ha => ha) (fun b o hb e => hs.extBut b o hb e) hm rfl rfl)) (by rw [sizeLine_eq]; omega)

theorem isList_of {a : Addr} {vs : List Value} {n : Nat} (S : St Γ g own s) (h : g a = some (lstObj vs n)) : s.heap.IsList a vs.toArray := ⟨_, S.keep _ _ h, rfl, _, rfl⟩
theorem isTup_of {a : Addr} {vs : List Value} {n : Nat} (S : St Γ g own s) (h : g a = some (tupObj vs n)) : IsTup s.heap a vs.toArray := ⟨_, S.keep _ _ h, rfl, _, rfl⟩
theorem isListO {i : Nat} {a : Addr} {vs : List Value} {n : Nat} (S : St Γ g own s) (hi : own[i]? = some (rObj a (lstObj vs n))) : s.heap.IsList a vs.toArray := ⟨_, S.holds i _ hi, rfl, _, rfl⟩

theorem q_len {α : Type} {R : Rep α} {v : Value} {l : List α} {Q : Value → Shared → Prop} (S : St Γ g own s) (hv : (rLst R).at' g v l) (hsz : l.length ≤ 100000) (h : ∀ t s', St Γ g own s' → Q (.int l.length t) s') :
    wpAny (model prog Γ.w) A (call (.builtin "len") [v]) Q E s := by
  obtain ⟨a, vs, n, rfl, hg, hr⟩ := hv
  have hl := hr.length
  have e : vs.toArray.size = l.length := by simp [hl]
  exact len_list (isList_of S hg) (by omega) (by rw [e]; exact h _ _ (S.toks _))
theorem q_lenT {α : Type} {R : Rep α} {v : Value} {l : List α} {Q : Value → Shared → Prop} (S : St Γ g own s) (hv : (rTup R).at' g v l) (hsz : l.length ≤ 100000) (h : ∀ t s', St Γ g own s' → Q (.int l.length t) s') :
    wpAny (model prog Γ.w) A (call (.builtin "len") [v]) Q E s := by
  obtain ⟨a, vs, n, rfl, hg, hr⟩ := hv
  have hl := hr.length
  have e : vs.toArray.size = l.length := by simp [hl]
  exact len_tuple (isTup_of S hg) (by omega) (by rw [e]; exact h _ _ (S.toks _))

theorem q_item {α : Type} {R : Rep α} {v : Value} {l : List α} {k : Int} {u : Tok} {x : α} {value slice : Expr} {Q : Value → Shared → Prop} (S : St Γ g own s) (hv : (rLst R).at' g v l) (h0 : 0 ≤ k) (hk : k < 2 ^ 62) (hx : l[k.toNat]? = some x)
    (h : ∀ r, R.at' g r x → Q r s) (hs : ∀ a, subscripted slice false (.ref a) (.int k u) = operate [.ref a, .int k u] (getItem (.ref a) (.int k u)) := by intro _; with_unfolding_all rfl) :
    wpAny (model prog Γ.w) A (subscriptTail value slice v (.int k u)) Q E s := by
  obtain ⟨a, vs, n, rfl, hg, hr⟩ := hv
  obtain ⟨r, hr1, hr2⟩ := hr.get hx
  have hL := isList_of S hg
  exact tail_any hL.typeIs PySem.slot_list_getitem.lookup (wpAny_getItem_list hL h0 (by omega) (by simpa using hr1) (h r hr2)) (hs a)
theorem q_itemT {α : Type} {R : Rep α} {v : Value} {l : List α} {k : Int} {u : Tok} {x : α} {value slice : Expr} {Q : Value → Shared → Prop} (S : St Γ g own s) (hv : (rTup R).at' g v l) (h0 : 0 ≤ k) (hk : k < 2 ^ 62) (hx : l[k.toNat]? = some x)
    (h : ∀ r, R.at' g r x → Q r s) (hs : ∀ a, subscripted slice false (.ref a) (.int k u) = operate [.ref a, .int k u] (getItem (.ref a) (.int k u)) := by intro _; with_unfolding_all rfl) :
    wpAny (model prog Γ.w) A (subscriptTail value slice v (.int k u)) Q E s := by
  obtain ⟨a, vs, n, rfl, hg, hr⟩ := hv
  obtain ⟨r, hr1, hr2⟩ := hr.get hx
  have hlt : k.toNat < vs.length := (List.getElem?_eq_some_iff.mp hr1).1
  refine item_tupleT (isTup_of S hg) (by omega) (by omega) (j := k.toNat) ?_ hr1 (h r hr2) (hs a)
  have h1 : ¬ k < 0 := by omega
  have h2 : k < (vs.length : Int) := by omega
  simp only [seqIndex?, h1, if_false, h0, h2, decide_true, Bool.and_self, if_true]

theorem cw_fn {f : Addr} {o : Obj} {fd : FuncData} {e : Expr} {rest : List Expr} {pos : Pos} {Q : Value → Shared → Prop} (_S : St Γ g own s) (ho : (heapK Γ.w.params).lookup f = some o) (hdat : o.data = .func fd)
    (h : wpAny (model prog Γ.w) A (spliced (backTo pos (starEach (e :: rest) env))) (fun vs s₁ => GE Γ.w Γ.mg Γ.mb s₁.heap ∧ wpAny (model prog Γ.w) A (call (.ref f) vs) Q E s₁) E s)
    (he : starEach (e :: rest) env = (false, eval e env) :: starEach rest env := by rfl) :
    wpAny (model prog Γ.w) A (callWith pos (.ref f) [] (backTo pos (starEach (e :: rest) env)) []) Q E s :=
  callWith_def hdat (wpAny_mono h (fun _ _ q => ⟨q.1.X _ _ ho, q.2⟩) fun _ _ q => q) he
end

theorem mulOk {a b : Int} (h : a.natAbs < 2 ^ 63) : IntMulOk a b := by
  exact IntMulOk.of_left (Nat.le_trans (intBits_le_iff.mpr h) (by decide))
end Mine
end

section
open PySem PySem.W PyProof.Rows PySem.Calls
set_option Elab.async false
set_option autoImplicit false
set_option maxRecDepth 100000
set_option linter.unusedVariables false
namespace Mine

local macro_rules | `(tactic| walk_at "v") => `(tactic| first | assumption | exact upd_self | (refine upd_ne (by decide) ?_; walk_at "v") | rfl)

def takeVal (cells : List Int) (k : Nat) (wide : Int) : Int :=
  if k < cells.length then (cells.getD k 0).fmod wide
  else ((7 * k * k + 4 * k + 2 * cells.length + 11 : Int).fmod 43).fmod wide

def rTape (prog : Program) (w : World) (d : Addr) (cl : Value) (k : Nat) : Res where
  fp := fun a => a = d
  P := fun h => ∃ t, (rSDict prog w d [("cells", cl), ("spot", .int k t)]).P h
  loc := fun _ _ hk ⟨t, q⟩ => ⟨t, (rSDict prog w d _).loc _ _ hk q⟩
  dom := fun h ⟨t, q⟩ a ha => (rSDict prog w d _).dom h q a ha

section
variable {prog : Program} {Γ : Pm} {g : PMap} {own : List Res} {s : Shared} {A : Around} {E : Value → Shared → Prop}
set_option maxHeartbeats 4000000 in
theorem take_spec {i k : Nat} {tp : Addr} {cl : Value} {cells : List Int} {wide : Int} {u : Tok} {Q : Value → Shared → Prop}
    (S : St Γ g own s) (hA : Room A 5) (hi : own[i]? = some (rTape prog Γ.w tp cl k)) (hc : (rLst rInt).at' g cl cells) (hlen : cells.length ≤ 60) (hk : k ≤ 10000) (hw : wide ≠ 0)
    (h : ∀ t s', St Γ g (own.set i (rTape prog Γ.w tp cl (k + 1))) s' → Q (.int (takeVal cells k wide) t) s') :
    wpAny (model prog Γ.w) A (call (.ref 175) [.ref tp, .int wide u]) Q E s := by
  obtain ⟨t0, ht0⟩ := S.holds i _ hi
  have S1 := S.set i (rSDict prog Γ.w tp [("cells", cl), ("spot", .int k t0)]) hi (fun _ ha => ha) (fun _ _ _ e => e) ht0 rfl rfl
  have hlt : i < own.length := (List.getElem?_eq_some_iff.mp hi).1
  have hi1 : (own.set i (rSDict prog Γ.w tp [("cells", cl), ("spot", .int k t0)]))[i]? = some (rSDict prog Γ.w tp [("cells", cl), ("spot", .int k t0)]) := by
    rw [List.getElem?_set_self hlt]
  have hset : ∀ x, (own.set i (rSDict prog Γ.w tp [("cells", cl), ("spot", .int k t0)])).set i x = own.set i x := fun x => List.set_set ..
  generalize own.set i (rSDict prog Γ.w tp [("cells", cl), ("spot", .int k t0)]) = own1 at S1 hi1 hset
  clear S
  refine call_fn (fun _ => []) (n := 4) S1 hA (by rfl) (by rfl) (by rfl) (by rfl) (by rfl) (fun _ => rfl) fun L A hA s S => ?_
  refine wpAny_execs_cons (wpAny_Assign_Name ?_)
  refine Subscript_ ?_
  refine ev_local (i := 0) S rfl (by rfl) ?_
  refine ev_str S fun t s S => ?_
  refine q_sdict (i := i + 1) S hi1 (by rfl) fun s S => ?_
  refine st_local (i := 0) S rfl fun s S => ?_
  refine wpAny_execs_cons (wpAny_Assign_Subscript ?_)
  refine wpAny_BinOp ?_
  refine ev_local (i := 0) S rfl (by rfl) ?_
  refine ev_int S fun t s S => ?_
  refine q_add S fun r s S => ?_
  refine ev_local (i := 0) S rfl (by rfl) ?_
  refine ev_str S fun t s S => ?_
  refine q_sdictSet (i := i + 1) S hi1 (fun s S => ?_) (by show 2 ≤ 100; decide)
  have hlt1 : i < own1.length := (List.getElem?_eq_some_iff.mp hi1).1
  have S := S.turn (i + 1) (r := rSDict prog Γ.w tp [("cells", cl), ("spot", .int (k + 1) r)]) (rTape prog Γ.w tp cl (k + 1)) (by show (own1.set i _)[i]? = _; rw [List.getElem?_set_self hlt1]; rfl) (fun _ ha => ha) (fun q => ⟨_, q⟩)
  simp only [List.set_cons_succ, List.set_cons_zero, List.set_set, hset] at S
  have hi2 : (own.set i (rTape prog Γ.w tp cl (k + 1)))[i]? = some (rTape prog Γ.w tp cl (k + 1)) := by rw [List.getElem?_set_self hlt]
  obtain ⟨t1, ht1⟩ := S.holds (i + 1) _ hi2
  have S := S.turn (i + 1) (rSDict prog Γ.w tp [("cells", cl), ("spot", .int ((k + 1 : Nat) : Int) t1)]) hi2 (fun _ ha => ha) (fun _ => ht1)
  simp only [List.set_cons_succ, List.set_set] at S
  have hi3 : (own.set i (rSDict prog Γ.w tp [("cells", cl), ("spot", .int ((k + 1 : Nat) : Int) t1)]))[i]? = some (rSDict prog Γ.w tp [("cells", cl), ("spot", .int ((k + 1 : Nat) : Int) t1)]) := by rw [List.getElem?_set_self hlt]
  have back : ∀ {m L cs s}, St Γ g (rVars L cs m :: own.set i (rSDict prog Γ.w tp [("cells", cl), ("spot", .int ((k + 1 : Nat) : Int) t1)])) s → St Γ g (own.set i (rTape prog Γ.w tp cl (k + 1))) s := fun S => by
    have S := S.drop.turn i (rTape prog Γ.w tp cl (k + 1)) hi3 (fun _ ha => ha) (fun q => ⟨_, q⟩)
    simpa only [List.set_set] using S
  refine wpAny_execs_cons (wpAny_If ?_)
  refine wpAny_isTrue_Compare1 ?_
  refine ev_local (i := 0) S rfl (by rfl) ?_
  refine Call_ ?_
  refine ev_builtin S (by rfl) (by boot_fast) (by decide) ?_
  refine PyProof.Rows.callWith_builtin1 ?_
  refine args_cons ?_
  refine Subscript_ ?_
  refine ev_local (i := 0) S rfl (by rfl) ?_
  refine ev_str S fun t s S => ?_
  refine q_sdict (i := i + 1) S hi3 (by rfl) fun s S => ?_
  refine args_nil ?_
  refine q_len S hc (by omega) fun t s S => ?_
  refine PyProof.Rows.lt_int ?_
  refine wpAny_truthy_bool ?_
  by_cases hlk : k < cells.length
  · have e : decide ((k : Int) < (cells.length : Int)) = true := decide_eq_true (by omega)
    rw [if_pos e]
    refine wpAny_execs_cons (wpAny_Return_some ?_)
    refine wpAny_BinOp ?_
    refine Subscript_ ?_
    refine Subscript_ ?_
    refine ev_local (i := 0) S rfl (by rfl) ?_
    refine ev_str S fun t s S => ?_
    refine q_sdict (i := i + 1) S hi3 (by rfl) fun s S => ?_
    refine ev_local (i := 0) S rfl (by rfl) ?_
    refine q_item (x := cells.getD k 0) S hc (by omega) (by omega) (by simp [hlk]) fun r hr => ?_
    obtain ⟨t, rfl⟩ := hr
    refine ev_local (i := 0) S rfl (by rfl) ?_
    refine q_mod S hw fun r s S => ?_
    have := h r s (back S)
    unfold takeVal at this
    rw [if_pos hlk] at this
    exact this
  · have e : decide ((k : Int) < (cells.length : Int)) = false := decide_eq_false (by omega)
    rw [if_neg (by rw [e]; exact Bool.false_ne_true)]
    refine wpAny_execs_nil ?_
    refine wpAny_execs_cons (wpAny_Return_some ?_)
    refine wpAny_BinOp ?_
    refine wpAny_BinOp ?_
    refine wpAny_BinOp ?_
    refine wpAny_BinOp ?_
    refine wpAny_BinOp ?_
    refine wpAny_BinOp ?_
    refine wpAny_BinOp ?_
    refine ev_int S fun t s S => ?_
    refine ev_local (i := 0) S rfl (by rfl) ?_
    refine q_mul S (mulOk (by omega)) fun r s S => ?_
    refine ev_local (i := 0) S rfl (by rfl) ?_
    refine q_mul S (mulOk (by omega)) fun r s S => ?_
    refine wpAny_BinOp ?_
    refine ev_int S fun t s S => ?_
    refine ev_local (i := 0) S rfl (by rfl) ?_
    refine q_mul S (mulOk (by omega)) fun r s S => ?_
    refine q_add S fun r s S => ?_
    refine wpAny_BinOp ?_
    refine ev_int S fun t s S => ?_
    refine Call_ ?_
    refine ev_builtin S (by rfl) (by boot_fast) (by decide) ?_
    refine PyProof.Rows.callWith_builtin1 ?_
    refine args_cons ?_
    refine Subscript_ ?_
    refine ev_local (i := 0) S rfl (by rfl) ?_
    refine ev_str S fun t s S => ?_
    refine q_sdict (i := i + 1) S hi3 (by rfl) fun s S => ?_
    refine args_nil ?_
    refine q_len S hc (by omega) fun t s S => ?_
    refine q_mul S (mulOk (by omega)) fun r s S => ?_
    refine q_add S fun r s S => ?_
    refine ev_int S fun t s S => ?_
    refine q_add S fun r s S => ?_
    refine ev_int S fun t s S => ?_
    refine q_mod S (by decide) fun r s S => ?_
    refine ev_local (i := 0) S rfl (by rfl) ?_
    refine q_mod S hw fun r s S => ?_
    have := h r s (back S)
    unfold takeVal at this
    rw [if_neg hlk] at this
    exact this
end
end Mine
end

section
open PySem PySem.W PyProof.Rows PySem.Calls
set_option Elab.async false
set_option autoImplicit false
set_option linter.unusedVariables false
namespace Mine

def rNone : Res := ⟨fun _ => False, fun _ => True, fun _ _ _ _ => trivial, fun _ _ _ h => h.elim⟩

def rLIter (I ax : Addr) (i : Nat) : Res where
  fp := fun b => b = I
  P := fun h => h.IsListIter I ax i
  loc := fun _ _ hk ⟨o, ho, r⟩ => ⟨o, hk I o rfl ho, r⟩
  dom := fun _ ⟨o, ho, _⟩ b hb => ⟨o, hb ▸ ho⟩
def rTIter (I ax : Addr) (i : Nat) : Res where
  fp := fun b => b = I
  P := fun h => IsTupIter h I ax i
  loc := fun _ _ hk ⟨o, ho, r⟩ => ⟨o, hk I o rfl ho, r⟩
  dom := fun _ ⟨o, ho, _⟩ b hb => ⟨o, hb ▸ ho⟩
abbrev rgIter (x left : Int) : Obj := { cls := .type "range_iterator", dict := none, data := .fields #[rawInt x, rawInt left, rawInt 1], slots := #[] }

/-- next, and the letting go of an owned tuple behind it -/
def NextLets (prog : Program) (Γ : Pm) (A : Around) (target : Expr) (it : Value) (Q : Value → Shared → Prop) (r : Option Value) (s : Shared) : Prop :=
  ∃ v, r = some v ∧ wpAny (model prog Γ.w) A (letOwnedTupleGo target it v) (fun _ s₂ => Q v s₂) (fun _ _ => False) s

structure Iter {α : Type} (prog : Program) (Γ : Pm) (A : Around) (g₀ : PMap) (target : Expr) (it : Value) (R : Nat → Res) (T : Rep α) (l : List α) : Prop where
  item : ∀ {i j : Nat} {g : PMap} {own : List Res} {s : Shared} {x : α} {Q : Value → Shared → Prop} {E : Value → Shared → Prop}, l[i]? = some x → Le g₀ g → St Γ g own s → own[j]? = some (R i) →
    (∀ v g' s', Le g g' → T.at' g' v x → St Γ g' (own.set j (R (i + 1))) s' → Q v s') → wpAny (model prog Γ.w) A (pyNext it) (NextLets prog Γ A target it Q) E s
  done : ∀ {j : Nat} {g : PMap} {own : List Res} {s : Shared} {Q : Option Value → Shared → Prop} {E : Value → Shared → Prop}, Le g₀ g → St Γ g own s → own[j]? = some (R l.length) →
    (∀ s', St Γ g (own.set j rNone) s' → Q none s') → wpAny (model prog Γ.w) A (pyNext it) Q E s
  self : ∀ {j : Nat} {g : PMap} {own : List Res} {s : Shared} {Q : Value → Shared → Prop} {E : Value → Shared → Prop}, Le g₀ g → St Γ g own s → own[j]? = some (R 0) → Q it s → wpAny (model prog Γ.w) A (pyIter it) Q E s

section
variable {prog : Program} {Γ : Pm} {g : PMap} {own : List Res} {s : Shared} {A : Around} {E : Value → Shared → Prop}

theorem lets_plain {a : Addr} {o : Obj} {v : Value} {target : Expr} {cl : String} {Q : Unit → Shared → Prop} (ho : s.heap.get? a = some o) (hc : o.cls = .type cl)
    (hn : (["enumerate", "zip", "dict_itemiterator", "dict_reverseitemiterator", "odict_iterator", "itertools.zip_longest", "itertools.pairwise"] : List String).contains cl = false) (h : Q () s) :
    wpAny (model prog Γ.w) A (letOwnedTupleGo target (.ref a) v) Q E s := by
  cases target <;> first
    | exact wpAny_pure h
    | (cases v <;> first
        | exact wpAny_pure h
        | (unfold letOwnedTupleGo
           refine wpAny_bind (wpAny_load ho ?_)
           obtain ⟨c, d, dt, sl⟩ := o
           simp only at hc
           subst hc
           cases dt <;> first
             | exact wpAny_pure h
             | (simp only [hn, Bool.false_and, Bool.false_eq_true, if_false]; exact wpAny_pure h)))

theorem Iter.list {α : Type} {T : Rep α} {l : List α} {ax I : Addr} {vs : List Value} {n : Nat} {target : Expr} {g₀ : PMap} (hh : A.handled = none) (hg : g₀ ax = some (lstObj vs n)) (hr : All2 (T.at' g₀) vs l) :
    Iter prog Γ A g₀ target (.ref I) (rLIter I ax) T l where
  item := fun {i j g own s x Q E} hx hl S hj h => by
    obtain ⟨v, hv, hT⟩ := hr.get hx
    refine wpAny_pyNext_list_item (S.holds j _ hj) (isList_of S (hl _ _ hg)) (x := v) (by simpa using hv) fun h' hit hs => ?_
    have S' := S.set (s' := { s with heap := h' }) j (rLIter I ax (i + 1)) hj (fun _ ha => ha) (fun b o hb e => hs.extBut b o hb e) hit rfl rfl
    have hlt := (List.getElem?_eq_some_iff.mp hj).1
    obtain ⟨o, ho, hc, _⟩ := S'.holds j _ (by rw [List.getElem?_set_self hlt])
    exact ⟨v, rfl, lets_plain ho hc (by decide) (h v g _ (Le.refl _) (T.mono hl hT) S')⟩
  done := fun {j g own s Q E} hl S hj h => by
    refine wpAny_pyNext_list_end hh (S.holds j _ hj) (isList_of S (hl _ _ hg)) (by simp [hr.length]) fun h' he => ?_
    exact h _ (S.set j rNone hj (fun _ ha => ha.elim) (fun b o hb e => he b o hb e) trivial rfl rfl)
  self := fun {j g own s Q E} hl S hj h => wpAny_pyIter_listiter (S.holds j _ hj) h

theorem Iter.tuple {α : Type} {T : Rep α} {l : List α} {ax I : Addr} {vs : List Value} {n : Nat} {target : Expr} {g₀ : PMap} (hh : A.handled = none) (hg : g₀ ax = some (tupObj vs n)) (hr : All2 (T.at' g₀) vs l) :
    Iter prog Γ A g₀ target (.ref I) (rTIter I ax) T l where
  item := fun {i j g own s x Q E} hx hl S hj h => by
    obtain ⟨v, hv, hT⟩ := hr.get hx
    refine next_tuple_item (S.holds j _ hj) (isTup_of S (hl _ _ hg)) (x := v) (by simpa using hv) fun h' hit hs => ?_
    have S' := S.set (s' := { s with heap := h' }) j (rTIter I ax (i + 1)) hj (fun _ ha => ha) (fun b o hb e => hs.extBut b o hb e) hit rfl rfl
    have hlt := (List.getElem?_eq_some_iff.mp hj).1
    obtain ⟨o, ho, hc, _⟩ := S'.holds j _ (by rw [List.getElem?_set_self hlt])
    exact ⟨v, rfl, lets_plain ho hc (by decide) (h v g _ (Le.refl _) (T.mono hl hT) S')⟩
  done := fun {j g own s Q E} hl S hj h => by
    refine next_tuple_end hh (S.holds j _ hj) (isTup_of S (hl _ _ hg)) (by simp [hr.length]) fun h' he => ?_
    exact h _ (S.set j rNone hj (fun _ ha => ha.elim) (fun b o hb e => he b o hb e) trivial rfl rfl)
  self := fun {j g own s Q E} hl S hj h => wpAny_pyIter_tupleiter (S.holds j _ hj) h

def rangeL (a b : Int) : List Int := (List.range (b - a).toNat).map fun (i : Nat) => a + (i : Int)
theorem rangeL_get {a b : Int} {i : Nat} {x : Int} (h : (rangeL a b)[i]? = some x) : x = a + i ∧ i < (b - a).toNat := by
  unfold rangeL at h
  rw [List.getElem?_map] at h
  cases e : (List.range (b - a).toNat)[i]? with
  | none => rw [e] at h; cases h
  | some k =>
    rw [e] at h
    have hk := List.getElem?_eq_some_iff.mp e
    obtain ⟨h1, h2⟩ := hk
    simp at h2 h1
    subst h2
    simp at h
    exact ⟨h.symm, by omega⟩
theorem rangeL_length (a b : Int) : (rangeL a b).length = (b - a).toNat := by simp [rangeL]
theorem rangeL_at {a b : Int} {i : Nat} (h : i < (b - a).toNat) : (rangeL a b)[i]? = some (a + i) := by
  unfold rangeL; rw [List.getElem?_map, List.getElem?_range h]; rfl
theorem mem_rangeL {a b x : Int} : x ∈ rangeL a b ↔ a ≤ x ∧ x < b := by
  unfold rangeL
  simp only [List.mem_map, List.mem_range]
  constructor
  · rintro ⟨i, hi, rfl⟩; omega
  · rintro ⟨h1, h2⟩; exact ⟨(x - a).toNat, by omega, by omega⟩

def rRIter (I : Addr) (a b : Int) (i : Nat) : Res := rObj I (rgIter (a + i) ((b - a).toNat - (i : Int)))

theorem Iter.range {I : Addr} {a b : Int} {target : Expr} {g₀ : PMap} (hh : A.handled = none) : Iter prog Γ A g₀ target (.ref I) (rRIter I a b) rInt (rangeL a b) where
  item := fun {i j g own s x Q E} hx hl S hj h => by
    obtain ⟨rfl, hi⟩ := rangeL_get hx
    refine wpAny_pyNext_range_item (S.holds j _ hj) (by omega) fun h' hit hs => ?_
    have S' := S.set (s' := { s with heap := h', toks := s.toks + 1 }) j (rRIter I a b (i + 1)) hj (fun _ ha => ha) (fun b o hb e => hs.extBut b o hb e) ?_ rfl rfl
    · have hlt := (List.getElem?_eq_some_iff.mp hj).1
      have ho := S'.holds j _ (by rw [List.getElem?_set_self hlt])
      exact ⟨_, rfl, lets_plain (o := rgIter (a + ((i + 1 : Nat) : Int)) (((b - a).toNat : Int) - ((i + 1 : Nat) : Int))) ho rfl (by decide) (h _ g _ (Le.refl _) ⟨_, rfl⟩ S')⟩
    have e1 : a + ((i + 1 : Nat) : Int) = a + i + 1 := by omega
    have e2 : ((b - a).toNat : Int) - ((i + 1 : Nat) : Int) = (b - a).toNat - i - 1 := by omega
    show h'.get? I = some (rgIter (a + ((i + 1 : Nat) : Int)) (((b - a).toNat : Int) - ((i + 1 : Nat) : Int)))
    rw [e1, e2]; exact hit
  done := fun {j g own s Q E} hl S hj h => by
    rw [rangeL_length] at hj
    refine wpAny_pyNext_range_end hh (S.holds j _ hj) (by omega) fun h' he => ?_
    exact h _ (S.set j rNone hj (fun _ ha => ha.elim) (fun b o hb e => he b o hb e) trivial rfl rfl)
  self := fun {j g own s Q E} hl S hj h => wpAny_pyIter_rangeiter (S.holds j _ hj) h

theorem rangeSize_one (a b : Int) : Builtin.Range.rangeSize a b 1 = ((b - a).toNat : Int) := by
  unfold Builtin.Range.rangeSize
  rw [if_pos (by decide)]
  split
  · rw [Int.ediv_one]; omega
  · omega

theorem small_one {a b : Int} (ha : a.natAbs < 1000000) (hb : b.natAbs < 1000000) : Builtin.Range.small a b 1 = true := by
  have f : ∀ x : Int, x.natAbs < 3000000 → Builtin.Range.rangeFitsLong x = true := fun x hx => by
    unfold Builtin.Range.rangeFitsLong
    simp; omega
  unfold Builtin.Range.small
  rw [rangeSize_one, f a (by omega), f b (by omega), f 1 (by decide), f ((b - a).toNat : Int) (by omega)]
  have : (1 : Int) > 0 := by decide
  simp only [this, if_true, Bool.and_self, Bool.true_and]
  rw [f (b + (1 - 1)) (by omega)]
  simp

theorem q_rngIter {r : Addr} {a b : Int} {t u v : Tok} {own' : List Res} {Q : Value → Shared → Prop} (S : St Γ g own s) (hr : IsRange s.heap r a b 1 t u v) (ha : a.natAbs < 1000000) (hb : b.natAbs < 1000000)
    (h : ∀ I s', St Γ g (rRIter I a b 0 :: own) s' → Q (.ref I) s') : wpAny (model prog Γ.w) A (pyIter (.ref r)) Q E s := by
  refine wpAny_pyIter_range hr (small_one ha hb) (h _ _ ?_)
  rw [rangeSize_one]
  have := S.alloc (rgIter a ((b - a).toNat : Int))
  unfold rRIter
  rw [show a + ((0 : Nat) : Int) = a by omega, show ((b - a).toNat : Int) - ((0 : Nat) : Int) = (b - a).toNat by omega]
  exact this

theorem q_rng1 {n : Int} {t : Tok} {Q : Value → Shared → Prop} (S : St Γ g own s) (hn : n.natAbs < 1000000) (h : ∀ I s', St Γ g (rRIter I 0 n 0 :: own) s' → Q (.ref I) s') :
    wpAny (model prog Γ.w) A (call (.type "range") [.int n t]) (fun x s₁ => wpAny (model prog Γ.w) A (pyIter x) Q E s₁) E s := by
  refine call_range_1 ?_
  have hr := IsRange.new s.heap 0 n 1 s.toks t (s.toks + 1)
  exact q_rngIter (own' := own) (S.kept (fun _ _ e => Heap.get?_push_of_some _ e) rfl rfl) hr (by decide) hn h
theorem q_rng2 {a n : Int} {t u : Tok} {Q : Value → Shared → Prop} (S : St Γ g own s) (ha : a.natAbs < 1000000) (hn : n.natAbs < 1000000) (h : ∀ I s', St Γ g (rRIter I a n 0 :: own) s' → Q (.ref I) s') :
    wpAny (model prog Γ.w) A (call (.type "range") [.int a t, .int n u]) (fun x s₁ => wpAny (model prog Γ.w) A (pyIter x) Q E s₁) E s := by
  refine call_range_2 ?_
  have hr := IsRange.new s.heap a n 1 t u s.toks
  exact q_rngIter (own' := own) (S.kept (fun _ _ e => Heap.get?_push_of_some _ e) rfl rfl) hr ha hn h

theorem q_lstIter {α : Type} {T : Rep α} {l : List α} {v : Value} {Q : Value → Shared → Prop} (S : St Γ g own s) (hh : A.handled = none) (hv : (rLst T).at' g v l)
    (h : ∀ it R s', (∀ target, Iter prog Γ A g target it R T l) → St Γ g (R 0 :: own) s' → Q it s') : wpAny (model prog Γ.w) A (pyIter v) Q E s := by
  obtain ⟨a, vs, n, rfl, hg, hr⟩ := hv
  refine wpAny_pyIter_list (isList_of S hg) (h _ _ _ (fun _ => Iter.list hh hg hr) ?_)
  exact S.cons (fun _ _ e => Heap.get?_push_of_some _ e) rfl rfl ⟨_, Heap.get?_push_size _ rfl, rfl, rfl⟩ (fun _ ha => Nat.le_of_eq ha.symm)
theorem q_tupIter {α : Type} {T : Rep α} {l : List α} {v : Value} {Q : Value → Shared → Prop} (S : St Γ g own s) (hh : A.handled = none) (hv : (rTup T).at' g v l)
    (h : ∀ it R s', (∀ target, Iter prog Γ A g target it R T l) → St Γ g (R 0 :: own) s' → Q it s') : wpAny (model prog Γ.w) A (pyIter v) Q E s := by
  obtain ⟨a, vs, n, rfl, hg, hr⟩ := hv
  refine iter_tuple (isTup_of S hg) (h _ _ _ (fun _ => Iter.tuple hh hg hr) ?_)
  exact S.cons (fun _ _ e => Heap.get?_push_of_some _ e) rfl rfl ⟨_, Heap.get?_push_size _ rfl, rfl, rfl⟩ (fun _ ha => Nat.le_of_eq ha.symm)
end
end Mine
end

section
open PySem PySem.W PyProof.Rows PySem.Calls
set_option Elab.async false
set_option autoImplicit false
set_option linter.unusedVariables false
namespace Mine

theorem set_self {α : Type} {l : List α} {i : Nat} {x : α} (h : l[i]? = some x) : l.set i x = l := by
  apply List.ext_getElem?
  intro j
  rw [List.getElem?_set]
  by_cases hij : i = j
  · subst hij
    obtain ⟨hlt, _⟩ := List.getElem?_eq_some_iff.mp h
    rw [if_pos rfl, if_pos hlt, h]
  · rw [if_neg hij]

section
variable {Γ : Pm} {g : PMap} {own : List Res} {s : Shared}
theorem St.erase (S : St Γ g own s) (i : Nat) : St Γ g (own.eraseIdx i) s := by
  have ge : ∀ {j : Nat} {r : Res}, (own.eraseIdx i)[j]? = some r → ∃ k, own[k]? = some r ∧ k = (if j < i then j else j + 1) := fun {j r} h => by
    rw [List.getElem?_eraseIdx] at h
    by_cases hji : j < i
    · rw [if_pos hji] at h; exact ⟨j, h, by rw [if_pos hji]⟩
    · rw [if_neg hji] at h; exact ⟨j + 1, h, by rw [if_neg hji]⟩
  refine ⟨S.base, S.keep, fun j r hj => ?_, fun j r hj => ?_, fun j k r r' hjk hj hk b hb hb' => ?_, S.gens, S.os⟩
  · obtain ⟨k, hk, _⟩ := ge hj; exact S.holds k r hk
  · obtain ⟨k, hk, _⟩ := ge hj; exact S.off k r hk
  · obtain ⟨k1, h1, e1⟩ := ge hj
    obtain ⟨k2, h2, e2⟩ := ge hk
    refine S.disj k1 k2 r r' ?_ h1 h2 b hb hb'
    rw [e1, e2]; split <;> split <;> omega
theorem St.swap {a b : Res} (S : St Γ g (a :: b :: own) s) : St Γ g (b :: a :: own) s := by
  have ge : ∀ {j : Nat} {r : Res}, (b :: a :: own)[j]? = some r → (a :: b :: own)[if j = 0 then 1 else if j = 1 then 0 else j]? = some r := fun {j r} h => by
    match j with
    | 0 => simpa using h
    | 1 => simpa using h
    | j + 2 => simpa using h
  refine ⟨S.base, S.keep, fun j r hj => S.holds _ r (ge hj), fun j r hj => S.off _ r (ge hj), fun j k r r' hjk hj hk => S.disj _ _ r r' ?_ (ge hj) (ge hk), S.gens, S.os⟩
  repeat' split
  all_goals omega
end

/-- a resource put behind the head -/
def ins1 (r : Res) : List Res → List Res
  | [] => [r]
  | a :: l => a :: r :: l

section
variable {prog : Program} {Γ : Pm} {g : PMap} {own : List Res} {s : Shared} {A : Around} {env : Env}

theorem St.ins1 {r : Res} (S : St Γ g (r :: own) s) : St Γ g (ins1 r own) s := by
  cases own with
  | nil => exact S
  | cons a l => exact S.swap
theorem ins1_get {r : Res} {own : List Res} : ∃ j, (ins1 r own)[j]? = some r ∧ ∀ r', (ins1 r own).set j r' = ins1 r' own := by
  cases own with
  | nil => exact ⟨0, rfl, fun _ => rfl⟩
  | cons a l => exact ⟨1, rfl, fun _ => rfl⟩
theorem St.drop1 {r : Res} (S : St Γ g (Mine.ins1 r own) s) : St Γ g own s := by
  cases own with
  | nil => exact S.drop
  | cons a l => exact S.swap.drop

theorem for_rule {α : Type} {T : Rep α} {l : List α} {E : Value → Shared → Prop} {target iter : Expr} {body : List Stmt} {pos : Pos} {Q : Flow → Shared → Prop}
    (h : ∀ Kh : Value → Shared → Prop, (∀ it s₂ g₂ own₂ R, Iter prog Γ A g₂ target it R T l → St Γ g₂ (R 0 :: own₂) s₂ →
      ∀ J : Nat → PMap → List Res → Prop, J 0 g₂ own₂ →
        (∀ i x v g₀ g own s, l[i]? = some x → Le g₂ g₀ → J i g₀ own → Le g₀ g → T.at' g v x → St Γ g (Mine.ins1 (R (i + 1)) own) s →
          ∀ (K : Flow → Shared → Prop) (E' : Value → Shared → Prop), (∀ g' own' s', Le g g' → J (i + 1) g' own' → St Γ g' (Mine.ins1 (R (i + 1)) own') s' → K .next s' ∧ K .cont s') →
          (∀ s', Q .next s' → K .brk s') → (∀ v s', Q (.ret v) s' → K (.ret v) s') →
          wpAny (model prog Γ.w) A (assign target env v) (fun _ s => wpAny (model prog Γ.w) A (execs body env) K E' s) E' s) →
        (∀ g own s, Le g₂ g → J l.length g own → St Γ g own s → Q .next s) → Kh it s₂) → wpAny (model prog Γ.w) A (eval iter env) (fun xv s₁ => wpAny (model prog Γ.w) A (pyIter xv) Kh E s₁) E s)
    (hs : ∀ x, foldedSetIterable iter env x = pure x := by intro _; rfl) :
    wpAny (model prog Γ.w) A (exec (.For target iter body [] pos) env) Q E s := by
  refine wpAny_For (wpAny_mono (h (fun it s₂ => ∃ g₂ own₂ R, Iter prog Γ A g₂ target it R T l ∧ St Γ g₂ (R 0 :: own₂) s₂ ∧
      ∃ J : Nat → PMap → List Res → Prop, J 0 g₂ own₂ ∧
        (∀ i x v g₀ g own s, l[i]? = some x → Le g₂ g₀ → J i g₀ own → Le g₀ g → T.at' g v x → St Γ g (Mine.ins1 (R (i + 1)) own) s →
          ∀ (K : Flow → Shared → Prop) (E' : Value → Shared → Prop), (∀ g' own' s', Le g g' → J (i + 1) g' own' → St Γ g' (Mine.ins1 (R (i + 1)) own') s' → K .next s' ∧ K .cont s') →
          (∀ s', Q .next s' → K .brk s') → (∀ v s', Q (.ret v) s' → K (.ret v) s') →
          wpAny (model prog Γ.w) A (assign target env v) (fun _ s => wpAny (model prog Γ.w) A (execs body env) K E' s) E' s) ∧
        (∀ g own s, Le g₂ g → J l.length g own → St Γ g own s → Q .next s)) fun _ _ a b c d e f g h i => ⟨a, b, c, d, e, f, g, h, i⟩) (fun xv s₁ h₁ => wpAny_mono h₁ (fun it s₂ h₂ => ?_) fun _ _ e => e) fun _ _ e => e) hs
  obtain ⟨g₂, own₂, R, I, S₂, J, hJ, turn, fin⟩ := h₂
  refine codeAny_forLoop_any (fun k s' => ∃ i g own, Le g₂ g ∧ J i g own ∧ St Γ g (Mine.ins1 (R i) own) s' ∧ i ≤ l.length ∧ k = l.length + 1 - i) ?_ (l.length + 1)
    ⟨0, g₂, own₂, Le.refl _, hJ, S₂.ins1, Nat.zero_le _, rfl⟩
  rintro k s' ⟨i, g, own, hl, hJi, S, hi, rfl⟩
  obtain ⟨j, hj, hset⟩ := ins1_get (r := R i) (own := own)
  rcases Nat.lt_or_ge i l.length with hlt | hge
  · refine wpAny_mono (I.item (i := i) (x := l[i]) (List.getElem?_eq_getElem hlt) hl S hj fun v g' s₁ hl' hT S₁ => ?_) (fun r s₁ h => by obtain ⟨v, rfl, h⟩ := h; exact wpAny_mono h (fun _ _ q => q) fun _ _ f => f.elim) fun _ _ e => e
    rw [hset] at S₁
    refine wpAny_mono (turn i _ v g g' own s₁ (List.getElem?_eq_getElem hlt) hl hJi hl' hT S₁ (fun f s' => match f with
      | .next | .cont => ∃ g'' own', Le g' g'' ∧ J (i + 1) g'' own' ∧ St Γ g'' (Mine.ins1 (R (i + 1)) own') s'
      | .brk => Q .next s'
      | .ret v => Q (.ret v) s') (fun _ _ => False) (fun g'' own' s' a b c => ⟨⟨g'', own', a, b, c⟩, ⟨g'', own', a, b, c⟩⟩) (fun _ q => q) fun _ _ q => q) (fun _ s₂ h₂ => ?_) fun _ _ f => f.elim
    refine wpAny_mono h₂ (fun f s₃ h₃ => ?_) fun _ _ f => f.elim
    have step : (∃ g'' own', Le g' g'' ∧ J (i + 1) g'' own' ∧ St Γ g'' (Mine.ins1 (R (i + 1)) own') s₃) →
        ∃ m, m < l.length + 1 - i ∧ ∃ i g own, Le g₂ g ∧ J i g own ∧ St Γ g (Mine.ins1 (R i) own) s₃ ∧ i ≤ l.length ∧ m = l.length + 1 - i := fun ⟨g'', own', a, b, c⟩ =>
      ⟨l.length + 1 - (i + 1), by omega, i + 1, g'', own', (hl.trans hl').trans a, b, c, hlt, rfl⟩
    cases f with
    | next => exact step h₃
    | cont => exact step h₃
    | brk => exact h₃
    | ret v => exact h₃
  · have e : i = l.length := by omega
    subst e
    refine I.done hl S hj fun s₁ S₁ => ?_
    rw [hset] at S₁
    exact wpAny_execs_nil (fin g own s₁ hl hJi S₁.drop1)
end
end Mine
end

section
open PySem PySem.W PyProof.Rows PySem.Calls
set_option Elab.async false
set_option autoImplicit false
set_option linter.unusedVariables false
namespace Mine

/-- a list that is being filled -/
def rAcc (a : Addr) (vs : List Value) : Res where
  fp := fun b => b = a
  P := fun h => h.PlainList a vs.toArray
  loc := fun _ _ hk ⟨n, ho⟩ => ⟨n, hk a _ rfl ho⟩
  dom := fun _ ⟨_, ho⟩ b hb => ⟨_, hb ▸ ho⟩

section
variable {prog : Program} {Γ : Pm} {g : PMap} {own : List Res} {s : Shared} {A : Around} {E : Value → Shared → Prop} {env : Env}

theorem St.accRest {a : Addr} {vs : List Value} (S : St Γ g (rAcc a vs :: own) s) : ∃ n, Le g (g.ins a (lstObj vs n)) ∧ St Γ (g.ins a (lstObj vs n)) own s := by
  obtain ⟨n, hn⟩ := S.holds 0 _ rfl
  have S' := S.turn 0 (rObj a (lstObj vs n)) rfl (fun _ h => h) (fun _ => hn)
  exact ⟨n, St.rest S'⟩

theorem q_append {i : Nat} {a : Addr} {vs : List Value} {v : Value} {Q : Value → Shared → Prop} (S : St Γ g own s) (hi : own[i]? = some (rAcc a vs)) (hz : vs.length ≤ 100000)
    (h : ∀ s', St Γ g (own.set i (rAcc a (vs ++ [v]))) s' → Q .none s') : wpAny (model prog Γ.w) A (call (.builtin "list.append") [.ref a, v]) Q E s := by
  refine wpAny_list_append_plain (S.holds i _ hi) (fun h' hp hs => h _ (S.set i _ hi (fun _ q => q) (fun b o hb e => hs.extBut b o hb e) ?_ rfl rfl)) (by rw [sizeLine_eq]; simp; omega)
  show h'.PlainList a (vs ++ [v]).toArray
  rw [← List.push_toArray]; exact hp

theorem q_newList {vs : List Value} {Q : Value → Shared → Prop} (S : St Γ g own s) (hz : vs.length ≤ 100000) (h : ∀ a s', St Γ g (rAcc a vs :: own) s' → Q (.ref a) s') :
    wpAny (model prog Γ.w) A (newList vs) Q E s := by
  refine wpAny_newObj_type (h _ _ ?_) (by show vs.toArray.size ≤ sizeLine; rw [sizeLine_eq]; simp; omega)
  exact S.cons (fun _ _ e => Heap.get?_push_of_some _ e) rfl rfl ⟨0, Heap.get?_push_size _ rfl⟩ (fun _ ha => Nat.le_of_eq ha.symm)
theorem q_newTuple {vs : List Value} {Q : Value → Shared → Prop} (S : St Γ g own s) (hz : vs.length ≤ 100000) (h : ∀ a g' s', Le g g' → g' a = some (tupObj vs 0) → St Γ g' own s' → Q (.ref a) s') :
    wpAny (model prog Γ.w) A (newTuple vs) Q E s := by
  refine wpAny_newObj_type ?_ (by show vs.toArray.size ≤ sizeLine; rw [sizeLine_eq]; simp; omega)
  have S' := S.alloc (tupObj vs 0)
  obtain ⟨hl, S2⟩ := S'.rest
  exact h _ _ _ hl ins_self S2

/-- x.append(e), a statement -/
theorem q_appendStmt {o e : Expr} {ap p1 p2 : Pos} {pl : Sem Bool} {Q : Flow → Shared → Prop}
    (h : wpAny (model prog Γ.w) A (eval o env) (fun ov s₁ => ∃ a, ov = .ref a ∧ (∃ its, s₁.heap.PlainList a its) ∧ wpAny (model prog Γ.w) A (eval e env) (fun v s₂ => wpAny (model prog Γ.w) A (call (.builtin "list.append") [.ref a, v]) (fun r s₃ => r = .none ∧ Q .next s₃) E s₂) E s₁) E s)
    (hi : interactive env = false := by rfl) (hs : swapsWith (.Call (.Attribute o "append" ap) [e] [] p1) none p2.line env = pure false := by rfl)
    (he' : starEach [e] env = [(false, eval e env)] := by rfl)
    (he : eval (.Call (.Attribute o "append" ap) [e] [] p1) env = (do
      let ov ← eval o env
      standAt ap.atName
      let (f, first) ← holding [ov] (getMethod ov "append" pl)
      callWith p1 f first (backTo p1 (starEach [e] env)) []) := by rfl) :
    wpAny (model prog Γ.w) A (exec (.Expr (.Call (.Attribute o "append" ap) [e] [] p1) p2) env) Q E s := by
  refine wpAny_Expr ?_ hi hs
  refine MethodCall_ (pl := pl) ?_ he
  refine wpAny_mono h (fun ov s₁ h₁ => ?_) fun _ _ x => x
  obtain ⟨a, rfl, ⟨its, n, hp⟩, h₂⟩ := h₁
  refine getMethod_list_append hp rfl rfl ?_
  refine callWith_method1 ?_ he'
  refine args_cons ?_ he'
  refine wpAny_mono h₂ (fun v s₂ h₃ => ?_) fun _ _ x => x
  refine args_nil ?_
  exact wpAny_mono h₃ (fun r s₃ h₄ => by rw [h₄.1]; exact h₄.2) fun _ _ x => x

abbrev testsOf (ifs : List Expr) (env : Env) : Sem Bool := forIn ifs true fun c r => if r = true then do let ok ← isTrue c env (eval c env); pure (ForInStep.yield ok) else pure (ForInStep.yield r)

theorem compLoop_lets {elt target iter : Expr} {ifs : List Expr} {scope : Scope} {pos : Pos} {it acc : Value} {R : Result → Shared → Prop} (I : Nat → Shared → Prop)
    (turn : ∀ n s, I n s → wpAny (model prog Γ.w) A (pyNext it) (fun r s₁ => match r with
      | none => R (.ok .next) s₁
      | some v => wpAny (model prog Γ.w) A (letOwnedTupleGo target it v) (fun _ s₁ => wpAny (model prog Γ.w) A (assign target env v) (fun _ s₂ =>
          wpAny (model prog Γ.w) A (testsOf ifs env) (fun ok s₃ =>
            if ok = true then wpAny (model prog Γ.w) A (eval elt env) (fun x s₄ =>
              wpAny (model prog Γ.w) A (call (.builtin "list.append") [acc, x]) (fun _ s₅ => ∃ m, m < n ∧ I m s₅) (fun _ _ => False) s₄) (fun _ _ => False) s₃
            else ∃ m, m < n ∧ I m s₃) (fun _ _ => False) s₂) (fun _ _ => False) s₁) (fun _ _ => False) s₁) (fun _ _ => False) s)
    (n : Nat) (h : I n s) :
    codeAny (model prog Γ.w) A (.compLoop (.ListComp elt [⟨target, iter, ifs, 0⟩] scope pos) 0 it acc env) R s := by
  refine codeAny_loop rfl I (fun n s hI => ?_) n h
  show wpAny _ A ((compTurn (.ListComp elt [⟨target, iter, ifs, 0⟩] scope pos) 0 it acc env).onRaise (fun x => do noteFrame x env; theTreesLotGoes x)) _ _ s
  refine wpAny_noted ?_
  rw [compTurn_list]
  refine wpAny_bind (wpAny_standAt (wpAny_bind (wpAny_mono (turn n s hI) (fun r s₁ h₁ => ?_) fun _ _ f => f.elim)))
  cases r with
  | none => exact wpAny_pure h₁
  | some v =>
    refine wpAny_bind (wpAny_mono h₁ (fun _ s₁ h₁ => ?_) fun _ _ f => f.elim)
    refine wpAny_bind (wpAny_mono h₁ (fun _ s₂ h₂ => wpAny_bind (wpAny_mono h₂ (fun ok s₃ h₃ => ?_) fun _ _ f => f.elim)) fun _ _ f => f.elim)
    cases ok with
    | false => exact wpAny_pure ⟨rfl, h₃⟩
    | true =>
      exact wpAny_bind (wpAny_bind (wpAny_mono h₃ (fun x s₄ h₄ => wpAny_bind (wpAny_mono h₄ (fun _ s₅ h₅ => wpAny_pure (wpAny_pure ⟨rfl, h₅⟩)) fun _ _ f => f.elim)) fun _ _ f => f.elim))

theorem comp_enter {α : Type} {T : Rep α} {l : List α} {elt target iter : Expr} {ifs : List Expr} {rest : List Comprehension} {scope : Scope} {cl : List (Str × Addr)} {pos : Pos} {E : Value → Shared → Prop} {it : Value} {R : Nat → Res} {PP : Value → Addr → Result → Shared → Prop}
    (S₂ : St Γ g (R 0 :: own) s) (I : Iter prog Γ A g target it R T l) (hcell : ∀ y ∈ scope.names, y.2 ≠ .cell) (hkind : scope.kind = .function)
    (h : ∀ D ax s, St Γ g (rVars D [] (fun _ => none) :: rAcc ax [] :: R 0 :: own) s → codeAny (model prog Γ.w) A (.compLoop (.ListComp elt (⟨target, iter, ifs, 0⟩ :: rest) scope pos) 0 it (.ref ax) (compEnvC scope cl D env)) (PP (.ref ax) D) s) :
    wpAny (model prog Γ.w) A (newList []) (fun acc s₃ => wpAny (model prog Γ.w) A (newFunctionEnv scope env.globals cl [] env.qual none .none (some env)) (fun cenv s₄ =>
      codeAny (model prog Γ.w) A (.compStart (.ListComp elt (⟨target, iter, ifs, 0⟩ :: rest) scope pos) 0 it acc { cenv with scope := relabel scope env }) (PP acc cenv.locals) s₄) E s₃) E s := by
  refine q_newList S₂ (by simp) fun ax s₃ S₃ => ?_
  refine wpAny_newFunctionEnv hcell (by intro y hy; simp at hy) (fun h₁ hns₁ hsb₁ => ?_) hkind
  have S₄ : St Γ g (rVars s₃.heap.objs.size [] (fun _ => none) :: rAcc ax [] :: R 0 :: own) { s₃ with heap := h₁, toks := s₃.toks + ([] : List (Str × Value)).length } := by
    refine S₃.cons (fun b o e => hsb₁.extBut b o (Nat.ne_of_lt (Heap.lt_size e)) (Heap.get?_push_of_some _ e)) rfl rfl ⟨⟨_, hns₁, fun _ _ q => nomatch q⟩, (fun _ _ q => nomatch q), (fun _ _ _ q => nomatch q), (fun _ _ q => nomatch q)⟩ fun a ha => ?_
    rcases ha with rfl | ⟨_, q⟩
    · exact Nat.le_refl _
    · cases q
  have loop := h _ ax _ S₄
  exact codeAny_compStart_list loop (I.self (j := 2) (Le.refl _) S₄ rfl loop)

theorem comp_loop {α : Type} {T : Rep α} {l : List α} {elt target iter : Expr} {ifs : List Expr} {scope : Scope} {pos : Pos} {cenv : Env} {it : Value} {R : Nat → Res} {D ax : Addr} {m : Str → Option Value} {Rr : Result → Shared → Prop}
    (S₄ : St Γ g (rVars D [] m :: rAcc ax [] :: R 0 :: own) s) (I : Iter prog Γ A g target it R T l) (hlen : l.length ≤ 1000)
    (J : Nat → PMap → List Res → List Value → Prop) (hJ : J 0 g own [])
    (turn : ∀ i x v out m g₀ g' own s, l[i]? = some x → Le g g₀ → J i g₀ own out → Le g₀ g' → T.at' g' v x → ∀ X Y, St Γ g' (rVars D [] m :: X :: Y :: own) s →
          ∀ (K : Value → Shared → Prop) (K0 : Shared → Prop) (E' : Value → Shared → Prop), (∀ y s' g'' own' m', Le g' g'' → J (i + 1) g'' own' (out ++ [y]) → St Γ g'' (rVars D [] m' :: X :: Y :: own') s' → K y s') →
          (∀ s' g'' own' m', Le g' g'' → J (i + 1) g'' own' out → St Γ g'' (rVars D [] m' :: X :: Y :: own') s' → K0 s') →
          wpAny (model prog Γ.w) A (assign target cenv v) (fun _ s => wpAny (model prog Γ.w) A (testsOf ifs cenv) (fun ok s =>
            if ok = true then wpAny (model prog Γ.w) A (eval elt cenv) K E' s else K0 s) E' s) E' s)
    (fin : ∀ g' own out m s₁, Le g g' → J l.length g' own out → St Γ g' (rVars D [] m :: rAcc ax out :: rNone :: own) s₁ → Rr (.ok .next) s₁) :
    codeAny (model prog Γ.w) A (.compLoop (.ListComp elt [⟨target, iter, ifs, 0⟩] scope pos) 0 it (.ref ax) cenv) Rr s := by
  refine compLoop_lets (fun k s' => ∃ i out g' own m, Le g g' ∧ J i g' own out ∧ out.length ≤ i ∧ St Γ g' (rVars D [] m :: rAcc ax out :: R i :: own) s' ∧ i ≤ l.length ∧ k = l.length + 1 - i) ?_ (l.length + 1)
    ⟨0, [], g, own, _, Le.refl _, hJ, Nat.le_refl _, S₄, Nat.zero_le _, rfl⟩
  rintro k s' ⟨i, out, g₁, own, m, hl, hJi, ho, S, hi, rfl⟩
  rcases Nat.lt_or_ge i l.length with hlt | hge
  · refine wpAny_mono (I.item (i := i) (x := l[i]) (j := 2) (List.getElem?_eq_getElem hlt) hl S rfl fun v g' s₁ hl' hT S₁ => ?_) (fun r s₁ h => by obtain ⟨v, rfl, h⟩ := h; exact h) fun _ _ e => e
    refine wpAny_mono (turn i _ v out m g₁ g' own s₁ (List.getElem?_eq_getElem hlt) hl hJi hl' hT _ _ S₁ (fun y s' => ∃ g'' own' m', Le g' g'' ∧ J (i + 1) g'' own' (out ++ [y]) ∧ St Γ g'' (rVars D [] m' :: rAcc ax out :: R (i + 1) :: own') s')
      (fun s' => ∃ g'' own' m', Le g' g'' ∧ J (i + 1) g'' own' out ∧ St Γ g'' (rVars D [] m' :: rAcc ax out :: R (i + 1) :: own') s') (fun _ _ => False) (fun _ _ g'' own' m' a b c => ⟨g'', own', m', a, b, c⟩) fun _ g'' own' m' a b c => ⟨g'', own', m', a, b, c⟩) (fun _ s₂ h₂ => ?_) fun _ _ f => f.elim
    refine wpAny_mono h₂ (fun ok s₃ h₃ => ?_) fun _ _ f => f.elim
    cases ok with
    | false =>
      obtain ⟨g'', own', m', a, b, c⟩ := h₃
      exact ⟨l.length + 1 - (i + 1), by omega, i + 1, out, g'', own', m', (hl.trans hl').trans a, b, by omega, c, hlt, rfl⟩
    | true =>
      refine wpAny_mono h₃ (fun y s₄ h₄ => ?_) fun _ _ f => f.elim
      obtain ⟨g'', own', m', a, b, c⟩ := h₄
      refine q_append (i := 1) c rfl (by omega) fun s₅ S₅ => ?_
      exact ⟨l.length + 1 - (i + 1), by omega, i + 1, out ++ [y], g'', own', m', (hl.trans hl').trans a, b, by simp; omega, S₅, hlt, rfl⟩
  · have e : i = l.length := by omega
    subst e
    refine I.done (j := 2) hl S rfl fun s₁ S₁ => ?_
    exact fin g₁ own out m s₁ hl hJi S₁

theorem comp_end {E : Value → Shared → Prop} {D ax : Addr} {m : Str → Option Value} {out : List Value} {Q : Value → Shared → Prop} {f : Flow} (S₁ : St Γ g (rVars D [] m :: rAcc ax out :: rNone :: own) s)
    (h : ∀ g' n s, Le g g' → g' ax = some (lstObj out n) → St Γ g' own s → Q (.ref ax) s) : compPost (model prog Γ.w) A E none Q (.ref ax) D (.ok f) s := by
  obtain ⟨ml, hn, _⟩ := (S₁.holds 0 _ rfl).ns
  refine ⟨ml, hn, fun h' hs' => ?_⟩
  have S₂ := S₁.set (s' := { s with heap := h' }) 0 rNone rfl (fun _ f => f.elim) (fun b o hb e => hs'.extBut b o (fun q => hb (.inl q)) e) trivial rfl rfl
  obtain ⟨n, hle, S₃⟩ := St.accRest (St.drop S₂)
  exact h _ n _ hle ins_self S₃.drop

theorem comp_endU {E : Value → Shared → Prop} {D ax : Addr} {m mm : Str → Option Value} {cs : List (Str × Addr)} {out : List Value} {Q : Shared → Prop} {f : Flow} {y : Str} {py : Pos}
    (S₁ : St Γ g (rVars D [] m :: rAcc ax out :: rNone :: rVars env.locals cs mm :: own) s) (hc : cs.lookup y = none) (hk : env.scope.kind = .function) (hl : env.kindOf y = some .local)
    (h : ∀ g' n s, Le g g' → g' ax = some (lstObj out n) → St Γ g' (rVars env.locals cs (upd mm y (.ref ax)) :: own) s → Q s) :
    compPost (model prog Γ.w) A E (some (assign (.Name y py) env)) (fun _ s => Q s) (.ref ax) D (.ok f) s := by
  refine wpAny_assign_Name (st_local (i := 3) S₁ rfl (fun s S => ?_) hc hk hl)
  obtain ⟨ml, hn, _⟩ := (S.holds 0 _ rfl).ns
  refine ⟨ml, hn, fun h' hs' => ?_⟩
  have S₂ := S.set (s' := { s with heap := h' }) 0 rNone rfl (fun _ f => f.elim) (fun b o hb e => hs'.extBut b o (fun q => hb (.inl q)) e) trivial rfl rfl
  obtain ⟨n, hle, S₃⟩ := St.accRest (St.drop S₂)
  exact h _ n _ hle ins_self S₃.drop

/-- [elt for target in iter if ..] -/
theorem comp_rule {α : Type} {T : Rep α} {l : List α} {E : Value → Shared → Prop} {elt target iter : Expr} {ifs : List Expr} {scope : Scope} {cl : List (Str × Addr)} {pos : Pos} {Q : Value → Shared → Prop}
    (hclos : closureFor scope env = pure cl) (hcell : ∀ y ∈ scope.names, y.2 ≠ .cell) (hnames : ∀ y ∈ scope.names, y.2 = .local → scope.names.lookup y.1 = some .local)
    (h : ∀ Kh : Value → Shared → Prop, (∀ it s₂ g₂ own₂ R, Iter prog Γ A g₂ target it R T l → l.length ≤ 1000 → St Γ g₂ (R 0 :: own₂) s₂ →
      ∀ J : Nat → PMap → List Res → List Value → Prop, J 0 g₂ own₂ [] →
        (∀ i x v out D m g₀ g own s, l[i]? = some x → Le g₂ g₀ → J i g₀ own out → Le g₀ g → T.at' g v x → ∀ X Y, St Γ g (rVars D [] m :: X :: Y :: own) s →
          ∀ (K : Value → Shared → Prop) (K0 : Shared → Prop) (E' : Value → Shared → Prop), (∀ y s' g' own' m', Le g g' → J (i + 1) g' own' (out ++ [y]) → St Γ g' (rVars D [] m' :: X :: Y :: own') s' → K y s') →
          (∀ s' g' own' m', Le g g' → J (i + 1) g' own' out → St Γ g' (rVars D [] m' :: X :: Y :: own') s' → K0 s') →
          wpAny (model prog Γ.w) A (assign target (compEnvC scope cl D env) v) (fun _ s => wpAny (model prog Γ.w) A (testsOf ifs (compEnvC scope cl D env)) (fun ok s =>
            if ok = true then wpAny (model prog Γ.w) A (eval elt (compEnvC scope cl D env)) K E' s else K0 s) E' s) E' s) →
        (∀ g g' own out a n s, Le g₂ g → J l.length g own out → Le g g' → g' a = some (lstObj out n) → St Γ g' own s → Q (.ref a) s) → Kh it s₂) → wpAny (model prog Γ.w) A (eval iter env) (fun xv s₁ => wpAny (model prog Γ.w) A (pyIter xv) Kh E s₁) E s)
    (hs : ∀ x, foldedSetIterable iter env x = pure x := by intro _; rfl) (hkind : scope.kind = .function := by rfl) :
    wpAny (model prog Γ.w) A (eval (.ListComp elt [⟨target, iter, ifs, 0⟩] scope pos) env) Q E s := by
  rw [eval_ListComp]
  refine wpAny_comprehension_free (use := none) rfl hs hclos hkind hnames (wpAny_mono (h (fun it s₂ => ∃ g₂ own₂ R, Iter prog Γ A g₂ target it R T l ∧ l.length ≤ 1000 ∧ St Γ g₂ (R 0 :: own₂) s₂ ∧
      ∃ J : Nat → PMap → List Res → List Value → Prop, J 0 g₂ own₂ [] ∧
        (∀ i x v out D m g₀ g own s, l[i]? = some x → Le g₂ g₀ → J i g₀ own out → Le g₀ g → T.at' g v x → ∀ X Y, St Γ g (rVars D [] m :: X :: Y :: own) s →
          ∀ (K : Value → Shared → Prop) (K0 : Shared → Prop) (E' : Value → Shared → Prop), (∀ y s' g' own' m', Le g g' → J (i + 1) g' own' (out ++ [y]) → St Γ g' (rVars D [] m' :: X :: Y :: own') s' → K y s') →
          (∀ s' g' own' m', Le g g' → J (i + 1) g' own' out → St Γ g' (rVars D [] m' :: X :: Y :: own') s' → K0 s') →
          wpAny (model prog Γ.w) A (assign target (compEnvC scope cl D env) v) (fun _ s => wpAny (model prog Γ.w) A (testsOf ifs (compEnvC scope cl D env)) (fun ok s =>
            if ok = true then wpAny (model prog Γ.w) A (eval elt (compEnvC scope cl D env)) K E' s else K0 s) E' s) E' s) ∧
        (∀ g g' own out a n s, Le g₂ g → J l.length g own out → Le g g' → g' a = some (lstObj out n) → St Γ g' own s → Q (.ref a) s)) fun _ _ a b c d e f g h i j => ⟨a, b, c, d, e, f, g, h, i, j⟩) (fun xv s₁ h₁ => wpAny_mono h₁ (fun it s₂ h₂ => ?_) fun _ _ e => e) fun _ _ e => e)
  obtain ⟨g₂, own₂, R, I, hlen, S₂, J, hJ, turn, fin⟩ := h₂
  refine comp_enter (PP := fun acc D => compPost (model prog Γ.w) A E none Q acc D) S₂ I hcell hkind fun D ax s S => ?_
  refine comp_loop S I hlen J hJ (fun i x v out m g₀ g' own s a b c d e X Y S => turn i x v out D m g₀ g' own s a b c d e X Y S) fun g' own out m s₁ a b S => ?_
  exact comp_end S fun g'' n s c d S => fin g' g'' own out ax n s a b c d S

/-- y = [elt for target in iter if ..], y a local of the def (the store goes before the letters are let go) -/
theorem assign_comp_rule {α : Type} {T : Rep α} {l : List α} {E : Value → Shared → Prop} {elt target iter : Expr} {ifs : List Expr} {scope : Scope} {cl : List (Str × Addr)} {pos spos py : Pos} {y : Str} {Q : Flow → Shared → Prop}
    (hsw : swapsWith (.ListComp elt [⟨target, iter, ifs, 0⟩] scope pos) (some (.Name y py)) spos.line env = pure true)
    (hclos : closureFor scope env = pure cl) (hcell : ∀ y ∈ scope.names, y.2 ≠ .cell) (hnames : ∀ y ∈ scope.names, y.2 = .local → scope.names.lookup y.1 = some .local)
    (hk : env.scope.kind = .function) (hly : env.kindOf y = some .local)
    (h : ∀ Kh : Value → Shared → Prop, (∀ it s₂ g₂ own₂ R, Iter prog Γ A g₂ target it R T l → l.length ≤ 1000 → St Γ g₂ (R 0 :: own₂) s₂ →
      ∀ J : Nat → PMap → List Res → List Value → Prop, J 0 g₂ own₂ [] →
        (∀ i x v out D m g₀ g own s, l[i]? = some x → Le g₂ g₀ → J i g₀ own out → Le g₀ g → T.at' g v x → ∀ X Y, St Γ g (rVars D [] m :: X :: Y :: own) s →
          ∀ (K : Value → Shared → Prop) (K0 : Shared → Prop) (E' : Value → Shared → Prop), (∀ y s' g' own' m', Le g g' → J (i + 1) g' own' (out ++ [y]) → St Γ g' (rVars D [] m' :: X :: Y :: own') s' → K y s') →
          (∀ s' g' own' m', Le g g' → J (i + 1) g' own' out → St Γ g' (rVars D [] m' :: X :: Y :: own') s' → K0 s') →
          wpAny (model prog Γ.w) A (assign target (compEnvC scope cl D env) v) (fun _ s => wpAny (model prog Γ.w) A (testsOf ifs (compEnvC scope cl D env)) (fun ok s =>
            if ok = true then wpAny (model prog Γ.w) A (eval elt (compEnvC scope cl D env)) K E' s else K0 s) E' s) E' s) →
        (∀ g own out, Le g₂ g → J l.length g own out → ∃ cs mm rest, own = rVars env.locals cs mm :: rest ∧ cs.lookup y = none ∧
          ∀ g' a n s, Le g g' → g' a = some (lstObj out n) → St Γ g' (rVars env.locals cs (upd mm y (.ref a)) :: rest) s → Q .next s) → Kh it s₂) → wpAny (model prog Γ.w) A (eval iter env) (fun xv s₁ => wpAny (model prog Γ.w) A (pyIter xv) Kh E s₁) E s)
    (hs : ∀ x, foldedSetIterable iter env x = pure x := by intro _; rfl) (hkind : scope.kind = .function := by rfl) :
    wpAny (model prog Γ.w) A (exec (.Assign [.Name y py] (.ListComp elt [⟨target, iter, ifs, 0⟩] scope pos) spos) env) Q E s := by
  rw [exec_Assign_Name_used _ _ _ _ hsw]
  refine wpAny_bind (wpAny_standAt (wpAny_bind ?_))
  show wpAny _ A (do let _ ← comprehension (.ListComp elt [⟨target, iter, ifs, 0⟩] scope pos) scope env _ (newList []) false (eval iter env) (some (assign (.Name y py) env))) _ _ s
  refine wpAny_bind (wpAny_mono (wpAny_comprehension_free (Q := fun _ s' => Q .next s') (use := some (assign (.Name y py) env)) rfl hs hclos hkind hnames (wpAny_mono (h (fun it s₂ => ∃ g₂ own₂ R, Iter prog Γ A g₂ target it R T l ∧ l.length ≤ 1000 ∧ St Γ g₂ (R 0 :: own₂) s₂ ∧
      ∃ J : Nat → PMap → List Res → List Value → Prop, J 0 g₂ own₂ [] ∧
        (∀ i x v out D m g₀ g own s, l[i]? = some x → Le g₂ g₀ → J i g₀ own out → Le g₀ g → T.at' g v x → ∀ X Y, St Γ g (rVars D [] m :: X :: Y :: own) s →
          ∀ (K : Value → Shared → Prop) (K0 : Shared → Prop) (E' : Value → Shared → Prop), (∀ y s' g' own' m', Le g g' → J (i + 1) g' own' (out ++ [y]) → St Γ g' (rVars D [] m' :: X :: Y :: own') s' → K y s') →
          (∀ s' g' own' m', Le g g' → J (i + 1) g' own' out → St Γ g' (rVars D [] m' :: X :: Y :: own') s' → K0 s') →
          wpAny (model prog Γ.w) A (assign target (compEnvC scope cl D env) v) (fun _ s => wpAny (model prog Γ.w) A (testsOf ifs (compEnvC scope cl D env)) (fun ok s =>
            if ok = true then wpAny (model prog Γ.w) A (eval elt (compEnvC scope cl D env)) K E' s else K0 s) E' s) E' s) ∧
        (∀ g own out, Le g₂ g → J l.length g own out → ∃ cs mm rest, own = rVars env.locals cs mm :: rest ∧ cs.lookup y = none ∧
          ∀ g' a n s, Le g g' → g' a = some (lstObj out n) → St Γ g' (rVars env.locals cs (upd mm y (.ref a)) :: rest) s → Q .next s)) fun _ _ a b c d e f g h i j => ⟨a, b, c, d, e, f, g, h, i, j⟩) (fun xv s₁ h₁ => wpAny_mono h₁ (fun it s₂ h₂ => ?_) fun _ _ e => e) fun _ _ e => e))
    (fun _ s' hq => wpAny_pure (wpAny_pure hq)) fun _ _ e => e)
  obtain ⟨g₂, own₂, R, I, hlen, S₂, J, hJ, turn, fin⟩ := h₂
  refine comp_enter (PP := fun acc D => compPost (model prog Γ.w) A E (some (assign (.Name y py) env)) (fun _ s => Q .next s) acc D) S₂ I hcell hkind fun D ax s S => ?_
  refine comp_loop S I hlen J hJ (fun i x v out m g₀ g' own s a b c d e X Y S => turn i x v out D m g₀ g' own s a b c d e X Y S) fun g' own out m s₁ a b S => ?_
  obtain ⟨cs, mm, rest, rfl, hc, fin'⟩ := fin g' own out a b
  exact comp_endU (Q := fun s => Q .next s) S hc hk hly fun g'' n s c d S => fin' g'' ax n s c d S
end
end Mine
end

section
open PySem PySem.W PyProof.Rows PySem.Calls
set_option Elab.async false
set_option autoImplicit false
set_option linter.unusedVariables false
namespace Mine

theorem intsAre {g : PMap} {vs : List Value} {l : List Int} (h : All2 (rInt.at' g) vs l) : IntsAre vs l := by
  induction h with
  | nil => exact .nil
  | cons h _ ih => obtain ⟨t, rfl⟩ := h; exact .cons _ t ih

section
variable {prog : Program} {Γ : Pm} {g : PMap} {own : List Res} {s : Shared} {A : Around} {E : Value → Shared → Prop} {env : Env}

theorem q_inT {v : Value} {l : List Int} {k : Int} {t : Tok} {Q : Value → Shared → Prop} (S : St Γ g own s) (hv : (rTup rInt).at' g v l) (h : Q (.bool (l.any (· == k))) s) :
    wpAny (model prog Γ.w) A (compareOp .In (.int k t) v) Q E s := by
  obtain ⟨a, vs, n, rfl, hg, hr⟩ := hv
  exact in_tuple_ints (isTup_of S hg) (by simpa using intsAre hr) h
theorem q_notinL {v : Value} {l : List Int} {k : Int} {t : Tok} {Q : Value → Shared → Prop} (S : St Γ g own s) (hv : (rLst rInt).at' g v l) (h : Q (.bool (!(l.any (· == k)))) s) :
    wpAny (model prog Γ.w) A (compareOp .NotIn (.int k t) v) Q E s := by
  obtain ⟨a, vs, n, rfl, hg, hr⟩ := hv
  exact notin_list_ints (isList_of S hg) (intsAre hr) h
theorem q_inL {v : Value} {l : List Int} {k : Int} {t : Tok} {Q : Value → Shared → Prop} (S : St Γ g own s) (hv : (rLst rInt).at' g v l) (h : Q (.bool (l.any (· == k))) s) :
    wpAny (model prog Γ.w) A (compareOp .In (.int k t) v) Q E s := by
  obtain ⟨a, vs, n, rfl, hg, hr⟩ := hv
  exact in_list_ints (isList_of S hg) (intsAre hr) h

/-- the values of a list, made into an immutable one -/
theorem q_listDisp {α : Type} {T : Rep α} {vs : List Value} {l : List α} {Q : Value → Shared → Prop} (S : St Γ g own s) (hr : All2 (T.at' g) vs l) (hz : vs.length ≤ 100000)
    (h : ∀ v g' s', Le g g' → (rLst T).at' g' v l → St Γ g' own s' → Q v s') : wpAny (model prog Γ.w) A (newList vs) Q E s := by
  refine q_newList S hz fun a s S => ?_
  obtain ⟨n, hle, S⟩ := S.accRest
  exact h _ _ s hle ⟨a, vs, n, rfl, ins_self, hr.imp fun _ _ q => T.mono hle q⟩ S
theorem q_tupDisp {α : Type} {T : Rep α} {vs : List Value} {l : List α} {Q : Value → Shared → Prop} (S : St Γ g own s) (hr : All2 (T.at' g) vs l) (hz : vs.length ≤ 100000)
    (h : ∀ v g' s', Le g g' → (rTup T).at' g' v l → St Γ g' own s' → Q v s') : wpAny (model prog Γ.w) A (newTuple vs) Q E s :=
  q_newTuple S hz fun a g' s' hle hg S => h _ _ s' hle ⟨a, vs, 0, rfl, hg, hr.imp fun _ _ q => T.mono hle q⟩ S

theorem q_addL {α : Type} {T : Rep α} {v u : Value} {l m : List α} {Q : Value → Shared → Prop} (S : St Γ g own s) (hv : (rLst T).at' g v l) (hu : (rLst T).at' g u m) (hz : l.length + m.length ≤ 100000)
    (h : ∀ r g' s', Le g g' → (rLst T).at' g' r (l ++ m) → St Γ g' own s' → Q r s') : wpAny (model prog Γ.w) A (binaryOp .Add v u) Q E s := by
  obtain ⟨a, vs, n, rfl, hg, hr⟩ := hv
  obtain ⟨b, us, k, rfl, hg', hr'⟩ := hu
  have e1 := hr.length
  have e2 := hr'.length
  refine P.add_list (items := vs.toArray) (items2 := us.toArray) (S.keep _ _ hg) (S.keep _ _ hg') ?_ (by rw [sizeLine_eq]; simp; omega)
  have e : vs.toArray ++ us.toArray = (vs ++ us).toArray := by simp
  rw [e]
  obtain ⟨hle, S2⟩ := (S.alloc (lstObj (vs ++ us) 0)).rest
  exact h _ _ _ hle ⟨_, _, _, rfl, ins_self, (hr.append hr').imp fun _ _ q => T.mono hle q⟩ S2

theorem q_addT {α : Type} {T : Rep α} {v u : Value} {l m : List α} {Q : Value → Shared → Prop} (S : St Γ g own s) (hv : (rTup T).at' g v l) (hu : (rTup T).at' g u m) (hm : m ≠ []) (hz : l.length + m.length ≤ 100000)
    (h : ∀ r g' s', Le g g' → (rTup T).at' g' r (l ++ m) → St Γ g' own s' → Q r s') : wpAny (model prog Γ.w) A (binaryOp .Add v u) Q E s := by
  have hu0 := hu
  obtain ⟨a, vs, n, rfl, hg, hr⟩ := hv
  obtain ⟨b, us, k, rfl, hg', hr'⟩ := hu
  have e1 := hr.length
  have e2 := hr'.length
  have hus : us ≠ [] := fun q => by
    have hl : m.length = 0 := by rw [← e2, q]; rfl
    exact hm (List.length_eq_zero_iff.mp hl)
  by_cases hvs : vs = []
  · have hl0 : l = [] := List.length_eq_zero_iff.mp (by rw [← e1, hvs]; rfl)
    subst hl0
    exact concat_meets ⟨_, S.keep _ _ hg, rfl⟩ ⟨_, S.keep _ _ hg', rfl⟩ noFill_tuple_add seq_tuple_add PySem.F.slot_tuple_add PySem.F.entry_tuple_add (PySem.F.args_tuple_add_2 _ _)
      (tuple_addW0 a b vs.toArray us.toArray n k none none #[] #[] (by simp [hvs])) ⟨S.keep _ _ hg, S.keep _ _ hg', h _ _ _ (Le.refl _) hu0 S⟩
  · refine concat_meets ⟨_, S.keep _ _ hg, rfl⟩ ⟨_, S.keep _ _ hg', rfl⟩ noFill_tuple_add seq_tuple_add PySem.F.slot_tuple_add PySem.F.entry_tuple_add (PySem.F.args_tuple_add_2 _ _)
      (tuple_addW2 a b vs.toArray us.toArray n k none none #[] #[] (by simpa using hvs) (by simpa using hus) (by rw [sizeLine_eq]; simp; omega)) ⟨S.keep _ _ hg, S.keep _ _ hg', ?_⟩
    have e : vs.toArray ++ us.toArray = (vs ++ us).toArray := by simp
    rw [e]
    obtain ⟨hle, S2⟩ := (S.alloc (tupObj (vs ++ us) 0)).rest
    exact h _ _ _ hle ⟨_, _, _, rfl, ins_self, (hr.append hr').imp fun _ _ q => T.mono hle q⟩ S2

theorem q_lastL {α : Type} {R : Rep α} {v : Value} {l : List α} {u : Tok} {x : α} {value slice : Expr} {Q : Value → Shared → Prop} (S : St Γ g own s) (hv : (rLst R).at' g v l) (hx : l.getLast? = some x)
    (h : ∀ r, R.at' g r x → Q r s) (hs : ∀ a, subscripted slice false (.ref a) (.int (-1) u) = operate [.ref a, .int (-1) u] (getItem (.ref a) (.int (-1) u)) := by intro _; with_unfolding_all rfl) :
    wpAny (model prog Γ.w) A (subscriptTail value slice v (.int (-1) u)) Q E s := by
  obtain ⟨a, vs, n, rfl, hg, hr⟩ := hv
  rw [List.getLast?_eq_getElem?] at hx
  obtain ⟨r, hr1, hr2⟩ := hr.get hx
  have hL := isList_of S hg
  have hlt := (List.getElem?_eq_some_iff.mp hr1).1
  have hlen := hr.length
  refine tail_any hL.typeIs PySem.slot_list_getitem.lookup (wpAny_getItem_list_neg hL (by decide) (by simp; omega) (by decide) ?_ (h r hr2)) (hs a)
  have e : ((-1 : Int) + (vs.toArray.size : Int)).toNat = l.length - 1 := by simp; omega
  rw [e]; simpa using hr1
theorem q_neg {a : Int} {t : Tok} {Q : Value → Shared → Prop} (S : St Γ g own s) (h : ∀ r s', St Γ g own s' → Q (.int (-a) r) s') : wpAny (model prog Γ.w) A (unaryOp .USub (.int a t)) Q E s := neg_int (h _ _ (S.toks _))
end
end Mine
end

section
open PySem PySem.W PyProof.Rows PySem.Calls
set_option Elab.async false
set_option autoImplicit false
set_option maxRecDepth 100000
set_option linter.unusedVariables false
namespace Mine

def mv (moves : List (List Int)) (q a : Int) : Int := (moves.getD (q - 1).toNat []).getD (a - 1).toNat 0
def statesOf (moves : List (List Int)) : Int → List Int → List Int
  | _, [] => []
  | q, a :: w => if q ≠ 0 then mv moves q a :: statesOf moves (mv moves q a) w else statesOf moves q w

structure WF (moves : List (List Int)) (ns ms : Nat) : Prop where
  n1 : 1 ≤ ns
  n3 : ns ≤ 3
  m1 : 1 ≤ ms
  m3 : ms ≤ 3
  len : moves.length = ns
  row : ∀ r ∈ moves, r.length = ms ∧ ∀ e ∈ r, 0 ≤ e ∧ e ≤ (ns : Int)

theorem WF.at {moves : List (List Int)} {ns ms : Nat} (W : WF moves ns ms) {q a : Int} (hq : 1 ≤ q ∧ q ≤ ns) (ha : 1 ≤ a ∧ a ≤ ms) :
    ∃ r, moves[(q - 1).toNat]? = some r ∧ r[(a - 1).toNat]? = some (mv moves q a) ∧ 0 ≤ mv moves q a ∧ mv moves q a ≤ ns := by
  have h1 : (q - 1).toNat < moves.length := by rw [W.len]; omega
  have hr := W.row _ (List.getElem_mem h1)
  have h2 : (a - 1).toNat < moves[(q - 1).toNat].length := by rw [hr.1]; omega
  have e : mv moves q a = moves[(q - 1).toNat][(a - 1).toNat] := by
    unfold mv
    simp only [List.getD_eq_getElem?_getD, List.getElem?_eq_getElem h1, Option.getD_some, List.getElem?_eq_getElem h2]
  exact ⟨_, List.getElem?_eq_getElem h1, by rw [e]; exact List.getElem?_eq_getElem h2, by rw [e]; exact hr.2 _ (List.getElem_mem h2)⟩

inductive JStates (g : PMap) (vm : Value) (L a : Addr) (own : List Res) (ns : Nat) (moves : List (List Int)) (st : Int) (word : List Int) (i : Nat) (g' : PMap) (own' : List Res) : Prop
  | mk (m : Str → Option Value) (out : List Value) (q : Int) (t : Tok) (f1 : own' = rVars L [] m :: rAcc a out :: own) (f2 : m "moves" = some vm) (f3 : m "met" = some (.ref a)) (f4 : m "state" = some (.int q t)) (f5 : out.length ≤ i) (f6 : (0 ≤ q ∧ q ≤ (ns : Int))) (pre : List Int) (f7 : All2 (rInt.at' g) out pre) (f8 : statesOf moves st word = pre ++ statesOf moves q (word.drop i))

section
variable {prog : Program} {Γ : Pm} {g : PMap} {own : List Res} {s : Shared} {A : Around} {E : Value → Shared → Prop}
set_option maxHeartbeats 4000000 in
theorem states_spec {moves : List (List Int)} {ns ms : Nat} {vm vw : Value} {st : Int} {tk : Tok} {word : List Int} {Q : Value → Shared → Prop}
    (S : St Γ g own s) (hA : Room A 5) (hm : (rTup (rTup rInt)).at' g vm moves) (hw : (rTup rInt).at' g vw word) (W : WF moves ns ms) (hst : 0 ≤ st ∧ st ≤ ns) (hwd : ∀ a ∈ word, 1 ≤ a ∧ a ≤ (ms : Int)) (hlen : word.length ≤ 100)
    (h : ∀ v g' s', Le g g' → (rLst rInt).at' g' v (statesOf moves st word) → St Γ g' own s' → Q v s') :
    wpAny (model prog Γ.w) A (call (.ref 187) [vm, .int st tk, vw]) Q E s := by
  refine call_fn (fun _ => []) (n := 4) S hA (by rfl) (by rfl) (by rfl) (by rfl) (by rfl) (fun _ => rfl) fun L A s hA S => ?_
  refine wpAny_execs_cons (wpAny_Assign_Name ?_)
  refine List_ ?_
  refine args_nil ?_
  refine q_newList S (by decide) fun a s S => ?_
  have S := S.swap
  refine st_local (i := 0) S rfl fun s S => ?_
  refine wpAny_execs_cons ?_
  refine for_rule (l := word) (T := rInt) fun Kh hKh => ?_
  refine ev_local (i := 0) S rfl (by rfl) ?_
  refine q_tupIter S hA.1 hw fun it R s I S => ?_
  refine hKh _ _ _ _ R (I _) S (fun i g' own' => JStates g vm L a own ns moves st word i g' own') ⟨_, [], st, tk, rfl, by rfl, by rfl, by rfl, Nat.le_refl _, hst, [], .nil, by simp⟩ ?_ ?_
  · rintro i x v g₀ g₁ _ s hx hl ⟨m, out, q, t, rfl, h1, h2, h3, h4, hq, pre, hpre, heq⟩ hl' ⟨tx, rfl⟩ S K E' hK hB hR
    refine wpAny_assign_Name ?_
    refine st_local (i := 0) S rfl fun s S => ?_
    have hx1 : 1 ≤ x ∧ x ≤ (ms : Int) := hwd x (List.mem_of_getElem? hx)
    have hdrop : word.drop i = x :: word.drop (i + 1) := by
      obtain ⟨hlt, hxe⟩ := List.getElem?_eq_some_iff.mp hx
      rw [← hxe]; exact List.drop_eq_getElem_cons hlt
    refine wpAny_execs_cons (wpAny_If ?_)
    refine wpAny_isTrue_Compare1 ?_
    refine ev_local (i := 0) S rfl (upd_ne (by decide) h3) ?_
    refine ev_int S fun t s S => ?_
    refine PyProof.Rows.ne_int ?_
    refine wpAny_truthy_bool ?_
    by_cases hq0 : q = 0
    · subst hq0
      rw [if_neg (by decide)]
      refine wpAny_execs_nil (wpAny_execs_nil ((hK _ (rVars L [] _ :: rAcc a _ :: own) _ (Le.refl _) ?_ S).1))
      refine ⟨_, out, 0, _, rfl, upd_ne (by decide) h1, upd_ne (by decide) h2, upd_ne (by decide) h3, by omega, hq, pre, hpre, ?_⟩
      rw [heq, hdrop]; simp [statesOf]
    · rw [if_pos (by simp [hq0])]
      obtain ⟨r, hr1, hr2, hr3, hr4⟩ := W.at (q := q) (a := x) ⟨by omega, hq.2⟩ hx1
      refine wpAny_execs_cons (wpAny_Assign_Name ?_)
      refine Subscript_ ?_
      refine Subscript_ ?_
      refine ev_local (i := 0) S rfl (upd_ne (by decide) h1) ?_
      refine wpAny_BinOp ?_
      refine ev_local (i := 0) S rfl (upd_ne (by decide) h3) ?_
      refine ev_int S fun t s S => ?_
      refine q_sub S fun t s S => ?_
      refine q_itemT S ((rTup (rTup rInt)).mono (hl.trans hl') hm) (by omega) (by have := W.n3; omega) hr1 fun v hv => ?_
      refine wpAny_BinOp ?_
      refine ev_local (i := 0) S rfl upd_self ?_
      refine ev_int S fun t s S => ?_
      refine q_sub S fun t s S => ?_
      refine q_itemT S hv (by omega) (by have := W.m3; omega) hr2 fun v hv => ?_
      obtain ⟨t, rfl⟩ := hv
      refine st_local (i := 0) S rfl fun s S => ?_
      refine wpAny_execs_cons (q_appendStmt ?_)
      refine ev_local (i := 0) S rfl (upd_ne (by decide) (upd_ne (by decide) h2)) ?_
      refine ⟨a, rfl, ⟨_, S.holds 2 _ rfl⟩, ?_⟩
      refine ev_local (i := 0) S rfl upd_self ?_
      refine q_append (i := 2) S rfl (by have := (List.getElem?_eq_some_iff.mp hx).1; omega) fun s S => ?_
      refine ⟨rfl, wpAny_execs_nil (wpAny_execs_nil ((hK _ (rVars L [] _ :: rAcc a _ :: own) _ (Le.refl _) ?_ S).1))⟩
      refine ⟨_, _, mv moves q x, t, rfl, upd_ne (by decide) (upd_ne (by decide) h1), upd_ne (by decide) (upd_ne (by decide) h2), upd_self, by simp; omega, ⟨hr3, hr4⟩,
        pre ++ [mv moves q x], hpre.snoc ⟨_, rfl⟩, ?_⟩
      rw [heq, hdrop]; simp [statesOf, hq0]
  · rintro g' _ s hl ⟨m, out, q, t, rfl, h1, h2, h3, h4, hq, pre, hpre, heq⟩ S
    refine wpAny_execs_cons (wpAny_Return_some ?_)
    refine ev_local (i := 0) S rfl h2 ?_
    have S := S.swap
    obtain ⟨n, hle, S⟩ := S.accRest
    rw [List.drop_length] at heq
    refine h _ _ s (hl.trans hle) ⟨a, out, n, rfl, ins_self, ?_⟩ S.drop
    rw [heq]
    have e : pre ++ statesOf moves q [] = pre := by simp [statesOf]
    rw [e]; exact hpre.imp fun _ _ q => rInt.mono (Le.refl _) q
end
end Mine
end

section
open PySem PySem.W PyProof.Rows PySem.Calls
set_option Elab.async false
set_option autoImplicit false
set_option maxRecDepth 100000
set_option linter.unusedVariables false
namespace Mine

def lastOf (moves : List (List Int)) (q : Int) (word : List Int) : Int := ((q :: statesOf moves q word).getLast?).getD 0
def endsOf (moves : List (List Int)) (finals : List Int) (q : Int) (word : List Int) : Bool := finals.any (· == lastOf moves q word)

theorem statesOf_len (moves : List (List Int)) : ∀ (w : List Int) (q : Int), (statesOf moves q w).length ≤ w.length
  | [], _ => Nat.le_refl _
  | a :: w, q => by
    unfold statesOf
    split
    · simpa using statesOf_len moves w _
    · exact Nat.le_succ_of_le (statesOf_len moves w q)

section
variable {prog : Program} {Γ : Pm} {g : PMap} {own : List Res} {s : Shared} {A : Around} {E : Value → Shared → Prop}
set_option maxHeartbeats 4000000 in
theorem ends_spec {moves : List (List Int)} {ns ms : Nat} {vm vf vw : Value} {st : Int} {tk : Tok} {word finals : List Int} {Q : Value → Shared → Prop}
    (S : St Γ g own s) (hA : Room A 7) (hm : (rTup (rTup rInt)).at' g vm moves) (hf : (rTup rInt).at' g vf finals) (hw : (rTup rInt).at' g vw word) (W : WF moves ns ms) (hst : 0 ≤ st ∧ st ≤ ns) (hwd : ∀ a ∈ word, 1 ≤ a ∧ a ≤ (ms : Int)) (hlen : word.length ≤ 100)
    (h : ∀ g' s', Le g g' → St Γ g' own s' → Q (.bool (endsOf moves finals st word)) s') :
    wpAny (model prog Γ.w) A (call (.ref 194) [vm, vf, .int st tk, vw]) Q E s := by
  refine call_fn (fun _ => []) (n := 6) S hA (by rfl) (by rfl) (by rfl) (by rfl) (by rfl) (fun _ => rfl) fun L A s hA S => ?_
  refine wpAny_execs_cons (wpAny_Return_some ?_)
  refine wpAny_Compare1 ?_
  refine Subscript_ ?_
  refine wpAny_BinOp ?_
  refine List_ ?_
  refine args_cons ?_
  refine ev_local (i := 0) S rfl (by rfl) ?_
  refine args_nil ?_
  refine q_listDisp (T := rInt) (l := [st]) S (.cons ⟨_, rfl⟩ .nil) (by simp) fun v1 g1 s hl1 h1 S => ?_
  refine Call_ ?_
  refine ev_global S (by rfl) ?_
  refine cw_fn S (by rfl) rfl ?_
  refine args_cons ?_
  refine ev_local (i := 0) S rfl (by rfl) ?_
  refine args_cons ?_
  refine ev_local (i := 0) S rfl (by rfl) ?_
  refine args_cons ?_
  refine ev_local (i := 0) S rfl (by rfl) ?_
  refine args_nil ⟨S.ge, ?_⟩
  refine states_spec S hA.le ((rTup (rTup rInt)).mono hl1 hm) ((rTup rInt).mono hl1 hw) W hst hwd hlen fun v2 g2 s hl2 h2 S => ?_
  have hsl := statesOf_len moves word st
  refine q_addL S ((rLst rInt).mono hl2 h1) h2 (by simp; omega) fun v3 g3 s hl3 h3 S => ?_
  refine UnaryOp_ ?_
  refine ev_int S fun t s S => ?_
  refine q_neg S fun t s S => ?_
  obtain ⟨x, hx⟩ : ∃ x, ([st] ++ statesOf moves st word).getLast? = some x := ⟨_, List.getLast?_eq_some_getLast (by simp)⟩
  refine q_lastL S h3 hx fun r hr => ?_
  obtain ⟨t, rfl⟩ := hr
  refine ev_local (i := 0) S rfl (by rfl) ?_
  refine q_inT S ((rTup rInt).mono ((hl1.trans hl2).trans hl3) hf) ?_
  have e : endsOf moves finals st word = finals.any (· == x) := by
    unfold endsOf lastOf
    rw [show (st :: statesOf moves st word).getLast? = some x from hx]; rfl
  have := h g3 s ((hl1.trans hl2).trans hl3) S.drop
  rw [e] at this; exact this
end
end Mine
end

section
open PySem PySem.W PyProof.Rows PySem.Calls
set_option Elab.async false
set_option autoImplicit false
set_option maxRecDepth 100000
set_option linter.unusedVariables false
namespace Mine

section
variable {prog : Program} {Γ : Pm} {g : PMap} {own : List Res} {s : Shared} {A : Around} {E : Value → Shared → Prop} {env : Env}

theorem compTurn2o (elt t1 i1 t2 i2 : Expr) (scope : Scope) (pos : Pos) (it acc : Value) (env : Env) :
    compTurn (.ListComp elt [⟨t1, i1, [], 0⟩, ⟨t2, i2, [], 0⟩] scope pos) 0 it acc env = (do
      standAt i1.pos
      match ← pyNext it with
      | none => pure (.done .next)
      | some v =>
        letOwnedTupleGo t1 it v
        assign t1 env v
        let x ← eval i2 env
        standAt i2.pos
        let x ← foldedSetIterable i2 env x
        let _ ← runOwn (.compStart (.ListComp elt [⟨t1, i1, [], 0⟩, ⟨t2, i2, [], 0⟩] scope pos) 1 (← holding [x] (pyIter x)) acc env) env
        again (.compLoop (.ListComp elt [⟨t1, i1, [], 0⟩, ⟨t2, i2, [], 0⟩] scope pos) 0 it acc env)) := by rfl
theorem compTurn2i (elt t1 i1 t2 i2 : Expr) (scope : Scope) (pos : Pos) (it acc : Value) (env : Env) :
    compTurn (.ListComp elt [⟨t1, i1, [], 0⟩, ⟨t2, i2, [], 0⟩] scope pos) 1 it acc env = (do
      standAt i2.pos
      match ← pyNext it with
      | none => pure (.done .next)
      | some v =>
        letOwnedTupleGo t2 it v
        assign t2 env v
        (do let _ ← call (.builtin "list.append") [acc, ← eval elt env])
        again (.compLoop (.ListComp elt [⟨t1, i1, [], 0⟩, ⟨t2, i2, [], 0⟩] scope pos) 1 it acc env)) := by rfl

/-- the inner run of a comprehension of two for's -/
theorem comp2_inner {α : Type} {T : Rep α} {l : List α} {elt t1 i1 t2 i2 : Expr} {scope : Scope} {pos : Pos} {cenv : Env} {it : Value} {R : Nat → Res} {D ax : Addr} {m : Str → Option Value} {out₀ : List Value} {Z : Res} {Rr : Result → Shared → Prop}
    (S₄ : St Γ g (R 0 :: rVars D [] m :: rAcc ax out₀ :: Z :: own) s) (I : Iter prog Γ A g t2 it R T l) (hlen : out₀.length + l.length ≤ 50000)
    (K : Nat → PMap → List Res → (Str → Option Value) → List Value → Prop) (hK : K 0 g own m [])
    (turn : ∀ i x v out m g₀ g' own s, l[i]? = some x → Le g g₀ → K i g₀ own m out → Le g₀ g' → T.at' g' v x → ∀ Y X, St Γ g' (Y :: rVars D [] m :: X :: Z :: own) s →
          wpAny (model prog Γ.w) A (assign t2 cenv v) (fun _ s => wpAny (model prog Γ.w) A (eval elt cenv) (fun y s' => ∃ g'' own' m', Le g' g'' ∧ K (i + 1) g'' own' m' (out ++ [y]) ∧ St Γ g'' (Y :: rVars D [] m' :: X :: Z :: own') s') (fun _ _ => False) s) (fun _ _ => False) s)
    (fin : ∀ g' own out m s₁, Le g g' → K l.length g' own m out → St Γ g' (rVars D [] m :: rAcc ax (out₀ ++ out) :: Z :: own) s₁ → Rr (.ok .next) s₁) :
    codeAny (model prog Γ.w) A (.compStart (.ListComp elt [⟨t1, i1, [], 0⟩, ⟨t2, i2, [], 0⟩] scope pos) 1 it (.ref ax) cenv) Rr s := by
  have loop : codeAny (model prog Γ.w) A (.compLoop (.ListComp elt [⟨t1, i1, [], 0⟩, ⟨t2, i2, [], 0⟩] scope pos) 1 it (.ref ax) cenv) Rr s := by
    refine codeAny_loop rfl (fun k s' => ∃ i out g' own m, Le g g' ∧ K i g' own m out ∧ out.length ≤ i ∧ St Γ g' (R i :: rVars D [] m :: rAcc ax (out₀ ++ out) :: Z :: own) s' ∧ i ≤ l.length ∧ k = l.length + 1 - i) (fun n s hI => ?_) (l.length + 1)
      ⟨0, [], g, own, _, Le.refl _, hK, Nat.le_refl _, by rw [List.append_nil]; exact S₄, Nat.zero_le _, rfl⟩
    show wpAny _ _ ((compTurn (.ListComp elt [⟨t1, i1, [], 0⟩, ⟨t2, i2, [], 0⟩] scope pos) 1 it (.ref ax) cenv).onRaise (fun x => do noteFrame x cenv; theTreesLotGoes x)) _ _ s
    refine wpAny_noted ?_
    rw [compTurn2i]
    refine wpAny_bind (wpAny_standAt (wpAny_bind ?_))
    obtain ⟨i, out, g₁, own, m, hl, hJi, ho, S, hi, rfl⟩ := hI
    rcases Nat.lt_or_ge i l.length with hlt | hge
    · refine wpAny_mono (I.item (i := i) (x := l[i]) (j := 0) (List.getElem?_eq_getElem hlt) hl S rfl fun v g' s₁ hl' hT S₁ => ?_) (fun r s₁ h => by obtain ⟨v, rfl, h⟩ := h; exact wpAny_bind (wpAny_mono h (fun _ _ q => q) fun _ _ f => f.elim)) fun _ _ e => e
      refine wpAny_bind (wpAny_mono (turn i _ v out m g₁ g' own s₁ (List.getElem?_eq_getElem hlt) hl hJi hl' hT _ _ S₁) (fun _ s₂ h₂ => ?_) fun _ _ f => f.elim)
      refine wpAny_bind (wpAny_bind (wpAny_mono h₂ (fun y s₃ h₃ => ?_) fun _ _ f => f.elim))
      obtain ⟨g'', own', m', a, b, c⟩ := h₃
      refine wpAny_bind (q_append (i := 2) c rfl (by simp; omega) fun s₅ S₅ => ?_)
      refine wpAny_pure (wpAny_pure ⟨rfl, l.length + 1 - (i + 1), by omega, i + 1, out ++ [y], g'', own', m', (hl.trans hl').trans a, b, by simp; omega, ?_, hlt, rfl⟩)
      rw [← List.append_assoc]; exact S₅
    · have e : i = l.length := by omega
      subst e
      refine I.done (j := 0) hl S rfl fun s₁ S₁ => ?_
      exact wpAny_pure (fin g₁ own out m s₁ hl hJi S₁.drop)
  refine codeAny_of_tree ?_
  show wpAny _ _ ((compStart (.ListComp elt [⟨t1, i1, [], 0⟩, ⟨t2, i2, [], 0⟩] scope pos) 1 it (.ref ax) cenv).onRaise (fun x => do noteFrame x cenv; standAt theWindowsPlace)) _ _ s
  refine wpAny_notedAt ?_
  unfold compStart
  show wpAny _ _ (ask >>= _) _ _ s
  refine wpAny_bind (wpAny_askSetting (wpAny_ite ?_))
  split
  · first
      | exact wpAny_bind (wpAny_pure (wpAny_pure (And.intro rfl loop)))
      | exact wpAny_pure (And.intro rfl loop)
  · have h : ∀ E', wpAny (model prog Γ.w) A (pyIter it) (fun it' s' => codeAny (model prog Γ.w) A (.compLoop (.ListComp elt [⟨t1, i1, [], 0⟩, ⟨t2, i2, [], 0⟩] scope pos) 1 it' (.ref ax) cenv) Rr s') E' s := fun E' => I.self (j := 0) (Le.refl _) S₄ rfl loop
    first
      | exact wpAny_bind (wpAny_rule (wpAny_bind (wpAny_standAt (wpAny_bind (wpAny_mono (h _) (fun it' s' h' => wpAny_pure (And.intro rfl h')) fun _ _ x => x)))))
      | (refine wpAny_bind (wpAny_rule ?_); show wpAny _ _ (standAt i2.pos >>= _) _ _ s; exact wpAny_bind (wpAny_standAt (wpAny_bind (wpAny_mono (h _) (fun it' s' h' => wpAny_pure (And.intro rfl h')) fun _ _ x => x))))

/-- the outer run -/
theorem comp2_outer {α : Type} {T : Rep α} {l : List α} {elt t1 i1 t2 i2 : Expr} {scope : Scope} {pos : Pos} {cenv : Env} {it : Value} {R : Nat → Res} {D ax : Addr} {m : Str → Option Value} {Rr : Result → Shared → Prop}
    (S₄ : St Γ g (rVars D [] m :: rAcc ax [] :: R 0 :: own) s) (I : Iter prog Γ A g t1 it R T l)
    (J : Nat → PMap → List Res → List Value → Prop) (hJ : J 0 g own [])
    (turn : ∀ i x v out m g₀ g' own s, l[i]? = some x → Le g g₀ → J i g₀ own out → Le g₀ g' → T.at' g' v x → St Γ g' (rVars D [] m :: rAcc ax out :: R (i + 1) :: own) s →
          wpAny (model prog Γ.w) A (assign t1 cenv v) (fun _ s => wpAny (model prog Γ.w) A (eval i2 cenv) (fun xv s => wpAny (model prog Γ.w) A (pyIter xv) (fun it2 s =>
            codeAny (model prog Γ.w) A (.compStart (.ListComp elt [⟨t1, i1, [], 0⟩, ⟨t2, i2, [], 0⟩] scope pos) 1 it2 (.ref ax) cenv)
              (fun r s' => r = .ok .next ∧ ∃ g'' own' out' m', Le g' g'' ∧ J (i + 1) g'' own' out' ∧ St Γ g'' (rVars D [] m' :: rAcc ax out' :: R (i + 1) :: own') s') s) (fun _ _ => False) s) (fun _ _ => False) s) (fun _ _ => False) s)
    (fin : ∀ g' own out m s₁, Le g g' → J l.length g' own out → St Γ g' (rVars D [] m :: rAcc ax out :: rNone :: own) s₁ → Rr (.ok .next) s₁)
    (hs2 : ∀ x, foldedSetIterable i2 cenv x = pure x) :
    codeAny (model prog Γ.w) A (.compLoop (.ListComp elt [⟨t1, i1, [], 0⟩, ⟨t2, i2, [], 0⟩] scope pos) 0 it (.ref ax) cenv) Rr s := by
  refine codeAny_loop rfl (fun k s' => ∃ i out g' own m, Le g g' ∧ J i g' own out ∧ St Γ g' (rVars D [] m :: rAcc ax out :: R i :: own) s' ∧ i ≤ l.length ∧ k = l.length + 1 - i) (fun n s hI => ?_) (l.length + 1)
    ⟨0, [], g, own, _, Le.refl _, hJ, S₄, Nat.zero_le _, rfl⟩
  show wpAny _ _ ((compTurn (.ListComp elt [⟨t1, i1, [], 0⟩, ⟨t2, i2, [], 0⟩] scope pos) 0 it (.ref ax) cenv).onRaise (fun x => do noteFrame x cenv; theTreesLotGoes x)) _ _ s
  refine wpAny_noted ?_
  rw [compTurn2o]
  refine wpAny_bind (wpAny_standAt (wpAny_bind ?_))
  obtain ⟨i, out, g₁, own, m, hl, hJi, S, hi, rfl⟩ := hI
  rcases Nat.lt_or_ge i l.length with hlt | hge
  · refine wpAny_mono (I.item (i := i) (x := l[i]) (j := 2) (List.getElem?_eq_getElem hlt) hl S rfl fun v g' s₁ hl' hT S₁ => ?_) (fun r s₁ h => by obtain ⟨v, rfl, h⟩ := h; exact wpAny_bind (wpAny_mono h (fun _ _ q => q) fun _ _ f => f.elim)) fun _ _ e => e
    refine wpAny_bind (wpAny_mono (turn i _ v out m g₁ g' own s₁ (List.getElem?_eq_getElem hlt) hl hJi hl' hT S₁) (fun _ s₂ h₂ => ?_) fun _ _ f => f.elim)
    refine wpAny_bind (wpAny_mono h₂ (fun xv s₃ h₃ => ?_) fun _ _ f => f.elim)
    refine wpAny_bind (wpAny_standAt ?_)
    rw [hs2]
    refine wpAny_bind (wpAny_pure ?_)
    refine wpAny_bind (wpAny_holding (wpAny_mono h₃ (fun it2 s₄ h₄ => ?_) fun _ _ f => f.elim))
    refine wpAny_bind (wpAny_runOwn (h := none) ?_)
    rw [room_mark]
    refine codeAny_mono h₄ fun r s₅ hr => ?_
    obtain ⟨rfl, g'', own', out', m', a, b, c⟩ := hr
    exact wpAny_pure ⟨rfl, l.length + 1 - (i + 1), by omega, i + 1, out', g'', own', m', (hl.trans hl').trans a, b, c, hlt, rfl⟩
  · have e : i = l.length := by omega
    subst e
    refine I.done (j := 2) hl S rfl fun s₁ S₁ => ?_
    exact wpAny_pure (fin g₁ own out m s₁ hl hJi S₁)
end
end Mine
end

section
open PySem PySem.W PyProof.Rows PySem.Calls
set_option Elab.async false
set_option autoImplicit false
set_option maxRecDepth 100000
set_option linter.unusedVariables false
namespace Mine

def wordsOf (ms : Nat) : Nat → List (List Int)
  | 0 => [[]]
  | n + 1 => (wordsOf ms n).flatMap fun w => (rangeL 1 (ms + 1)).map fun a => w ++ [a]
theorem wordsOf_len (ms : Nat) : ∀ n, (wordsOf ms n).length = ms ^ n
  | 0 => rfl
  | n + 1 => by
    unfold wordsOf
    rw [List.length_flatMap]
    have : (List.map (fun w : List Int => ((rangeL 1 (ms + 1)).map fun a => w ++ [a]).length) (wordsOf ms n)) = List.replicate (wordsOf ms n).length ms := by
      rw [List.eq_replicate_iff]
      refine ⟨by simp, fun b hb => ?_⟩
      obtain ⟨w, _, rfl⟩ := List.mem_map.mp hb
      rw [List.length_map, rangeL_length]; omega
    rw [this, List.sum_replicate_nat, wordsOf_len ms n, Nat.pow_succ]
theorem mem_wordsOf (ms : Nat) : ∀ n (w : List Int), w ∈ wordsOf ms n ↔ w.length = n ∧ ∀ a ∈ w, 1 ≤ a ∧ a ≤ (ms : Int)
  | 0, w => by
    unfold wordsOf
    constructor
    · intro h; simp at h; subst h; simp
    · rintro ⟨h, _⟩; simp [List.length_eq_zero_iff.mp h]
  | n + 1, w => by
    unfold wordsOf
    simp only [List.mem_flatMap, List.mem_map, mem_rangeL, mem_wordsOf ms n]
    constructor
    · rintro ⟨u, ⟨h1, h2⟩, a, ha, rfl⟩
      refine ⟨by simp [h1], fun b hb => ?_⟩
      rcases List.mem_append.mp hb with hb | hb
      · exact h2 b hb
      · simp at hb; subst hb; omega
    · rintro ⟨h1, h2⟩
      have hne : w ≠ [] := fun e => by rw [e] at h1; simp at h1
      refine ⟨w.dropLast, ⟨by simp [h1], fun b hb => h2 b (List.dropLast_subset w hb)⟩, w.getLast hne, ?_, List.dropLast_concat_getLast hne⟩
      have := h2 _ (List.getLast_mem hne); omega

theorem flat_len (ms : Nat) : ∀ l : List (List Int), (l.flatMap fun w => (rangeL 1 (ms + 1)).map fun a => w ++ [a]).length = l.length * ms
  | [] => by simp
  | w :: l => by
    rw [List.flatMap_cons, List.length_append, flat_len ms l, List.length_map, rangeL_length, List.length_cons, Nat.add_mul]; omega
theorem wordsOf_le {ms n : Nat} (hm : ms ≤ 3) (hn : n ≤ 3) : (wordsOf ms n).length ≤ 27 := by
  rw [wordsOf_len]
  have h1 : ms ^ n ≤ 3 ^ n := Nat.pow_le_pow_left hm n
  have h2 : 3 ^ n ≤ 3 ^ 3 := Nat.pow_le_pow_right (by decide) hn
  omega
theorem take_succ' {α : Type} {l : List α} {i : Nat} {x : α} (h : l[i]? = some x) : l.take (i + 1) = l.take i ++ [x] := by
  rw [List.take_add_one, h]; rfl

section
variable {prog : Program} {Γ : Pm} {g : PMap} {own : List Res} {s : Shared} {A : Around} {E : Value → Shared → Prop}
set_option maxHeartbeats 4000000 in
theorem words_spec {ms many : Nat} {t1 t2 : Tok} {Q : Value → Shared → Prop}
    (S : St Γ g own s) (hA : Room A 7) (hm : 1 ≤ ms ∧ ms ≤ 3) (hn : many ≤ 3)
    (h : ∀ v g' s', Le g g' → (rLst (rTup rInt)).at' g' v (wordsOf ms many) → St Γ g' own s' → Q v s') :
    wpAny (model prog Γ.w) A (call (.ref 180) [.int ms t1, .int many t2]) Q E s := by
  refine call_fn (fun n => [("letters", n)]) (n := 6) S hA (by rfl) (by rfl) (by rfl) (by rfl) (by rfl) (fun _ => rfl) fun L A s hA S => ?_
  refine wpAny_execs_cons (wpAny_Assign_Name ?_)
  refine List_ ?_
  refine args_cons ?_
  refine Tuple_ ?_
  refine args_nil ?_
  refine q_tupDisp (T := rInt) (l := []) S .nil (by simp) fun v1 g1 s hl1 h1 S => ?_
  refine args_nil ?_
  refine q_listDisp (T := rTup rInt) (l := [[]]) S (.cons h1 .nil) (by simp) fun v2 g2 s hl2 h2 S => ?_
  refine st_local (i := 0) S rfl fun s S => ?_
  refine wpAny_execs_cons ?_
  refine for_rule (l := rangeL 0 many) (T := rInt) fun Kh hKh => ?_
  refine Call_ ?_
  refine ev_builtin S (by rfl) (by boot_fast) (by decide) ?_
  refine PyProof.Rows.callWith_type1 ?_
  refine args_cons ?_
  refine ev_local (i := 0) S rfl (by rfl) ?_
  refine args_nil ?_
  refine q_rng1 S (by omega) fun I s S => ?_
  refine hKh _ _ _ _ (rRIter I 0 many) (Iter.range hA.1) S (fun i g' own' => ∃ m v, own' = rVars L [("letters", L + 1)] m :: own ∧ m "letters" = some (.int ms t1) ∧ m "words" = some v ∧ (rLst (rTup rInt)).at' g' v (wordsOf ms i)) ⟨_, v2, rfl, by rfl, by rfl, h2⟩ ?_ ?_
  · rintro i x v g₀ g₁ _ s hx hl ⟨m, vw, rfl, hm1, hm2, hw⟩ hl' ⟨tx, rfl⟩ S K E' hK hB hR
    refine wpAny_assign_Name ?_
    refine st_local (i := 0) S rfl fun s S => ?_
    refine wpAny_execs_cons ?_
    rw [exec_Assign_Name_used _ _ _ _ (by rfl)]
    refine wpAny_bind (wpAny_standAt (wpAny_bind ?_))
    refine wpAny_bind (wpAny_mono (wpAny_comprehension_free (Q := fun _ s' => K .next s')
      (use := some (assign _ _)) (cl := [("letters", L + 1)]) rfl (fun _ => rfl) (by rfl) rfl (by decide) ?_) (fun _ s' hq => wpAny_pure (wpAny_pure (wpAny_execs_nil hq))) fun _ _ e => e)
    refine ev_local (i := 0) S rfl (upd_ne (by decide) hm2) ?_
    refine q_lstIter S hA.1 ((rLst (rTup rInt)).mono hl' hw) fun it R s Iw S => ?_
    refine comp_enter (PP := fun acc D => compPost _ _ _ _ _ acc D) S (Iw _) (by decide) rfl fun D ax s S => ?_
    refine comp2_outer S (Iw _) (fun j g' own' out => own' = rVars L [("letters", L + 1)] (upd m "lap" (.int x tx)) :: rRIter I 0 many (i + 1) :: own ∧ All2 ((rTup rInt).at' g') out (((wordsOf ms i).take j).flatMap fun w => (rangeL 1 (ms + 1)).map fun a => w ++ [a]))
      ⟨rfl, by simpa using All2.nil⟩ ?_ ?_ (fun _ => rfl)
    · rintro j w v out m' g₂ g₃ _ s hw1 hl2 ⟨rfl, hout⟩ hl3 hv S
      refine wpAny_assign_Name ?_
      refine st_local (i := 0) S rfl fun s S => ?_
      refine Call_ ?_
      refine ev_builtin S (by rfl) (by boot_fast) (by decide) ?_
      refine PyProof.Rows.callWith_type1 ?_
      refine args_cons ?_
      refine ev_int S fun t s S => ?_
      refine args_cons ?_
      refine wpAny_BinOp ?_
      refine ev_cell (i := 3) S rfl (upd_ne (by decide) hm1) rfl ?_
      refine ev_int S fun t s S => ?_
      refine q_add S fun t s S => ?_
      refine args_nil ?_
      refine q_rng2 S (by decide) (by omega) fun I2 s S => ?_
      refine comp2_inner (T := rInt) (l := rangeL 1 (ms + 1)) (R := rRIter I2 1 (ms + 1)) S (Iter.range hA.1) ?_ (fun k g' own' m'' outs => own' = rVars L [("letters", L + 1)] (upd m "lap" (.int x tx)) :: rRIter I 0 many (i + 1) :: own ∧ m'' "word" = some v ∧
          All2 ((rTup rInt).at' g') outs (((rangeL 1 (ms + 1)).take k).map fun a => w ++ [a])) ⟨rfl, upd_self, by simpa using All2.nil⟩ ?_ ?_
      · have h1 := hout.length
        have h2 : (((wordsOf ms i).take j).flatMap fun w => (rangeL 1 (ms + 1)).map fun a => w ++ [a]).length ≤ 1000 := by
          have hi3 : i < 3 := by have := (rangeL_get hx).2; omega
          have h3 := wordsOf_le (ms := ms) (n := i) hm.2 (by omega)
          rw [flat_len]
          have h4 : ((wordsOf ms i).take j).length ≤ 27 := by rw [List.length_take]; omega
          have h5 : ((wordsOf ms i).take j).length * ms ≤ 27 * 3 := Nat.mul_le_mul h4 hm.2
          omega
        rw [rangeL_length]; omega
      · rintro k a va outs m'' g₄ g₅ _ s ha hl4 ⟨rfl, hm3, houts⟩ hl5 ⟨ta, rfl⟩ Y X S
        refine wpAny_assign_Name ?_
        refine st_local (i := 1) S rfl fun s S => ?_
        refine wpAny_BinOp ?_
        refine ev_local (i := 1) S rfl (upd_ne (by decide) hm3) ?_
        refine Tuple_ ?_
        refine args_cons ?_
        refine ev_local (i := 1) S rfl upd_self ?_
        refine args_nil ?_
        refine q_tupDisp (T := rInt) (l := [a]) S (.cons ⟨_, rfl⟩ .nil) (by simp) fun v5 g6 s hl6 h5 S => ?_
        have hw2 := (mem_wordsOf ms i w).mp (List.mem_of_getElem? hw1)
        have hi3 : i < 3 := by have := (rangeL_get hx).2; omega
        refine q_addT S ((rTup rInt).mono (hl4.trans (hl5.trans hl6)) hv) h5 (by simp) (by simp; omega) fun v6 g7 s hl7 h6 S => ?_
        refine ⟨g7, rVars L [("letters", L + 1)] _ :: _ :: own, _, hl6.trans hl7, ?_, S⟩
        refine ⟨rfl, upd_ne (by decide) hm3, ?_⟩
        rw [take_succ' ha, List.map_append]
        exact (houts.imp fun _ _ q => (rTup rInt).mono (hl5.trans (hl6.trans hl7)) q).snoc h6
      · rintro g₄ _ outs m'' s hl4 ⟨rfl, hm3, houts⟩ S
        refine ⟨rfl, g₄, _, out ++ outs, m'', hl4, ⟨rfl, ?_⟩, S⟩
        rw [List.take_length] at houts
        rw [take_succ' hw1, List.flatMap_append]
        simp only [List.flatMap_cons, List.flatMap_nil, List.append_nil]
        exact (hout.imp fun _ _ q => (rTup rInt).mono (hl3.trans hl4) q).append houts
    · rintro g' _ out m' s hl2 ⟨rfl, hout⟩ S
      refine comp_endU (env := envOfC (Str.ofString "_law_words") _ L 180 _) S ?_ ?_ ?_ fun g'' n s hl3 ha S => ?_
      · rfl
      · rfl
      · rfl
      refine (hK g'' (rVars L [("letters", L + 1)] _ :: own) _ (hl2.trans hl3) ?_ S).1
      refine ⟨_, _, rfl, upd_ne (by decide) (upd_ne (by decide) hm1), upd_self, ⟨ax, out, n, rfl, ha, ?_⟩⟩
      rw [List.take_length] at hout
      exact hout.imp fun _ _ q => (rTup rInt).mono hl3 q
  · rintro g' _ s hl ⟨m, vw, rfl, hm1, hm2, hw⟩ S
    refine wpAny_execs_cons (wpAny_Return_some ?_)
    refine ev_local (i := 0) S rfl hm2 ?_
    rw [rangeL_length] at hw
    have e : ((many : Int) - 0).toNat = many := by omega
    rw [e] at hw
    exact h vw _ s ((hl1.trans hl2).trans hl) hw S.drop
end
end Mine
end

section
open PySem PySem.W PyProof.Rows PySem.Calls
set_option Elab.async false
set_option autoImplicit false
set_option linter.unusedVariables false
namespace Mine

inductive PairAt {α β : Type} (Ra : Rep α) (Rb : Rep β) (g : PMap) (v : Value) (p : α × β) : Prop
  | mk (a : Addr) (u w : Value) (n : Nat) (e : v = .ref a) (hg : g a = some (tupObj [u, w] n)) (h1 : Ra.at' g u p.1) (h2 : Rb.at' g w p.2)
def rPair {α β : Type} (Ra : Rep α) (Rb : Rep β) : Rep (α × β) :=
  ⟨fun g v p => PairAt Ra Rb g v p,
   fun hl ⟨a, u, w, n, e, h, r1, r2⟩ => ⟨a, u, w, n, e, hl _ _ h, Ra.mono hl r1, Rb.mono hl r2⟩⟩

section
variable {prog : Program} {w : World} {A : Around} {E : Value → Shared → Prop} {s : Shared}
theorem nextOf_tup_item {it t : Addr} {i : Nat} {items} {x : Value} {Q : Value → Shared → Prop} (hit : IsTupIter s.heap it t i)
    (ht : IsTup s.heap t items) (hx : items[i]? = some x) (hQ : ∀ h', IsTupIter h' it t (i + 1) → Heap.SameBut it s.heap h' → Q x { s with heap := h' }) :
    wpAny (model prog w) A (Builtin.SmallTypes.nextOf (.ref it)) Q E s := by
  obtain ⟨o, ho, hc, hd⟩ := id hit
  obtain ⟨ol, hol, _, nl, hdl⟩ := ht
  unfold Builtin.SmallTypes.nextOf
  refine wpAny_bind (wpAny_callSpecial?_slot (name := Str.ofString "__next__") hit.typeIs slot_tupleiter_next
    (wpAny_call_entry slot_tupleiter_next hit.typeIs entry_tupleiter_next ?_ (args_tupleiter_next _)))
  refine wpAny_bind (m := field (.ref it) 0) (wpAny_field ho hd (x := .ref t) rfl ?_)
  refine wpAny_ite ?_
  rw [if_neg (show ¬ ((Value.ref t == Value.none) = true) from Bool.false_ne_true)]
  refine wpAny_bind (m := field (.ref it) 1) (wpAny_field ho hd (x := .int i 0) rfl ?_)
  refine wpAny_bind (m := seqItems? (.ref t)) (wpAny_seqItems hol hdl ?_)
  simp only [Int.toNat_natCast, hx]
  refine wpAny_bind (wpAny_setField ho hd (by simp) (wpAny_pure ⟨x, rfl, wpAny_pure (hQ _ ?_ (Heap.SameBut.update ..))⟩))
  exact ⟨_, Heap.get?_update_self _ ho (Obj.isFreed_of_fields (Obj.data_mapFields hd _)), (Obj.cls_mapFields ..).trans hc, by
    rw [Obj.data_mapFields hd]; simp [rawInt]⟩

theorem nextOf_tup_end {it t : Addr} {i : Nat} {items} {Q : Value → Shared → Prop} (hh : A.handled = none)
    (hit : IsTupIter s.heap it t i) (ht : IsTup s.heap t items) (hx : items[i]? = none)
    (hE : ∀ h' e, Heap.ExtBut it s.heap h' → (∃ o, h'.get? e = some o ∧ o.cls = .type "StopIteration") → E (.ref e) { s with heap := h' }) :
    wpAny (model prog w) A (Builtin.SmallTypes.nextOf (.ref it)) Q E s := by
  obtain ⟨o, ho, hc, hd⟩ := id hit
  obtain ⟨ol, hol, _, nl, hdl⟩ := ht
  unfold Builtin.SmallTypes.nextOf
  refine wpAny_bind (wpAny_callSpecial?_slot (name := Str.ofString "__next__") hit.typeIs slot_tupleiter_next
    (wpAny_call_entry slot_tupleiter_next hit.typeIs entry_tupleiter_next ?_ (args_tupleiter_next _)))
  refine wpAny_bind (m := field (.ref it) 0) (wpAny_field ho hd (x := .ref t) rfl ?_)
  refine wpAny_ite ?_
  rw [if_neg (show ¬ ((Value.ref t == Value.none) = true) from Bool.false_ne_true)]
  refine wpAny_bind (m := field (.ref it) 1) (wpAny_field ho hd (x := .int i 0) rfl ?_)
  refine wpAny_bind (m := seqItems? (.ref t)) (wpAny_seqItems hol hdl ?_)
  simp only [Int.toNat_natCast, hx]
  refine wpAny_bind (wpAny_rule (wpAny_bind (wpAny_setField ho hd (by simp) ?_)))
  refine wpAny_bind (m := newExc (.type "StopIteration") []) ?_
  simp only [newExc, newTuple]
  refine wpAny_bind (wpAny_newObj_type ?_ (by size_fits))
  refine wpAny_bind (m := firstArgMember _ _) (wpAny_of_eq (a := Value.none) (by first | rfl | (simp only [firstArgMember]; rfl)) ?_)
  refine wpAny_newObj_type ?_ (by size_fits)
  simp only [raiseNew]
  refine wpAny_bind (wpAny_handled ?_)
  first | rw [show A.in1.handled = none from hh] | rw [hh]
  refine wpAny_bind (wpAny_pure (wpAny_throw ?_))
  exact hE _ _ (((Heap.SameBut.update ..).extBut.push _).push _) ⟨_, Heap.get?_push_size _ rfl, rfl⟩
end

theorem drawsTup {prog : Program} {w : World} {A : Around} (hh : A.handled = none) (it t : Addr) (hne : t ≠ it) (items : Array Value) :
    Draws prog w A it [it, t] items.size (fun i v => items[i]? = some v) (fun i h => IsTupIter h it t i ∧ IsTup h t items) where
  live := fun _ _ st => let ⟨o, ho, _⟩ := st.1; ⟨o, ho⟩
  frame := fun _ _ _ st hk => ⟨let ⟨o, ho, r⟩ := st.1; ⟨o, hk it (by simp) o ho, r⟩, let ⟨o, ho, r⟩ := st.2; ⟨o, hk t (by simp) o ho, r⟩⟩
  item := fun i s Q E hi st hQ => nextOf_tup_item st.1 st.2 (x := items[i]) (by simp [hi]) fun h' hit hs => hQ _ h' s.toks (by simp [hi]) ⟨hit, st.2.extBut hs.extBut hne⟩ hs
  done := fun s Q E st hE => nextOf_tup_end hh st.1 st.2 (by simp) hE

def rEIter (e it t : Addr) (i : Nat) : Res where
  fp := fun b => b = e ∨ b = it
  P := fun h => (∃ old, IsEnum h e it i old) ∧ IsTupIter h it t i ∧ e ≠ it
  loc := fun _ _ hk ⟨⟨old, he⟩, ⟨o, ho, r⟩, hn⟩ => ⟨⟨old, hk e _ (.inl rfl) he⟩, ⟨o, hk it o (.inr rfl) ho, r⟩, hn⟩
  dom := fun _ ⟨⟨old, he⟩, ⟨o, ho, _⟩, _⟩ b hb => by
    rcases hb with rfl | rfl
    · exact ⟨_, he⟩
    · exact ⟨o, ho⟩

section
variable {prog : Program} {Γ : Pm} {g : PMap} {own : List Res} {s : Shared} {A : Around} {E : Value → Shared → Prop}

def enumL {α : Type} (l : List α) : List (Int × α) := l.zipIdx.map fun p => ((p.2 : Int), p.1)
theorem enumL_get {α : Type} {l : List α} {i : Nat} {p : Int × α} (h : (enumL l)[i]? = some p) : p.1 = i ∧ l[i]? = some p.2 := by
  unfold enumL at h
  rw [List.getElem?_map, List.getElem?_zipIdx] at h
  cases e : l[i]? with
  | none => rw [e] at h; cases h
  | some x => rw [e] at h; simp at h; subst h; simp
theorem enumL_length {α : Type} (l : List α) : (enumL l).length = l.length := by simp [enumL]

theorem Iter.enumT {α : Type} {T : Rep α} {l : List α} {t it e : Addr} {vs : List Value} {n : Nat} {elts : List Expr} {kk : Nat} {tp : Pos} {g₀ : PMap} (hA : Room A 3) (hg : g₀ t = some (tupObj vs n)) (hr : All2 (T.at' g₀) vs l) :
    Iter prog Γ A g₀ (.Tuple elts kk tp) (.ref e) (rEIter e it t) (rPair rInt T) (enumL l) where
  item := fun {i j g own s x Q E} hx hl S hj h => by
    obtain ⟨hx1, hx2⟩ := enumL_get hx
    obtain ⟨v, hv, hT⟩ := hr.get hx2
    obtain ⟨⟨old, he⟩, hit, hne⟩ := S.holds j _ hj
    have ht := isTup_of S (hl _ _ hg)
    have hti : t ≠ it := fun q => by
      have := S.off j _ hj it (.inr rfl)
      rw [← q, hl _ _ hg] at this; cases this
    have hte : t ≠ e := fun q => by
      have := S.off j _ hj e (.inl rfl)
      rw [← q, hl _ _ hg] at this; cases this
    have hlt : i < vs.toArray.size := by have := (List.getElem?_eq_some_iff.mp hv).1; simpa using this
    refine wpAny_pyNext_enum_itemD (drawsTup (A := A.in1) hA.1 it t hti vs.toArray) he ⟨hit, ht⟩ hlt hne (by simp [hne, Ne.symm hte]) fun x' h' tk hP ho hst hTup hsz hk => ?_
    have hx' : x' = v := by
      have : vs[i]? = some x' := by simpa using hP
      rw [hv] at this; exact (Option.some.inj this).symm
    subst hx'
    refine ⟨_, rfl, wpAny_letOwnedTupleGo_enum ho fun h₂ he₂ hs₂ => ?_⟩
    have hel := S.lt hj (a := e) (.inl rfl)
    have hil := S.lt hj (a := it) (.inr rfl)
    have S1 : St Γ g (own.set j (rEIter e it t (i + 1))) { s with heap := h₂, toks := tk + 1 } := by
      refine S.set j (rEIter e it t (i + 1)) hj (fun _ q => q) (fun b o hb x => hs₂.extBut b o (fun q => hb (.inl q)) (hk b o (fun q => hb (.inl q)) (fun q => hb (.inr q)) x)) ⟨⟨_, by simpa using he₂⟩, ?_, hne⟩ rfl rfl
      obtain ⟨o, ho', r⟩ := hst.1
      exact ⟨o, hs₂.extBut it o (Ne.symm hne) ho', r⟩
    have hg' : h₂.get? s.heap.objs.size = some (tupObj [.int i tk, x'] 0) := hs₂.extBut _ _ (Nat.ne_of_gt hel) hTup
    have hnone : g s.heap.objs.size = none := by
      cases q : g s.heap.objs.size with
      | none => rfl
      | some o => exact absurd (Heap.lt_size (S.keep _ _ q)) (Nat.lt_irrefl _)
    have S2 : St Γ (g.ins s.heap.objs.size (tupObj [.int i tk, x'] 0)) (own.set j (rEIter e it t (i + 1))) { s with heap := h₂, toks := tk + 1 } := by
      refine ⟨fun b o x => le_ins hnone b o (S1.base b o x), fun b o x => ?_, S1.holds, fun k r hk' b hb => ?_, S1.disj, S1.gens, S1.os⟩
      · unfold PMap.ins at x
        by_cases hb : b = s.heap.objs.size
        · rw [if_pos hb] at x; cases x; subst hb; exact hg'
        · rw [if_neg hb] at x; exact S1.keep b o x
      · have hbl : b < s.heap.objs.size := by
          rcases get_set hk' with ⟨rfl, rfl⟩ | ⟨_, hk''⟩
          · rcases hb with rfl | rfl
            · exact hel
            · exact hil
          · exact S.lt hk'' hb
        unfold PMap.ins
        rw [if_neg (Nat.ne_of_lt hbl)]; exact S1.off k r hk' b hb
    refine h _ _ _ (le_ins hnone) ⟨_, _, _, _, rfl, ins_self, ⟨tk, by rw [hx1]⟩, T.mono (hl.trans (le_ins hnone)) hT⟩ S2
  done := fun {j g own s Q E} hl S hj h => by
    obtain ⟨⟨old, he⟩, hit, hne⟩ := S.holds j _ hj
    have ht := isTup_of S (hl _ _ hg)
    have hti : t ≠ it := fun q => by
      have := S.off j _ hj it (.inr rfl)
      rw [← q, hl _ _ hg] at this; cases this
    have hlen : (enumL l).length = vs.toArray.size := by rw [enumL_length]; simp [hr.length]
    rw [hlen] at he hit
    refine wpAny_pyNext_enum_endD (drawsTup (A := A.in1) hA.1 it t hti vs.toArray) he ⟨hit, ht⟩ fun h' hx => ?_
    exact h _ (S.set j rNone hj (fun _ ha => ha.elim) (fun b o hb x => hx b o (fun q => hb (.inr q)) x) trivial rfl rfl)
  self := fun {j g own s Q E} hl S hj h => by
    obtain ⟨⟨old, he⟩, _, _⟩ := S.holds j _ hj
    exact wpAny_pyIter_enum he h

theorem meets_enumT (l : Addr) (items : Array Value) (n : Nat) :
    Meets (Builtin.«enumerate.__new__» ⟨[.type "enumerate", .ref l], []⟩) (fun _ R s => s.heap.get? l = some { cls := .type "tuple", data := .seq items n } ∧
      R (.ok (.ret (.ref (s.heap.push { cls := .type "tuple_iterator", data := .fields #[.ref l, .int 0 0] }).objs.size)))
        { s with heap := (s.heap.push { cls := .type "tuple_iterator", data := .fields #[.ref l, .int 0 0] }).push { cls := .type "enumerate", data := .fields #[.none, .bool false, .ref s.heap.objs.size, rawInt 0, .none, .none] } }) :=
  .of_wp fun prog w A R s h => by
    obtain ⟨hp, g, d, tk, os⟩ := s; obtain ⟨hl, h⟩ := h
    have hsub := sub_enumerate
    have hL : IsTup (Shared.heap ⟨hp, g, d, tk, os⟩) l items := ⟨_, hl, rfl, n, rfl⟩
    wp_walk using AutoSeq1.wpAny_loadPart' hl
    refine wpAny_stack_any fun st => wpAny_pure ?_
    split
    · rename_i c _ _ _ _ _
      cases (c == Value.type "enumerate")
      · wp_walk using AutoSeq1.wpAny_loadPart' hl, iter_tuple hL
        exact ⟨_, rfl, h⟩
      · wp_walk using AutoSeq1.wpAny_loadPart' hl, iter_tuple hL
        exact ⟨_, rfl, h⟩
    · wp_walk using AutoSeq1.wpAny_loadPart' hl, iter_tuple hL
      exact ⟨_, rfl, h⟩

theorem q_enumT {α : Type} {T : Rep α} {l : List α} {v : Value} {Q : Value → Shared → Prop} (S : St Γ g own s) (hA : Room A 4) (hv : (rTup T).at' g v l)
    (h : ∀ it R s', (∀ elts kk tp, Iter prog Γ A g (.Tuple elts kk tp) it R (rPair rInt T) (enumL l)) → St Γ g (R 0 :: own) s' → Q it s') :
    wpAny (model prog Γ.w) A (call (.type "enumerate") [v]) (fun x s₁ => wpAny (model prog Γ.w) A (pyIter x) Q E s₁) E s := by
  obtain ⟨a, vs, n, rfl, hg, hr⟩ := hv
  refine callType_new F.called_enumerate (by decide) (F.typeCall_enumerate_1 _) (F.newCall_enumerate_1 _) (fun obj => F.args_object_init_2 obj _) F.entry_enumerate_new
    (meets_enumT a vs.toArray n) ⟨S.keep _ _ hg, ?_⟩
  have hz : (s.heap.push { cls := .type "tuple_iterator", data := .fields #[.ref a, .int 0 0] }).objs.size = s.heap.objs.size + 1 := Heap.size_push ..
  show _ ∧ _
  rw [hz]
  have he : IsEnum ((s.heap.push { cls := .type "tuple_iterator", data := .fields #[.ref a, .int 0 0] }).push
      { cls := .type "enumerate", data := .fields #[.none, .bool false, .ref s.heap.objs.size, rawInt 0, .none, .none] }) (s.heap.objs.size + 1) s.heap.objs.size 0 .none := by
    have := Heap.get?_push_size (s.heap.push { cls := .type "tuple_iterator", data := .fields #[.ref a, .int 0 0] })
      (o := { cls := .type "enumerate", data := .fields #[.none, .bool false, .ref s.heap.objs.size, rawInt 0, .none, .none] }) rfl
    rw [hz] at this; exact this
  refine ⟨⟨_, he, rfl⟩, ?_⟩
  have hti : IsTupIter ((s.heap.push { cls := .type "tuple_iterator", data := .fields #[.ref a, .int 0 0] }).push
      { cls := .type "enumerate", data := .fields #[.none, .bool false, .ref s.heap.objs.size, rawInt 0, .none, .none] }) s.heap.objs.size a 0 := ⟨_, Heap.get?_push_of_some _ (Heap.get?_push_size _ rfl), rfl, rfl⟩
  refine wpAny_pyIter_enum he (h _ (rEIter (s.heap.objs.size + 1) s.heap.objs.size a) _ (fun _ _ _ => Iter.enumT hA.le hg hr) ?_)
  refine S.cons (fun b o x => Heap.get?_push_of_some _ (Heap.get?_push_of_some _ x)) rfl rfl ⟨⟨_, he⟩, hti, Nat.succ_ne_self _⟩ fun b hb => ?_
  rcases hb with rfl | rfl
  · exact Nat.le_succ _
  · exact Nat.le_refl _
end
end Mine
end

section
open PySem PySem.W PyProof.Rows PySem.Calls
set_option Elab.async false
set_option autoImplicit false
set_option linter.unusedVariables false
namespace Mine

/-- how a Rep reads as data -/
structure Dat {α : Type} (R : Rep α) where
  d : α → PyData
  dp : Nat
  lay : ∀ x, (d x).canLay0 = true
  deep : ∀ x, (d x).depth ≤ dp
  eq : ∀ x y, PyData.eqv (d x) (d y) = true ↔ x = y
  rd : ∀ {g : PMap} {h : Heap} {v : Value} {x : α}, (∀ a o, g a = some o → h.get? a = some o) → R.at' g v x → ∃ as, Reads h v (d x) as

def dInt : Dat rInt := ⟨.int, 0, fun _ => rfl, fun _ => Nat.le_refl _, fun x y => by simp [PyData.eqv], fun _ ⟨t, e⟩ => by subst e; exact ⟨_, .int _ _⟩⟩
def dBool : Dat rBool := ⟨.bool, 0, fun _ => rfl, fun _ => Nat.le_refl _, fun x y => by simp [PyData.eqv], fun _ e => by
  have e : _ = _ := e
  subst e; exact ⟨_, .bool _⟩⟩

section
variable {α β γ : Type}
theorem readsAll_of {R : Rep α} (D : Dat R) {g : PMap} {h : Heap} (hk : ∀ a o, g a = some o → h.get? a = some o) : ∀ {vs : List Value} {l : List α}, All2 (R.at' g) vs l → ∃ as, ReadsAll h vs (l.map D.d) as
  | _, _, .nil => ⟨_, .nil⟩
  | _, _, .cons h r => let ⟨_, a⟩ := D.rd hk h; let ⟨_, b⟩ := readsAll_of D hk r; ⟨_, .cons a b⟩
theorem layAll_of {R : Rep α} (D : Dat R) : ∀ l : List α, PyData.canLayAll0 (l.map D.d) = true
  | [] => rfl
  | x :: l => by simp [PyData.canLayAll0, D.lay x, layAll_of D l]
theorem deepAll_of {R : Rep α} (D : Dat R) : ∀ l : List α, PyData.depthAll (l.map D.d) ≤ D.dp
  | [] => Nat.zero_le _
  | x :: l => by
    have := D.deep x; have := deepAll_of D l
    simp only [List.map_cons, PyData.depthAll]; omega
theorem eqAll_of {R : Rep α} (D : Dat R) : ∀ l m : List α, PyData.eqvAll (l.map D.d) (m.map D.d) = true ↔ l = m
  | [], [] => by simp [PyData.eqvAll]
  | x :: l, y :: m => by simp [PyData.eqvAll, D.eq x y, eqAll_of D l m]
  | [], _ :: _ => by simp [PyData.eqvAll]
  | _ :: _, [] => by simp [PyData.eqvAll]
def dLst {R : Rep α} (D : Dat R) : Dat (rLst R) where
  d := fun l => .list (l.map D.d)
  dp := D.dp + 1
  lay := fun l => by simp only [PyData.canLay0]; exact layAll_of D l
  deep := fun l => by simp only [PyData.depth]; have := deepAll_of D l; omega
  eq := fun l m => by simp only [PyData.eqv]; exact eqAll_of D l m
  rd := fun hk ⟨a, vs, n, e, hg, hr⟩ => by
    subst e
    obtain ⟨as, h⟩ := readsAll_of D hk hr
    exact ⟨_, .list (hk _ _ hg) rfl rfl (by simpa using h)⟩
def dTup {R : Rep α} (D : Dat R) : Dat (rTup R) where
  d := fun l => .tuple (l.map D.d)
  dp := D.dp + 1
  lay := fun l => by simp only [PyData.canLay0]; exact layAll_of D l
  deep := fun l => by simp only [PyData.depth]; have := deepAll_of D l; omega
  eq := fun l m => by simp only [PyData.eqv]; exact eqAll_of D l m
  rd := fun hk ⟨a, vs, n, e, hg, hr⟩ => by
    subst e
    obtain ⟨as, h⟩ := readsAll_of D hk hr
    exact ⟨_, .tuple (hk _ _ hg) rfl rfl (by simpa using h)⟩

inductive TriAt {α β γ : Type} (Ra : Rep α) (Rb : Rep β) (Rc : Rep γ) (g : PMap) (v : Value) (p : α × β × γ) : Prop
  | mk (a : Addr) (u w x : Value) (n : Nat) (e : v = .ref a) (hg : g a = some (tupObj [u, w, x] n)) (h1 : Ra.at' g u p.1) (h2 : Rb.at' g w p.2.1) (h3 : Rc.at' g x p.2.2)
def rTri (Ra : Rep α) (Rb : Rep β) (Rc : Rep γ) : Rep (α × β × γ) :=
  ⟨fun g v p => TriAt Ra Rb Rc g v p,
   fun hl ⟨a, u, w, x, n, e, h, r1, r2, r3⟩ => ⟨a, u, w, x, n, e, hl _ _ h, Ra.mono hl r1, Rb.mono hl r2, Rc.mono hl r3⟩⟩
def dTri {Ra : Rep α} {Rb : Rep β} {Rc : Rep γ} (Da : Dat Ra) (Db : Dat Rb) (Dc : Dat Rc) : Dat (rTri Ra Rb Rc) where
  d := fun p => .tuple [Da.d p.1, Db.d p.2.1, Dc.d p.2.2]
  dp := max Da.dp (max Db.dp Dc.dp) + 1
  lay := fun p => by simp [PyData.canLay0, PyData.canLayAll0, Da.lay, Db.lay, Dc.lay]
  deep := fun p => by
    have := Da.deep p.1; have := Db.deep p.2.1; have := Dc.deep p.2.2
    simp only [PyData.depth, PyData.depthAll]; omega
  eq := fun p q => by
    obtain ⟨p1, p2, p3⟩ := p; obtain ⟨q1, q2, q3⟩ := q
    simp [PyData.eqv, PyData.eqvAll, Da.eq, Db.eq, Dc.eq]
  rd := fun hk ⟨a, u, w, x, n, e, hg, r1, r2, r3⟩ => by
    subst e
    obtain ⟨_, h1⟩ := Da.rd hk r1; obtain ⟨_, h2⟩ := Db.rd hk r2; obtain ⟨_, h3⟩ := Dc.rd hk r3
    exact ⟨_, .tuple (hk _ _ hg) rfl rfl (by simpa using ReadsAll.cons h1 (.cons h2 (.cons h3 .nil)))⟩

/-- keys (k, '!=', a) -/
inductive KeyOf (g : PMap) (v : Value) (p : Int × Int) : Prop
  | mk (a : Addr) (t1 t2 t3 : Tok) (n : Nat) (e : v = .ref a) (hg : g a = some (tupObj [.int p.1 t1, .str (Str.ofString "!=") t2, .int p.2 t3] n))
def rKey : Rep (Int × Int) :=
  ⟨fun g v p => KeyOf g v p,
   fun hl ⟨a, t1, t2, t3, n, e, h⟩ => ⟨a, t1, t2, t3, n, e, hl _ _ h⟩⟩
def dKey : Dat rKey where
  d := fun p => .tuple [.int p.1, .str (Str.ofString "!="), .int p.2]
  dp := 1
  lay := fun p => by
    have : PyData.strOk (Str.ofString "!=") = true := by kernel_rfl
    simp [PyData.canLay0, PyData.canLayAll0, this]
  deep := fun p => by simp [PyData.depth, PyData.depthAll]
  eq := fun p q => by
    obtain ⟨p1, p2⟩ := p; obtain ⟨q1, q2⟩ := q
    simp [PyData.eqv, PyData.eqvAll]
  rd := fun hk ⟨a, t1, t2, t3, n, e, hg⟩ => by
    subst e
    exact ⟨_, .tuple (hk _ _ hg) rfl rfl (by simpa using ReadsAll.cons (.int _ _) (.cons (.str _ _) (.cons (.int _ _) .nil)))⟩

variable {prog : Program} {Γ : Pm} {g : PMap} {own : List Res} {s : Shared} {A : Around} {E : Value → Shared → Prop}
theorem q_eq {R : Rep α} (D : Dat R) {v u : Value} {x y : α} {Q : Value → Shared → Prop} (S : St Γ g own s) {n : Nat} (hA : Room A (n + 1)) (hv : R.at' g v x) (hu : R.at' g u y)
    (h : ∀ b, (b = true ↔ x = y) → Q (.bool b) s) (hd : D.dp ≤ 10 := by decide) : wpAny (model prog Γ.w) A (compareOp .Eq v u) Q E s := by
  obtain ⟨_, r1⟩ := D.rd (fun _ _ q => S.keep _ _ q) hv
  obtain ⟨_, r2⟩ := D.rd (fun _ _ q => S.keep _ _ q) hu
  exact SeqAt.compareEq_reads r1 r2 (D.lay _) (D.lay _) (by have := hA.units; have := D.deep x; omega) (h _ (D.eq x y))
theorem q_ne {R : Rep α} (D : Dat R) {v u : Value} {x y : α} {Q : Value → Shared → Prop} (S : St Γ g own s) {n : Nat} (hA : Room A (n + 1)) (hv : R.at' g v x) (hu : R.at' g u y)
    (h : ∀ b, (b = true ↔ x ≠ y) → Q (.bool b) s) (hd : D.dp ≤ 10 := by decide) : wpAny (model prog Γ.w) A (compareOp .NotEq v u) Q E s := by
  obtain ⟨_, r1⟩ := D.rd (fun _ _ q => S.keep _ _ q) hv
  obtain ⟨_, r2⟩ := D.rd (fun _ _ q => S.keep _ _ q) hu
  refine SeqAt.compareNe_reads r1 r2 (D.lay _) (D.lay _) (by have := hA.units; have := D.deep x; omega) (h _ ?_)
  have := D.eq x y
  cases hb : PyData.eqv (D.d x) (D.d y)
  · rw [hb] at this; simp only [Bool.not_false, true_iff]; exact fun q => by simpa using this.mpr q
  · rw [hb] at this; simp only [Bool.not_true, Bool.false_eq_true, false_iff]; exact fun q => q (this.mp rfl)

theorem q_assign2 {Ra : Rep α} {Rb : Rep β} {v : Value} {p : α × β} {e1 e2 : Expr} {x1} {pos : Pos} {env : Env} {Q : Unit → Shared → Prop} (S : St Γ g own s) (hh : A.handled = none) (hv : (rPair Ra Rb).at' g v p)
    (hE : assignEach [e1, e2] env = [(false, assign e1 env), (false, assign e2 env)])
    (h : ∀ u w s', Ra.at' g u p.1 → Rb.at' g w p.2 → St Γ g own s' → wpAny (model prog Γ.w) A (assign e1 env u) (fun _ s => wpAny (model prog Γ.w) A (assign e2 env w) Q E s) E s') :
    wpAny (model prog Γ.w) A (assign (.Tuple [e1, e2] x1 pos) env v) Q E s := by
  obtain ⟨a, u, w, n, rfl, hg, r1, r2⟩ := hv
  refine assign_Tuple_tuple hh (isTup_of S hg) (by rw [hE]; rfl) (by rw [hE]; rfl) fun h' hx => ?_
  rw [hE]
  have S' : St Γ g own { s with heap := h' } := S.kept (fun b o e => hx b o (Nat.ne_of_lt (Heap.lt_size e)) e) rfl rfl
  exact assignInOrder_cons (wpAny_mono (h u w _ r1 r2 S') (fun _ _ q => assignInOrder_cons (wpAny_mono q (fun _ _ q => assignInOrder_nil q) fun _ _ e => e)) fun _ _ e => e)
end
end Mine
end

section
open PySem PySem.W PyProof.Rows PySem.Calls
set_option Elab.async false
set_option autoImplicit false
set_option maxRecDepth 100000
set_option linter.unusedVariables false
namespace Mine

theorem take_succ'' {α : Type} {l : List α} {i : Nat} {x : α} (h : l[i]? = some x) : l.take (i + 1) = l.take i ++ [x] := by
  rw [List.take_add_one, h]; rfl

section
variable {prog : Program} {Γ : Pm} {g : PMap} {own : List Res} {s : Shared} {A : Around} {env : Env}

theorem tests_nil {E : Value → Shared → Prop} {Q : Bool → Shared → Prop} (h : Q true s) : wpAny (model prog Γ.w) A (testsOf [] env) Q E s := wpAny_pure h
theorem tests_one {E : Value → Shared → Prop} {c : Expr} {Q : Bool → Shared → Prop} (h : wpAny (model prog Γ.w) A (isTrue c env (eval c env)) Q E s) : wpAny (model prog Γ.w) A (testsOf [c] env) Q E s := by
  show wpAny _ A (forIn [c] true fun c r => if r = true then do let ok ← isTrue c env (eval c env); pure (ForInStep.yield ok) else pure (ForInStep.yield r)) Q E s
  rw [List.forIn_cons]
  refine wpAny_bind ?_
  rw [if_pos rfl]
  refine wpAny_bind (wpAny_mono h (fun b s₁ q => wpAny_pure (wpAny_pure q)) fun _ _ e => e)

theorem comp_map {α β : Type} {T : Rep α} {U : Rep β} {l : List α} (f : α → Option β) {E : Value → Shared → Prop} {elt target iter : Expr} {ifs : List Expr} {scope : Scope} {cl : List (Str × Addr)} {pos : Pos} {Q : Value → Shared → Prop}
    (hclos : closureFor scope env = pure cl) (hcell : ∀ y ∈ scope.names, y.2 ≠ .cell) (hnames : ∀ y ∈ scope.names, y.2 = .local → scope.names.lookup y.1 = some .local)
    (h : ∀ Kh : Value → Shared → Prop, (∀ it s₂ g₂ own₂ R, Iter prog Γ A g₂ target it R T l → l.length ≤ 1000 → St Γ g₂ (R 0 :: own₂) s₂ →
        (∀ x v D m g s, x ∈ l → Le g₂ g → T.at' g v x → ∀ X Y, St Γ g (rVars D [] m :: X :: Y :: own₂) s →
          ∀ (K : Value → Shared → Prop) (K0 : Shared → Prop) (E' : Value → Shared → Prop), (∀ y s' g' m' b, Le g g' → f x = some b → U.at' g' y b → St Γ g' (rVars D [] m' :: X :: Y :: own₂) s' → K y s') →
          (∀ s' g' m', Le g g' → f x = none → St Γ g' (rVars D [] m' :: X :: Y :: own₂) s' → K0 s') →
          wpAny (model prog Γ.w) A (assign target (compEnvC scope cl D env) v) (fun _ s => wpAny (model prog Γ.w) A (testsOf ifs (compEnvC scope cl D env)) (fun ok s =>
            if ok = true then wpAny (model prog Γ.w) A (eval elt (compEnvC scope cl D env)) K E' s else K0 s) E' s) E' s) →
        (∀ g v s, Le g₂ g → (rLst U).at' g v (l.filterMap f) → St Γ g own₂ s → Q v s) → Kh it s₂) → wpAny (model prog Γ.w) A (eval iter env) (fun xv s₁ => wpAny (model prog Γ.w) A (pyIter xv) Kh E s₁) E s)
    (hs : ∀ x, foldedSetIterable iter env x = pure x := by intro _; rfl) (hkind : scope.kind = .function := by rfl) :
    wpAny (model prog Γ.w) A (eval (.ListComp elt [⟨target, iter, ifs, 0⟩] scope pos) env) Q E s := by
  refine comp_rule (T := T) (l := l) hclos hcell hnames (fun Kh hKh => h Kh fun it s₂ g₂ own₂ R I hlen S₂ turn fin => ?_) hs hkind
  refine hKh it s₂ g₂ own₂ R I hlen S₂ (fun i g own out => own = own₂ ∧ All2 (U.at' g) out ((l.take i).filterMap f)) ⟨rfl, .nil⟩ ?_ ?_
  · rintro i x v out D m g₀ g _ s hx hl ⟨rfl, ho⟩ hl' hT X Y S K K0 E' hK hK0
    have e : (l.take (i + 1)).filterMap f = (l.take i).filterMap f ++ (f x).toList := by
      rw [take_succ'' hx, List.filterMap_append]; cases hf : f x <;> simp [hf]
    refine turn x v D m g s (List.mem_of_getElem? hx) (hl.trans hl') hT X Y S K K0 E' (fun y s' g' m' b hle hf hU S' => ?_) fun s' g' m' hle hf S' => ?_
    · refine hK _ _ g' _ m' hle ⟨rfl, ?_⟩ S'
      rw [e, hf]
      exact (ho.imp fun _ _ q => U.mono (hl'.trans hle) q).snoc hU
    · refine hK0 _ g' _ m' hle ⟨rfl, ?_⟩ S'
      rw [e, hf]; simp only [Option.toList_none, List.append_nil]
      exact ho.imp fun _ _ q => U.mono (hl'.trans hle) q
  · rintro g g' _ out a n s hl ⟨rfl, ho⟩ hle ha S
    rw [List.take_length] at ho
    exact fin g' _ s (hl.trans hle) ⟨a, out, n, rfl, ha, ho.imp fun _ _ q => U.mono hle q⟩ S
end
end Mine
end

section
open PySem PySem.W PyProof.Rows PySem.Calls
set_option Elab.async false
set_option autoImplicit false
set_option maxRecDepth 100000
set_option linter.unusedVariables false
namespace Mine

def outOf (kept : List (List Int)) (spot : Nat) (w : List Int) : List Int :=
  (enumL w).filterMap fun p => if !((kept.getD (spot + p.1.toNat) []).any (· == p.2)) then some p.1 else none
def canEndOf (moves : List (List Int)) (finals : List Int) (ms : Nat) (kept : List (List Int)) (spot : Nat) (q : Int) : Bool :=
  (wordsOf ms (kept.length - spot)).any fun w => decide (outOf kept spot w = []) && endsOf moves finals q w

inductive JCan (vm vf vk : Value) (L : Addr) (own : List Res) (spot : Nat) (ts tk : Tok) (st : Int) (ms : Nat) (kept moves : List (List Int)) (finals : List Int) (i : Nat) (g' : PMap) (own' : List Res) : Prop
  | mk (m : Str → Option Value) (f1 : own' = rVars L [("spot", L + 1 + 1), ("kept", L + 1)] m :: own) (f2 : m "moves" = some vm) (f3 : m "finals" = some vf) (f4 : m "kept" = some vk) (f5 : m "spot" = some (.int spot ts)) (f6 : m "state" = some (.int st tk)) (f7 : ∀ w ∈ (wordsOf ms (kept.length - spot)).take i, (decide (outOf kept spot w = []) && endsOf moves finals st w) = false)

section
variable {prog : Program} {Γ : Pm} {g : PMap} {own : List Res} {s : Shared} {A : Around} {E : Value → Shared → Prop}
set_option maxHeartbeats 4000000 in
theorem can_spec {moves : List (List Int)} {ns ms : Nat} {vm vf vk : Value} {st : Int} {tk ts : Tok} {finals : List Int} {kept : List (List Int)} {spot : Nat} {Q : Value → Shared → Prop}
    (S : St Γ g own s) (hA : Room A 10) (hm : (rTup (rTup rInt)).at' g vm moves) (hf : (rTup rInt).at' g vf finals) (hk : (rLst (rLst rInt)).at' g vk kept) (W : WF moves ns ms) (hst : 0 ≤ st ∧ st ≤ ns)
    (hsp : spot ≤ kept.length) (hk3 : kept.length ≤ 3)
    (h : ∀ g' s', Le g g' → St Γ g' own s' → Q (.bool (canEndOf moves finals ms kept spot st)) s') :
    wpAny (model prog Γ.w) A (call (.ref 199) [vm, vf, vk, .int spot ts, .int st tk]) Q E s := by
  refine call_fn (fun n => [("spot", n + 1), ("kept", n)]) (n := 9) S hA (by rfl) (by rfl) (by rfl) (by rfl) (by rfl) (fun _ => rfl) fun L A s hA S => ?_
  have hm1 := W.m1
  have hm3 := W.m3
  have hn1 := W.n1
  refine wpAny_execs_cons ?_
  refine for_rule (l := wordsOf ms (kept.length - spot)) (T := rTup rInt) fun Kh hKh => ?_
  refine Call_ ?_
  refine ev_global S (by rfl) ?_
  refine cw_fn S (by rfl) rfl ?_
  refine args_cons ?_
  refine Call_ ?_
  refine ev_builtin S (by rfl) (by boot_fast) (by decide) ?_
  refine PyProof.Rows.callWith_builtin1 ?_
  refine args_cons ?_
  refine Subscript_ ?_
  refine ev_local (i := 0) S rfl (by rfl) ?_
  refine ev_int S fun t s S => ?_
  obtain ⟨r0, hr0⟩ : ∃ r, moves[(0 : Int).toNat]? = some r := ⟨_, List.getElem?_eq_getElem (by have := W.len; simp; omega)⟩
  have hr0l := (W.row r0 (List.mem_of_getElem? hr0)).1
  refine q_itemT S hm (by omega) (by omega) hr0 fun v hv => ?_
  refine args_nil ?_
  refine q_lenT S hv (by omega) fun t1 s S => ?_
  refine args_cons ?_
  refine wpAny_BinOp ?_
  refine Call_ ?_
  refine ev_builtin S (by rfl) (by boot_fast) (by decide) ?_
  refine PyProof.Rows.callWith_builtin1 ?_
  refine args_cons ?_
  refine ev_cell (i := 0) S rfl (by rfl) rfl ?_
  refine args_nil ?_
  refine q_len S hk (by omega) fun t s S => ?_
  refine ev_cell (i := 0) S rfl (by rfl) rfl ?_
  refine q_sub S fun t2 s S => ?_
  refine args_nil ⟨S.ge, ?_⟩
  rw [hr0l, show ((kept.length : Int) - (spot : Int)) = ((kept.length - spot : Nat) : Int) by omega]
  refine words_spec S hA.le ⟨hm1, hm3⟩ (by omega) fun v2 g2 s hl2' h2 S => ?_
  refine q_lstIter S hA.1 h2 fun it R s I S => ?_
  refine hKh _ _ _ _ R (I _) S (fun i g' own' => JCan vm vf vk L own spot ts tk st ms kept moves finals i g' own') ⟨_, rfl, by rfl, by rfl, by rfl, by rfl, by rfl, by simp⟩ ?_ ?_
  · rintro i w v g₀ g₁ _ s hx hl ⟨m, rfl, e1, e2, e3, e4, e5, hno⟩ hl' hv S K E' hK hB hR
    have hw := (mem_wordsOf ms _ w).mp (List.mem_of_getElem? hx)
    refine wpAny_assign_Name ?_
    refine st_local (i := 0) S rfl fun s S => ?_
    refine wpAny_execs_cons (wpAny_Assign_Name ?_)
    refine wpAny_Compare1 ?_
    refine comp_map (T := rPair rInt rInt) (U := rInt) (l := enumL w) (fun p => if !((kept.getD (spot + p.1.toNat) []).any (· == p.2)) then some p.1 else none) (cl := [("spot", L + 1 + 1), ("kept", L + 1)]) (by rfl) (by decide) (by decide) fun Kh hKh => ?_
    refine Call_ ?_
    refine ev_builtin S (by rfl) (by boot_fast) (by decide) ?_
    refine PyProof.Rows.callWith_type1 ?_
    refine args_cons ?_
    refine ev_local (i := 0) S rfl upd_self ?_
    refine args_nil ?_
    refine q_enumT S hA.le hv fun it R' s I' S => ?_
    refine hKh _ _ _ _ R' (I' _ _ _) ?_ S ?_ ?_
    · rw [enumL_length, hw.1]; omega
    · rintro ⟨k, a⟩ v' D m' g₂ s hmem hl2 hv2 X Y S K K0 E' hK hK0
      refine q_assign2 S hA.1 hv2 (by rfl) fun u w' s hu hw' S => ?_
      obtain ⟨t1, rfl⟩ := hu
      obtain ⟨t2, rfl⟩ := hw'
      obtain ⟨j, hj⟩ := List.getElem?_of_mem hmem
      obtain ⟨hk1, hk2⟩ := enumL_get hj
      have hjl : j < w.length := (List.getElem?_eq_some_iff.mp hk2).1
      simp only at hk1 hk2
      subst hk1
      refine wpAny_assign_Name (st_local (i := 0) S rfl fun s S => ?_)
      refine wpAny_assign_Name (st_local (i := 0) S rfl fun s S => ?_)
      refine tests_one ?_
      refine wpAny_isTrue_Compare1 ?_
      refine ev_local (i := 0) S rfl upd_self ?_
      refine Subscript_ ?_
      refine ev_cell (i := 3) S rfl (upd_ne (by decide) e3) rfl ?_
      refine wpAny_BinOp ?_
      refine ev_cell (i := 3) S rfl (upd_ne (by decide) e4) rfl ?_
      refine ev_local (i := 0) S rfl (upd_ne (by decide) upd_self) ?_
      refine q_add S fun t s S => ?_
      have hlt : spot + j < kept.length := by omega
      refine q_item (x := kept.getD (spot + j) []) S ((rLst (rLst rInt)).mono (hl2'.trans (hl.trans (hl'.trans hl2))) hk) (by omega) (by omega) ?_ fun v hv => ?_
      · rw [show ((spot : Int) + (j : Int)).toNat = spot + j by omega]
        simp [hlt]
      refine q_notinL S hv ?_
      refine wpAny_truthy_bool ?_
      simp only [Int.toNat_natCast]
      cases hb : (kept.getD (spot + j) []).any (· == a)
      · simp only [Bool.not_false, if_true]
        refine ev_local (i := 0) S rfl (upd_ne (by decide) upd_self) ?_
        refine hK _ _ _ _ ((j : Int)) (Le.refl _) ?_ ⟨_, rfl⟩ S
        show (if !((kept.getD (spot + (j : Int).toNat) []).any (· == a)) then some (j : Int) else none) = _
        rw [Int.toNat_natCast, hb]; rfl
      · simp only [Bool.not_true, Bool.false_eq_true, if_false]
        refine hK0 _ _ _ (Le.refl _) ?_ S
        show (if !((kept.getD (spot + (j : Int).toNat) []).any (· == a)) then some (j : Int) else none) = _
        rw [Int.toNat_natCast, hb]; rfl
    · rintro g₂ v' s hl2 hv2 S
      refine List_ ?_
      refine args_nil ?_
      refine q_listDisp (T := rInt) (l := []) S .nil (by simp) fun v3 g3 s hl3 h3 S => ?_
      refine q_eq (dLst dInt) S (n := 1) hA.le ((rLst rInt).mono hl3 hv2) h3 fun b hb => ?_
      refine st_local (i := 0) S rfl fun s S => ?_
      refine wpAny_execs_cons (wpAny_If ?_)
      refine isTrue_and ?_
      refine isTrue_plain ?_
      refine ev_local (i := 0) S rfl upd_self ?_
      refine wpAny_truthy_bool ?_
      have hbe : b = decide (outOf kept spot w = []) := by
        have hb' : b = true ↔ outOf kept spot w = [] := hb
        cases b <;> simp_all
      cases b with
      | false =>
        simp only [Bool.false_eq_true, if_false]
        refine wpAny_execs_nil (wpAny_execs_nil ((hK _ (rVars L _ _ :: own) _ (hl2.trans hl3) ?_ S).1))
        refine ⟨_, rfl, upd_ne (by decide) (upd_ne (by decide) e1), upd_ne (by decide) (upd_ne (by decide) e2), upd_ne (by decide) (upd_ne (by decide) e3), upd_ne (by decide) (upd_ne (by decide) e4), upd_ne (by decide) (upd_ne (by decide) e5), ?_⟩
        intro w' hw'
        rw [take_succ' hx] at hw'
        rcases List.mem_append.mp hw' with q | q
        · exact hno w' q
        · rw [List.mem_singleton.mp q, ← hbe]; rfl
      | true =>
        simp only [if_true]
        refine isTrue_and ?_
        refine isTrue_plain ?_
        refine Call_ ?_
        refine ev_global S (by rfl) ?_
        refine cw_fn S (by rfl) rfl ?_
        refine args_cons ?_
        refine ev_local (i := 0) S rfl (upd_ne (by decide) (upd_ne (by decide) e1)) ?_
        refine args_cons ?_
        refine ev_local (i := 0) S rfl (upd_ne (by decide) (upd_ne (by decide) e2)) ?_
        refine args_cons ?_
        refine ev_local (i := 0) S rfl (upd_ne (by decide) (upd_ne (by decide) e5)) ?_
        refine args_cons ?_
        refine ev_local (i := 0) S rfl (upd_ne (by decide) upd_self) ?_
        refine args_nil ⟨S.ge, ?_⟩
        have hle := (hl.trans hl').trans (hl2.trans hl3)
        refine ends_spec S hA.le ((rTup (rTup rInt)).mono (hl2'.trans hle) hm) ((rTup rInt).mono (hl2'.trans hle) hf) ((rTup rInt).mono (hl2.trans hl3) hv) W hst hw.2 (by omega) fun g4 s hl4 S => ?_
        refine wpAny_truthy_bool ?_
        cases he : endsOf moves finals st w with
        | false =>
          simp only [Bool.false_eq_true, if_false]
          refine wpAny_execs_nil (wpAny_execs_nil ((hK _ (rVars L _ _ :: own) _ ((hl2.trans hl3).trans hl4) ?_ S).1))
          refine ⟨_, rfl, upd_ne (by decide) (upd_ne (by decide) e1), upd_ne (by decide) (upd_ne (by decide) e2), upd_ne (by decide) (upd_ne (by decide) e3), upd_ne (by decide) (upd_ne (by decide) e4), upd_ne (by decide) (upd_ne (by decide) e5), ?_⟩
          intro w' hw'
          rw [take_succ' hx] at hw'
          rcases List.mem_append.mp hw' with q | q
          · exact hno w' q
          · rw [List.mem_singleton.mp q, he]; simp
        | true =>
          simp only [if_true]
          refine isTrue_and_nil ?_
          simp only [if_true]
          refine wpAny_execs_cons (wpAny_Return_some ?_)
          refine ev_bool ?_
          have e : canEndOf moves finals ms kept spot st = true := by
            unfold canEndOf
            rw [List.any_eq_true]
            exact ⟨w, List.mem_of_getElem? hx, by rw [← hbe, he]; rfl⟩
          have := h g4 s (hl2'.trans (hle.trans hl4)) S.swap.drop.drop
          rw [e] at this
          exact hR _ _ this
  · rintro g' _ s hl ⟨m, rfl, e1, e2, e3, e4, e5, hno⟩ S
    refine wpAny_execs_cons (wpAny_Return_some ?_)
    refine ev_bool ?_
    rw [List.take_length] at hno
    have e : canEndOf moves finals ms kept spot st = false := by
      unfold canEndOf
      rw [List.any_eq_false]
      intro w hw
      rw [hno w hw]; simp
    have := h g' s (hl2'.trans hl) S.drop
    rw [e] at this
    exact this
end
end Mine
end

section
open PySem PySem.W PyProof.Rows PySem.Calls
set_option Elab.async false
set_option autoImplicit false
set_option maxRecDepth 100000
set_option linter.unusedVariables false
namespace Mine

def minL : List Int → Int
  | [] => 0
  | [x] => x
  | x :: y :: l => if x ≤ minL (y :: l) then x else minL (y :: l)
theorem minL_spec : ∀ l : List Int, l ≠ [] → minL l ∈ l ∧ ∀ a ∈ l, minL l ≤ a
  | [], h => absurd rfl h
  | [x], _ => by simp [minL]
  | x :: y :: l, _ => by
    obtain ⟨h1, h2⟩ := minL_spec (y :: l) (by simp)
    unfold minL
    by_cases h : x ≤ minL (y :: l)
    · rw [if_pos h]
      refine ⟨by simp, fun a ha => ?_⟩
      rcases List.mem_cons.mp ha with rfl | ha
      · exact Int.le_refl _
      · exact Int.le_trans h (h2 a ha)
    · rw [if_neg h]
      refine ⟨List.mem_cons_of_mem _ h1, fun a ha => ?_⟩
      rcases List.mem_cons.mp ha with rfl | ha
      · omega
      · exact h2 a ha
theorem minL_unique {l : List Int} {M : Int} (h1 : M ∈ l) (h2 : ∀ a ∈ l, M ≤ a) : M = minL l := by
  obtain ⟨h3, h4⟩ := minL_spec l (by intro e; rw [e] at h1; cases h1)
  have := h2 _ h3; have := h4 _ h1; omega

def aliveAt (alive : List (List Bool)) (k : Nat) (q : Int) : Bool := (alive.getD k []).getD q.toNat false
def firstsOf (alive : List (List Bool)) (spot : Nat) (met : List Int) : List Int :=
  (rangeL 0 met.length).filterMap fun k => if aliveAt alive (spot + k.toNat + 1) (met.getD k.toNat 0) then some k else none
def turnOf (moves : List (List Int)) (finals : List Int) (alive : List (List Bool)) (spot : Nat) (q : Int) (w : List Int) : Option (Int × Int) :=
  if endsOf moves finals q w then some (spot + minL (firstsOf alive spot (statesOf moves q w)), w.getD (minL (firstsOf alive spot (statesOf moves q w))).toNat 0) else none
def turnsOf (moves : List (List Int)) (finals : List Int) (ms : Nat) (alive : List (List Bool)) (spot : Nat) (q : Int) (many : Nat) : List (Int × Int) :=
  (wordsOf ms (many - spot)).filterMap (turnOf moves finals alive spot q)

theorem statesOf_range {moves : List (List Int)} {ns ms : Nat} (W : WF moves ns ms) : ∀ (w : List Int) (q : Int), (0 ≤ q ∧ q ≤ ns) → (∀ a ∈ w, 1 ≤ a ∧ a ≤ (ms : Int)) → ∀ x ∈ statesOf moves q w, 0 ≤ x ∧ x ≤ (ns : Int)
  | [], q, _, _, x, hx => by simp [statesOf] at hx
  | a :: w, q, hq, hw, x, hx => by
    unfold statesOf at hx
    by_cases h0 : q = 0
    · rw [if_neg (by simp [h0])] at hx
      exact statesOf_range W w q hq (fun b hb => hw b (List.mem_cons_of_mem _ hb)) x hx
    · rw [if_pos h0] at hx
      obtain ⟨_, _, _, h1, h2⟩ := W.at (q := q) (a := a) ⟨by omega, hq.2⟩ (hw a (by simp))
      rcases List.mem_cons.mp hx with rfl | hx
      · exact ⟨h1, h2⟩
      · exact statesOf_range W w _ ⟨h1, h2⟩ (fun b hb => hw b (List.mem_cons_of_mem _ hb)) x hx

theorem getD_of {α : Type} {l : List α} {i : Nat} {d : α} (h : i < l.length) : l[i]? = some (l.getD i d) := by simp [h]
theorem filterMap_take_le {α β : Type} (f : α → Option β) (l : List α) (i : Nat) : ((l.take i).filterMap f).length ≤ l.length :=
  Nat.le_trans (List.length_filterMap_le _ _) (by rw [List.length_take]; omega)

inductive JTurns (vm vf va : Value) (L a : Addr) (own : List Res) (spot many ms : Nat) (ts tk : Tok) (st : Int) (moves : List (List Int)) (finals : List Int) (alive : List (List Bool)) (i : Nat) (g' : PMap) (own' : List Res) : Prop
  | mk (m : Str → Option Value) (out : List Value) (f1 : own' = rVars L [("met", L + 1 + 2), ("spot", L + 1 + 1), ("alive", L + 1)] m :: rAcc a out :: own) (f2 : m "moves" = some vm) (f3 : m "finals" = some vf) (f4 : m "alive" = some va) (f5 : m "spot" = some (.int spot ts)) (f6 : m "state" = some (.int st tk)) (f7 : m "turns" = some (.ref a)) (f8 : All2 ((rPair rInt rInt).at' g') out (((wordsOf ms (many - spot)).take i).filterMap (turnOf moves finals alive spot st)))

section
variable {prog : Program} {Γ : Pm} {g : PMap} {own : List Res} {s : Shared} {A : Around} {E : Value → Shared → Prop}
theorem q_minL {v : Value} {l : List Int} {Q : Value → Shared → Prop} (S : St Γ g own s) (hh : A.handled = none) (hv : (rLst rInt).at' g v l) (hne : l ≠ [])
    (h : ∀ t s', St Γ g own s' → Q (.int (minL l) t) s') : wpAny (model prog Γ.w) A (call (.builtin "min") [v]) Q E s := by
  obtain ⟨a, vs, n, rfl, hg, hr⟩ := hv
  have hi := intsAre hr
  obtain ⟨xs, e⟩ := hi.allInts.items
  have hns : l = xs.toList.map (·.1) := by
    rw [← hi.numsOf, ← nums_intItems, ← e]
  have hsz : 0 < xs.size := by
    have h3 : 0 < l.length := List.length_pos_iff.mpr hne
    rw [hns, List.length_map, Array.length_toList] at h3; exact h3
  have hL := isList_of S hg
  rw [e] at hL
  refine min_intList hh hL hsz fun v h' tk hv hk => ?_
  obtain ⟨t, rfl⟩ := intItems_at hv
  obtain ⟨h1, h2⟩ := argBest_lt (numAt xs) (xs.size - 1)
  have hM : numAt xs (argBest (fun i j => decide (numAt xs i < numAt xs j)) (xs.size - 1)) = minL l := by
    refine minL_unique ?_ fun a ha => ?_
    · rw [hns, numAt_eq]; exact getD_mem (by rw [List.length_map, Array.length_toList]; omega)
    · rw [hns] at ha
      obtain ⟨j, hj, rfl⟩ := mem_getD ha
      rw [List.length_map, Array.length_toList] at hj
      rw [← numAt_eq]; exact h2 j (by omega)
  rw [hM]
  exact h t _ (S.kept hk rfl rfl)

theorem q_tup2 {α β : Type} {Ra : Rep α} {Rb : Rep β} {v u : Value} {x : α} {y : β} {Q : Value → Shared → Prop} (S : St Γ g own s) (hv : Ra.at' g v x) (hu : Rb.at' g u y)
    (h : ∀ r g' s', Le g g' → (rPair Ra Rb).at' g' r (x, y) → St Γ g' own s' → Q r s') : wpAny (model prog Γ.w) A (newTuple [v, u]) Q E s :=
  q_newTuple S (by simp) fun a g' s' hl ha S' => h _ g' s' hl ⟨a, v, u, 0, rfl, ha, Ra.mono hl hv, Rb.mono hl hu⟩ S'

set_option maxHeartbeats 4000000 in
theorem turns_spec {moves : List (List Int)} {ns ms : Nat} {vm vf va : Value} {st : Int} {tk ts tn : Tok} {finals : List Int} {alive : List (List Bool)} {spot many : Nat} {Q : Value → Shared → Prop}
    (S : St Γ g own s) (hA : Room A 10) (hm : (rTup (rTup rInt)).at' g vm moves) (hf : (rTup rInt).at' g vf finals) (hal : (rLst (rLst rBool)).at' g va alive) (W : WF moves ns ms) (hst : 0 ≤ st ∧ st ≤ ns)
    (hsp : spot ≤ many) (hm3 : many ≤ 3) (ha1 : alive.length = many + 1) (ha2 : ∀ r ∈ alive, r.length = ns + 1)
    (hfirst : ∀ w ∈ wordsOf ms (many - spot), endsOf moves finals st w = true → firstsOf alive spot (statesOf moves st w) ≠ [])
    (h : ∀ v g' s', Le g g' → (rLst (rPair rInt rInt)).at' g' v (turnsOf moves finals ms alive spot st many) → St Γ g' own s' → Q v s') :
    wpAny (model prog Γ.w) A (call (.ref 204) [vm, vf, va, .int spot ts, .int st tk, .int many tn]) Q E s := by
  refine call_fn (fun n => [("met", n + 2), ("spot", n + 1), ("alive", n)]) (n := 9) S hA (by rfl) (by rfl) (by rfl) (by rfl) (by rfl) (fun _ => rfl) fun L A s hA S => ?_
  have hm1 := W.m1
  have hm3 := W.m3
  have hn1 := W.n1
  refine wpAny_execs_cons (wpAny_Assign_Name ?_)
  refine List_ ?_
  refine args_nil ?_
  refine q_newList S (by decide) fun a s S => ?_
  have S := S.swap
  refine st_local (i := 0) S rfl fun s S => ?_
  refine wpAny_execs_cons ?_
  refine for_rule (l := wordsOf ms (many - spot)) (T := rTup rInt) fun Kh hKh => ?_
  refine Call_ ?_
  refine ev_global S (by rfl) ?_
  refine cw_fn S (by rfl) rfl ?_
  refine args_cons ?_
  refine Call_ ?_
  refine ev_builtin S (by rfl) (by boot_fast) (by decide) ?_
  refine PyProof.Rows.callWith_builtin1 ?_
  refine args_cons ?_
  refine Subscript_ ?_
  refine ev_local (i := 0) S rfl (by rfl) ?_
  refine ev_int S fun t s S => ?_
  obtain ⟨r0, hr0⟩ : ∃ r, moves[(0 : Int).toNat]? = some r := ⟨_, List.getElem?_eq_getElem (by have := W.len; simp; omega)⟩
  have hr0l := (W.row r0 (List.mem_of_getElem? hr0)).1
  refine q_itemT S hm (by omega) (by omega) hr0 fun v hv => ?_
  refine args_nil ?_
  refine q_lenT S hv (by omega) fun t1 s S => ?_
  refine args_cons ?_
  refine wpAny_BinOp ?_
  refine ev_local (i := 0) S rfl (by rfl) ?_
  refine ev_cell (i := 0) S rfl (by rfl) rfl ?_
  refine q_sub S fun t2 s S => ?_
  refine args_nil ⟨S.ge, ?_⟩
  rw [hr0l, show ((many : Int) - (spot : Int)) = ((many - spot : Nat) : Int) by omega]
  refine words_spec S hA.le ⟨hm1, hm3⟩ (by omega) fun v2 g2 s hl2' h2 S => ?_
  refine q_lstIter S hA.1 h2 fun it R s I S => ?_
  refine hKh _ _ _ _ R (I _) S (fun i g' own' => JTurns vm vf va L a own spot many ms ts tk st moves finals alive i g' own') ⟨_, [], rfl, by rfl, by rfl, by rfl, by rfl, by rfl, by rfl, by simpa using All2.nil⟩ ?_ ?_
  · rintro i w v g₀ g₁ _ s hx hl ⟨m, out, rfl, e1, e2, e3, e4, e5, e6, hout⟩ hl' hv S K E' hK hB hR
    have hw := (mem_wordsOf ms _ w).mp (List.mem_of_getElem? hx)
    have hle := hl2'.trans (hl.trans hl')
    refine wpAny_assign_Name ?_
    refine st_local (i := 0) S rfl fun s S => ?_
    refine wpAny_execs_cons (wpAny_If ?_)
    refine isTrue_plain ?_
    refine Call_ ?_
    refine ev_global S (by rfl) ?_
    refine cw_fn S (by rfl) rfl ?_
    refine args_cons ?_
    refine ev_local (i := 0) S rfl (upd_ne (by decide) e1) ?_
    refine args_cons ?_
    refine ev_local (i := 0) S rfl (upd_ne (by decide) e2) ?_
    refine args_cons ?_
    refine ev_local (i := 0) S rfl (upd_ne (by decide) e5) ?_
    refine args_cons ?_
    refine ev_local (i := 0) S rfl upd_self ?_
    refine args_nil ⟨S.ge, ?_⟩
    refine ends_spec S hA.le ((rTup (rTup rInt)).mono hle hm) ((rTup rInt).mono hle hf) hv W hst hw.2 (by omega) fun g4 s hl4 S => ?_
    refine wpAny_truthy_bool ?_
    cases he : endsOf moves finals st w with
    | false =>
      simp only [Bool.false_eq_true, if_false]
      refine wpAny_execs_nil (wpAny_execs_nil ((hK _ (rVars L _ _ :: rAcc a _ :: own) _ hl4 ?_ S).1))
      refine ⟨_, _, rfl, upd_ne (by decide) e1, upd_ne (by decide) e2, upd_ne (by decide) e3, upd_ne (by decide) e4, upd_ne (by decide) e5, upd_ne (by decide) e6, ?_⟩
      rw [take_succ' hx, List.filterMap_append, show [w].filterMap (turnOf moves finals alive spot st) = [] by simp [turnOf, he], List.append_nil]
      exact hout.imp fun _ _ q => (rPair rInt rInt).mono (hl'.trans hl4) q
    | true =>
      simp only [if_true]
      refine wpAny_execs_cons (wpAny_Assign_Name ?_)
      refine Call_ ?_
      refine ev_global S (by rfl) ?_
      refine cw_fn S (by rfl) rfl ?_
      refine args_cons ?_
      refine ev_local (i := 0) S rfl (upd_ne (by decide) e1) ?_
      refine args_cons ?_
      refine ev_local (i := 0) S rfl (upd_ne (by decide) e5) ?_
      refine args_cons ?_
      refine ev_local (i := 0) S rfl upd_self ?_
      refine args_nil ⟨S.ge, ?_⟩
      refine states_spec S hA.le ((rTup (rTup rInt)).mono (hle.trans hl4) hm) ((rTup rInt).mono hl4 hv) W hst hw.2 (by omega) fun v5 g5 s hl5 h5 S => ?_
      have hmr := statesOf_range W w st hst hw.2
      have hml := statesOf_len moves w st
      have hne := hfirst w (List.mem_of_getElem? hx) he
      generalize hmet : statesOf moves st w = met at *
      refine st_cell (i := 0) S rfl rfl fun s S => ?_
      refine wpAny_execs_cons (wpAny_Assign_Name ?_)
      refine Call_ ?_
      refine ev_builtin S (by rfl) (by boot_fast) (by decide) ?_
      refine PyProof.Rows.callWith_builtin1 ?_
      refine args_cons ?_
      refine comp_map (T := rInt) (U := rInt) (l := rangeL 0 met.length) (fun k => if aliveAt alive (spot + k.toNat + 1) (met.getD k.toNat 0) then some k else none) (cl := [("spot", L + 1 + 1), ("met", L + 1 + 2), ("alive", L + 1)]) (by rfl) (by decide) (by decide) fun Kh hKh => ?_
      refine Call_ ?_
      refine ev_builtin S (by rfl) (by boot_fast) (by decide) ?_
      refine PyProof.Rows.callWith_type1 ?_
      refine args_cons ?_
      refine Call_ ?_
      refine ev_builtin S (by rfl) (by boot_fast) (by decide) ?_
      refine PyProof.Rows.callWith_builtin1 ?_
      refine args_cons ?_
      refine ev_cell (i := 0) S rfl upd_self rfl ?_
      refine args_nil ?_
      refine q_len S h5 (by omega) fun t s S => ?_
      refine args_nil ?_
      refine q_rng1 S (by omega) fun I2 s S => ?_
      refine hKh _ _ _ _ (rRIter I2 0 met.length) (Iter.range hA.1) ?_ S ?_ ?_
      · rw [rangeL_length]; omega
      · rintro k v' D m' g₂ s hmem hl6 ⟨t6, rfl⟩ X Y S K K0 E' hK' hK0
        obtain ⟨hk1, hk2⟩ := mem_rangeL.mp hmem
        obtain ⟨j, rfl⟩ : ∃ j : Nat, k = j := ⟨k.toNat, by omega⟩
        have hj : j < met.length := by omega
        refine wpAny_assign_Name (st_local (i := 0) S rfl fun s S => ?_)
        refine tests_one ?_
        refine isTrue_plain ?_
        refine Subscript_ ?_
        refine Subscript_ ?_
        refine ev_cell (i := 3) S rfl (upd_ne (by decide) (upd_ne (by decide) e3)) rfl ?_
        refine wpAny_BinOp ?_
        refine wpAny_BinOp ?_
        refine ev_cell (i := 3) S rfl (upd_ne (by decide) (upd_ne (by decide) e4)) rfl ?_
        refine ev_local (i := 0) S rfl upd_self ?_
        refine q_add S fun t s S => ?_
        refine ev_int S fun t s S => ?_
        refine q_add S fun t s S => ?_
        have hlt : spot + j + 1 < alive.length := by omega
        refine q_item (x := alive.getD (spot + j + 1) []) S ((rLst (rLst rBool)).mono (((hle.trans hl4).trans hl5).trans hl6) hal) (by omega) (by omega) ?_ fun v hv => ?_
        · rw [show ((spot : Int) + (j : Int) + 1).toNat = spot + j + 1 by omega]
          exact getD_of hlt
        refine Subscript_ ?_
        refine ev_cell (i := 3) S rfl upd_self rfl ?_
        refine ev_local (i := 0) S rfl upd_self ?_
        refine q_item (x := met.getD j 0) S ((rLst rInt).mono hl6 h5) (by omega) (by omega) ?_ fun v7 hv7 => ?_
        · rw [Int.toNat_natCast]; exact getD_of hj
        obtain ⟨t7, rfl⟩ := hv7
        have hrow : (alive.getD (spot + j + 1) []).length = ns + 1 := ha2 _ (List.mem_of_getElem? (getD_of hlt))
        have hmj := hmr _ (List.mem_of_getElem? (getD_of (d := 0) hj))
        have hn3 := W.n3
        refine q_item (x := aliveAt alive (spot + j + 1) (met.getD j 0)) S hv (by omega) (by omega) ?_ fun v8 hv8 => ?_
        · exact getD_of (by omega)
        cases (show v8 = _ from hv8)
        refine wpAny_truthy_bool ?_
        by_cases hb : aliveAt alive (spot + j + 1) (met.getD j 0) = true
        · rw [if_pos hb]
          refine ev_local (i := 0) S rfl upd_self ?_
          exact hK' _ _ _ _ ((j : Int)) (Le.refl _) (by rw [Int.toNat_natCast, if_pos hb]) ⟨_, rfl⟩ S
        · rw [if_neg hb]
          exact hK0 _ _ _ (Le.refl _) (by rw [Int.toNat_natCast, if_neg hb]) S
      · rintro g₂ v' s hl6 hv6 S
        change (rLst rInt).at' _ _ (firstsOf alive spot met) at hv6
        refine args_nil ?_
        refine q_minL S hA.1 hv6 hne fun t s S => ?_
        change St Γ _ _ s at S
        have hmin := minL_spec _ hne
        have hMr : 0 ≤ minL (firstsOf alive spot met) ∧ minL (firstsOf alive spot met) < met.length := by
          obtain ⟨k, hk, hk2⟩ := List.mem_filterMap.mp hmin.1
          have hk3 := mem_rangeL.mp hk
          split at hk2
          · cases hk2; exact hk3
          · cases hk2
        refine st_local (i := 0) S rfl fun s S => ?_
        refine wpAny_execs_cons (q_appendStmt ?_)
        refine ev_local (i := 0) S rfl (upd_ne (by decide) (upd_ne (by decide) (upd_ne (by decide) e6))) ?_
        refine ⟨a, rfl, ⟨_, S.holds 2 _ rfl⟩, ?_⟩
        refine Tuple_ ?_
        refine args_cons ?_
        refine wpAny_BinOp ?_
        refine ev_cell (i := 0) S rfl (upd_ne (by decide) (upd_ne (by decide) (upd_ne (by decide) e4))) rfl ?_
        refine ev_local (i := 0) S rfl upd_self ?_
        refine q_add S fun t s S => ?_
        refine args_cons ?_
        refine Subscript_ ?_
        refine ev_local (i := 0) S rfl (upd_ne (by decide) (upd_ne (by decide) upd_self)) ?_
        refine ev_local (i := 0) S rfl upd_self ?_
        refine q_itemT (x := w.getD (minL (firstsOf alive spot met)).toNat 0) S ((rTup rInt).mono ((hl4.trans hl5).trans hl6) hv) (by omega) (by omega) (getD_of (by omega)) fun v9 hv9 => ?_
        refine args_nil ?_
        refine q_tup2 S (Ra := rInt) (Rb := rInt) ⟨_, rfl⟩ hv9 fun v10 g10 s hl10 hv10 S => ?_
        have hlen := hout.length
        have hfl := filterMap_take_le (turnOf moves finals alive spot st) (wordsOf ms (many - spot)) i
        have hwl := wordsOf_le (ms := ms) (n := many - spot) hm3 (by omega)
        refine q_append (i := 2) S rfl (by omega) fun s S => ?_
        refine ⟨rfl, wpAny_execs_nil (wpAny_execs_nil ((hK _ (rVars L [("met", L + 1 + 2), ("spot", L + 1 + 1), ("alive", L + 1)] _ :: rAcc a _ :: own) _ (((hl4.trans hl5).trans hl6).trans hl10) ?_ S).1))⟩
        refine ⟨_, _, rfl, upd_ne (by decide) (upd_ne (by decide) (upd_ne (by decide) e1)), upd_ne (by decide) (upd_ne (by decide) (upd_ne (by decide) e2)), upd_ne (by decide) (upd_ne (by decide) (upd_ne (by decide) e3)),
          upd_ne (by decide) (upd_ne (by decide) (upd_ne (by decide) e4)), upd_ne (by decide) (upd_ne (by decide) (upd_ne (by decide) e5)), upd_ne (by decide) (upd_ne (by decide) (upd_ne (by decide) e6)), ?_⟩
        rw [take_succ' hx, List.filterMap_append, show [w].filterMap (turnOf moves finals alive spot st) = [(spot + minL (firstsOf alive spot met), w.getD (minL (firstsOf alive spot met)).toNat 0)] by simp [turnOf, he, hmet]]
        exact (hout.imp fun _ _ q => (rPair rInt rInt).mono (hl'.trans (((hl4.trans hl5).trans hl6).trans hl10)) q).snoc hv10
  · rintro g' _ s hl ⟨m, out, rfl, e1, e2, e3, e4, e5, e6, hout⟩ S
    refine wpAny_execs_cons (wpAny_Return_some ?_)
    refine ev_local (i := 0) S rfl e6 ?_
    have S := S.swap
    obtain ⟨n, hle, S⟩ := S.accRest
    rw [List.take_length] at hout
    exact h _ _ s (hl2'.trans (hl.trans hle)) ⟨a, out, n, rfl, ins_self, hout.imp fun _ _ q => (rPair rInt rInt).mono hle q⟩ S.drop
end
end Mine
end

section
open PySem PySem.SetTable
set_option Elab.async false
set_option autoImplicit false
set_option linter.unusedVariables false
namespace Mine

/-! the walk of places -/
def adv (m : Nat) (p : SetTable.Probe) : SetTable.Probe :=
  if p.more > 0 then { p with j := p.j + 1, more := p.more - 1 } else
  { p with j := (leap m p.i p.perturb).1, more := runEnd m (leap m p.i p.perturb).1 - (leap m p.i p.perturb).1, i := (leap m p.i p.perturb).1, perturb := (leap m p.i p.perturb).2 }
theorem advance_eq (t : SetTable) (p : SetTable.Probe) : t.advance p = adv t.mask p := rfl
def rs (m i b : Nat) : SetTable.Probe := { j := i, more := runEnd m i - i, i := i, perturb := b, dummy := none }
def advN (m : Nat) : Nat → SetTable.Probe → SetTable.Probe
  | 0, p => p
  | k + 1, p => adv m (advN m k p)
theorem advN_add (m : Nat) (p : SetTable.Probe) (a : Nat) : ∀ b, advN m (a + b) p = advN m b (advN m a p)
  | 0 => rfl
  | b + 1 => by show adv m (advN m (a + b) p) = adv m (advN m b (advN m a p)); rw [advN_add m p a b]
def sq (m : Nat) (h : Int) (k : Nat) : SetTable.Probe := advN m k (rs m (bits h % (m + 1)) (bits h))
theorem start_eq (t : SetTable) (h : Int) : t.probeStart h = sq t.mask h 0 := rfl
theorem sq_succ (m : Nat) (h : Int) (k : Nat) : sq m h (k + 1) = adv m (sq m h k) := rfl
def rd (m : Nat) (h : Int) : Nat → Nat × Nat
  | 0 => (bits h % (m + 1), bits h)
  | q + 1 => leap m (rd m h q).1 (rd m h q).2

theorem in_round (m i b : Nat) : ∀ n, n ≤ runEnd m i - i → advN m n (rs m i b) = { j := i + n, more := runEnd m i - i - n, i := i, perturb := b, dummy := none }
  | 0, _ => rfl
  | n + 1, h => by
    show adv m (advN m n (rs m i b)) = _
    rw [in_round m i b n (by omega)]
    unfold adv
    have h1 : runEnd m i - i - n > 0 := by omega
    simp only [h1, if_true]
    congr 1
theorem next_round (m i b : Nat) : advN m (runEnd m i - i + 1) (rs m i b) = rs m (leap m i b).1 (leap m i b).2 := by
  show adv m (advN m (runEnd m i - i) (rs m i b)) = _
  rw [in_round m i b _ (Nat.le_refl _)]
  unfold adv
  simp only [Nat.sub_self, gt_iff_lt, Nat.lt_irrefl, if_false]
  rfl
def rdIdx (m : Nat) (h : Int) : Nat → Nat
  | 0 => 0
  | q + 1 => rdIdx m h q + (runEnd m (rd m h q).1 - (rd m h q).1 + 1)
theorem sq_round (m : Nat) (h : Int) : ∀ q, sq m h (rdIdx m h q) = rs m (rd m h q).1 (rd m h q).2
  | 0 => rfl
  | q + 1 => by
    show advN m (rdIdx m h q + (runEnd m (rd m h q).1 - (rd m h q).1 + 1)) _ = _
    rw [advN_add]
    show advN m _ (sq m h (rdIdx m h q)) = _
    rw [sq_round m h q, next_round]; rfl
theorem sq_in (m : Nat) (h : Int) (q n : Nat) (hn : n ≤ runEnd m (rd m h q).1 - (rd m h q).1) : (sq m h (rdIdx m h q + n)).j = (rd m h q).1 + n := by
  show (advN m (rdIdx m h q + n) _).j = _
  rw [advN_add]
  show (advN m n (sq m h (rdIdx m h q))).j = _
  rw [sq_round, in_round _ _ _ _ hn]
theorem run_le (m i : Nat) : runEnd m i - i ≤ 9 := by unfold runEnd; split <;> omega
theorem rdIdx_le (m : Nat) (h : Int) : ∀ q, rdIdx m h q ≤ 10 * q
  | 0 => Nat.le_refl _
  | q + 1 => by
    have := rdIdx_le m h q
    have := run_le m (rd m h q).1
    show rdIdx m h q + _ ≤ _; omega

theorem run_le_mask {m i : Nat} (h : i ≤ m) : runEnd m i ≤ m := by unfold runEnd; split <;> omega
theorem run_ge (m i : Nat) : i ≤ runEnd m i := by unfold runEnd; split <;> omega
theorem sq_inv (m : Nat) (h : Int) : ∀ k, (sq m h k).i ≤ m ∧ (sq m h k).j + (sq m h k).more = runEnd m (sq m h k).i ∧ (sq m h k).dummy = none
  | 0 => by
    have h1 : bits h % (m + 1) ≤ m := Nat.le_of_lt_succ (Nat.mod_lt _ (Nat.succ_pos _))
    have := run_ge m (bits h % (m + 1))
    refine ⟨h1, ?_, rfl⟩
    show bits h % (m + 1) + (runEnd m (bits h % (m + 1)) - bits h % (m + 1)) = runEnd m (bits h % (m + 1)); omega
  | k + 1 => by
    obtain ⟨h1, h2, h3⟩ := sq_inv m h k
    rw [sq_succ]; unfold adv
    by_cases hm : (sq m h k).more > 0
    · rw [if_pos hm]; exact ⟨h1, by show (sq m h k).j + 1 + ((sq m h k).more - 1) = runEnd m (sq m h k).i; omega, h3⟩
    · rw [if_neg hm]
      have h4 : (leap m (sq m h k).i (sq m h k).perturb).1 ≤ m := Nat.le_of_lt_succ (Nat.mod_lt _ (Nat.succ_pos _))
      have := run_ge m (leap m (sq m h k).i (sq m h k).perturb).1
      exact ⟨h4, by show (leap m (sq m h k).i (sq m h k).perturb).1 + (runEnd m (leap m (sq m h k).i (sq m h k).perturb).1 - (leap m (sq m h k).i (sq m h k).perturb).1) = runEnd m (leap m (sq m h k).i (sq m h k).perturb).1; omega, h3⟩
theorem sq_le (m : Nat) (h : Int) (k : Nat) : (sq m h k).j ≤ m := by
  obtain ⟨h1, h2, _⟩ := sq_inv m h k
  have := run_le_mask h1; omega

/-! every place is met -/
def hop (m : Nat) : Nat → Nat → Nat
  | 0, i => i
  | q + 1, i => (hop m q i * 5 + 1) % (m + 1)
def hopsAll (m : Nat) : Bool := (List.range (m + 1)).all fun i => (List.range (m + 1)).all fun j => (List.range (m + 1)).any fun q => hop m q i == j
theorem hops7 : hopsAll 7 = true := by decide +kernel
theorem hops31 : hopsAll 31 = true := by decide +kernel
def OkMask (m : Nat) : Prop := hopsAll m = true
theorem rd_perturb (m : Nat) (h : Int) : ∀ q, (rd m h q).2 = bits h / 32 ^ q
  | 0 => by simp [rd]
  | q + 1 => by
    show (rd m h q).2 / 32 = _
    rw [rd_perturb m h q, Nat.div_div_eq_div_mul, Nat.pow_succ]
theorem bits_lt (h : Int) : bits h < 2 ^ 64 := by
  unfold bits
  have h1 := Int.emod_lt_of_pos h (show (0 : Int) < 2 ^ 64 by decide)
  have h2 := Int.emod_nonneg h (show (2 ^ 64 : Int) ≠ 0 by decide)
  omega
theorem rd_late (m : Nat) (h : Int) : ∀ q, rd m h (13 + q) = (hop m q (rd m h 13).1, 0)
  | 0 => by
    have h1 := rd_perturb m h 13
    have h2 := bits_lt h
    have h3 : bits h / 32 ^ 13 = 0 := Nat.div_eq_of_lt (Nat.lt_of_lt_of_le h2 (by decide))
    rw [h3] at h1
    show rd m h 13 = ((rd m h 13).1, 0)
    rw [← h1]
  | q + 1 => by
    show leap m (rd m h (13 + q)).1 (rd m h (13 + q)).2 = _
    rw [rd_late m h q]
    show ((hop m q (rd m h 13).1 * 5 + 1 + 0 / 32) % (m + 1), 0 / 32) = _
    simp [hop]
theorem rd_le (m : Nat) (h : Int) : ∀ q, (rd m h q).1 ≤ m
  | 0 => Nat.le_of_lt_succ (Nat.mod_lt _ (Nat.succ_pos _))
  | q + 1 => Nat.le_of_lt_succ (Nat.mod_lt _ (Nat.succ_pos _))
theorem rd_hits {m : Nat} (ok : OkMask m) (h : Int) {j : Nat} (hj : j ≤ m) : ∃ q, q < m + 14 ∧ (rd m h q).1 = j := by
  unfold OkMask hopsAll at ok
  rw [List.all_eq_true] at ok
  have h1 := ok _ (List.mem_range.mpr (Nat.lt_succ_of_le (rd_le m h 13)))
  rw [List.all_eq_true] at h1
  have h2 := h1 j (List.mem_range.mpr (Nat.lt_succ_of_le hj))
  rw [List.any_eq_true] at h2
  obtain ⟨q, hq, e⟩ := h2
  have hq' := List.mem_range.mp hq
  refine ⟨13 + q, by omega, ?_⟩
  rw [rd_late]; simpa using e
theorem sq_hits {m : Nat} (ok : OkMask m) (h : Int) {j : Nat} (hj : j ≤ m) : ∃ k, k < 10 * (m + 14) ∧ (sq m h k).j = j := by
  obtain ⟨q, hq, e⟩ := rd_hits ok h hj
  refine ⟨rdIdx m h q, by have := rdIdx_le m h q; omega, ?_⟩
  rw [sq_round]; exact e

theorem least {P : Nat → Prop} : ∀ n, P n → ∃ K, K ≤ n ∧ P K ∧ ∀ k, k < K → ¬ P k := by
  intro n
  induction n using Nat.strongRecOn with
  | ind n ih =>
    intro h
    by_cases hx : ∃ k, k < n ∧ P k
    · obtain ⟨k, hk, hp⟩ := hx
      obtain ⟨K, h1, h2, h3⟩ := ih k hk hp
      exact ⟨K, by omega, h2, h3⟩
    · exact ⟨n, Nat.le_refl _, h, fun k hk hp => hx ⟨k, hk, hp⟩⟩
theorem pigeon : ∀ (n : Nat) (l : List Nat), l.length < n → ∃ j, j < n ∧ j ∉ l
  | 0, l, h => absurd h (Nat.not_lt_zero _)
  | n + 1, l, h => by
    by_cases hn : n ∈ l
    · have h1 : (l.filter (· ≠ n)).length < l.length := by
        have := List.length_filter_lt_length_iff_exists (p := fun x => decide (x ≠ n)) (l := l)
        exact this.mpr ⟨n, hn, by simp⟩
      obtain ⟨j, hj, hj2⟩ := pigeon n (l.filter (· ≠ n)) (by omega)
      refine ⟨j, by omega, fun hm => hj2 ?_⟩
      rw [List.mem_filter]; exact ⟨hm, by simp; omega⟩
    · exact ⟨n, Nat.lt_succ_self _, hn⟩

/-! binary search -/
def Ris (xs : Array Nat) : Prop := ∀ a b, a < b → b < xs.size → xs.getD a 0 < xs.getD b 0
theorem below_go (xs : Array Nat) (j : Nat) (hr : Ris xs) : ∀ fuel lo hi, lo ≤ hi → hi ≤ xs.size → hi - lo ≤ fuel → (∀ i, i < lo → xs.getD i 0 < j) → (∀ i, hi ≤ i → i < xs.size → j ≤ xs.getD i 0) →
    below.go xs j fuel lo hi ≤ xs.size ∧ (∀ i, i < below.go xs j fuel lo hi → xs.getD i 0 < j) ∧ (∀ i, below.go xs j fuel lo hi ≤ i → i < xs.size → j ≤ xs.getD i 0)
  | 0, lo, hi, h1, h2, h3, h4, h5 => by
    have : lo = hi := by omega
    subst this
    exact ⟨h2, h4, h5⟩
  | fuel + 1, lo, hi, h1, h2, h3, h4, h5 => by
    unfold below.go
    by_cases hlt : lo < hi
    · rw [if_pos hlt]
      dsimp only
      have hm : (lo + hi) / 2 < xs.size := by omega
      have e : xs.getD ((lo + hi) / 2) j = xs.getD ((lo + hi) / 2) 0 := by simp [Array.getD, hm]
      rw [e]
      by_cases hc : xs.getD ((lo + hi) / 2) 0 < j
      · rw [if_pos hc]
        refine below_go xs j hr fuel _ _ (by omega) h2 (by omega) (fun i hi' => ?_) h5
        rcases Nat.lt_or_ge i ((lo + hi) / 2) with q | q
        · exact Nat.lt_trans (hr i _ q hm) hc
        · have : i = (lo + hi) / 2 := by omega
          rw [this]; exact hc
      · rw [if_neg hc]
        refine below_go xs j hr fuel _ _ (by omega) (by omega) (by omega) h4 (fun i hi' hs => ?_)
        rcases Nat.lt_or_ge ((lo + hi) / 2) i with q | q
        · have := hr _ i q hs; omega
        · have : i = (lo + hi) / 2 := by omega
          rw [this]; omega
    · rw [if_neg hlt]
      have : lo = hi := by omega
      subst this
      exact ⟨h2, h4, h5⟩
theorem below_spec {xs : Array Nat} (hr : Ris xs) (j : Nat) : below xs j ≤ xs.size ∧ (∀ i, i < below xs j → xs.getD i 0 < j) ∧ (∀ i, below xs j ≤ i → i < xs.size → j ≤ xs.getD i 0) :=
  below_go xs j hr xs.size 0 xs.size (Nat.zero_le _) (Nat.le_refl _) (by omega) (fun i h => absurd h (Nat.not_lt_zero _)) (fun i h1 h2 => by omega)

/-! the table -/
abbrev Ent := Nat × Int × Value
structure Tab (m : Nat) (L : List Ent) : Prop where
  ris : L.Pairwise (fun a b => a.1 < b.1)
  le : ∀ e ∈ L, e.1 ≤ m
  reach : ∀ e ∈ L, ∃ k, (sq m e.2.1 k).j = e.1 ∧ ∀ k', k' < k → ∃ e' ∈ L, e'.1 = (sq m e.2.1 k').j
structure Lay (t : SetTable) (es : Array (Int × Value)) (L : List Ent) : Prop where
  place : t.place.toList = L.map (·.1)
  ents : es.toList = L.map (·.2)
  dummies : t.dummies = #[]
theorem Lay.size {t : SetTable} {es : Array (Int × Value)} {L : List Ent} (Y : Lay t es L) : t.place.size = L.length := by
  have := congrArg List.length Y.place; simpa using this
theorem Lay.size' {t : SetTable} {es : Array (Int × Value)} {L : List Ent} (Y : Lay t es L) : es.size = L.length := by
  have := congrArg List.length Y.ents; simpa using this
theorem Lay.getD {t : SetTable} {es : Array (Int × Value)} {L : List Ent} (Y : Lay t es L) {i : Nat} (h : i < L.length) : t.place.getD i 0 = L[i].1 := by
  have h1 : i < t.place.size := by rw [Y.size]; exact h
  have h2 : t.place[i]? = some L[i].1 := by rw [← Array.getElem?_toList, Y.place]; simp [h]
  simp [Array.getElem?_eq_getElem h1] at h2
  simp [Array.getD, h1, h2]
theorem Lay.ris {t : SetTable} {es : Array (Int × Value)} {L : List Ent} {m : Nat} (Y : Lay t es L) (T : Tab m L) : Ris t.place := fun a b hab hb => by
  rw [Y.size] at hb
  rw [Y.getD hb, Y.getD (by omega)]
  exact List.pairwise_iff_getElem.mp T.ris a b (by omega) hb hab
theorem Lay.fits {t : SetTable} {es : Array (Int × Value)} {L : List Ent} (Y : Lay t es L) (h : L.length ≤ t.mask) : t.fits es.size = true := by
  unfold SetTable.fits SetTable.fill
  rw [Y.size, Y.size', Y.dummies]; simp [h]
theorem slot_live {t : SetTable} {es : Array (Int × Value)} {L : List Ent} {m : Nat} (Y : Lay t es L) (T : Tab m L) {i : Nat} {e : Ent} (h : L[i]? = some e) : t.slot e.1 = .live i := by
  obtain ⟨hi, he⟩ := List.getElem?_eq_some_iff.mp h
  obtain ⟨h1, h2, h3⟩ := below_spec (Y.ris T) e.1
  have hgi := Y.getD hi
  rw [he] at hgi
  have hb : below t.place e.1 = i := by
    rcases Nat.lt_trichotomy (below t.place e.1) i with q | q | q
    · have h4 := h3 _ (Nat.le_refl _) (by rw [Y.size]; omega)
      have h5 := Y.ris T _ i q (by rw [Y.size]; exact hi)
      omega
    · exact q
    · have := h2 i q; omega
  unfold SetTable.slot
  dsimp only
  rw [hb]
  have hp : t.place[i]? = some e.1 := by rw [← Array.getElem?_toList, Y.place]; simp [h]
  rw [hp]; simp
theorem slot_empty {t : SetTable} {es : Array (Int × Value)} {L : List Ent} {m : Nat} (Y : Lay t es L) {j : Nat} (h : ∀ e ∈ L, e.1 ≠ j) : t.slot j = .empty := by
  unfold SetTable.slot
  dsimp only
  have hn : (t.place[below t.place j]? == some j) = false := by
    rw [beq_eq_false_iff_ne]
    intro q
    rw [← Array.getElem?_toList, Y.place, List.getElem?_map] at q
    cases hx : L[below t.place j]? with
    | none => rw [hx] at q; cases q
    | some e => rw [hx] at q; exact h e (List.mem_of_getElem? hx) (Option.some.inj q)
  rw [hn, Y.dummies]
  simp [SetTable.has]

def Occ (L : List Ent) (j : Nat) : Prop := ∃ e ∈ L, e.1 = j
theorem exists_free {m : Nat} {L : List Ent} (ok : OkMask m) (hL : L.length ≤ m) (h : Int) :
    ∃ K, K < 10 * (m + 14) ∧ ¬ Occ L (sq m h K).j ∧ ∀ k, k < K → Occ L (sq m h k).j := by
  obtain ⟨j, hj, hj2⟩ := pigeon (m + 1) (L.map (·.1)) (by simp; omega)
  obtain ⟨k, hk, e⟩ := sq_hits ok h (Nat.le_of_lt_succ hj)
  have h0 : ¬ Occ L (sq m h k).j := by
    rw [e]; rintro ⟨x, hx, rfl⟩; exact hj2 (List.mem_map_of_mem hx)
  obtain ⟨K, h1, h2, h3⟩ := least (P := fun k => ¬ Occ L (sq m h k).j) k h0
  exact ⟨K, by omega, h2, fun k' hk' => Classical.not_not.mp (h3 k' hk')⟩

/-- what one search from the k-th place tells -/
theorem probe_spec {t : SetTable} {es : Array (Int × Value)} {L : List Ent} (Y : Lay t es L) (T : Tab t.mask L) (hashAt : Nat → Int) (hh : ∀ i e, L[i]? = some e → hashAt i = e.2.1) {h : Int} {K : Nat}
    (hK : ¬ Occ L (sq t.mask h K).j) (hocc : ∀ k, k < K → Occ L (sq t.mask h k).j) : ∀ (d fuel k : Nat), k + d = K → d < fuel →
    (∃ k1 i e, k ≤ k1 ∧ k1 < K ∧ L[i]? = some e ∧ e.1 = (sq t.mask h k1).j ∧ e.2.1 = h ∧ probe.go t hashAt h fuel (sq t.mask h k) = some (.candidate e.1 i (sq t.mask h (k1 + 1))) ∧
      ∀ k', k ≤ k' → k' < k1 → ∀ e' ∈ L, e'.1 = (sq t.mask h k').j → e'.2.1 ≠ h) ∨
    (probe.go t hashAt h fuel (sq t.mask h k) = some (.empty (sq t.mask h K).j none) ∧ ∀ k', k ≤ k' → k' < K → ∀ e' ∈ L, e'.1 = (sq t.mask h k').j → e'.2.1 ≠ h)
  | 0, 0, _, _, hf => absurd hf (Nat.lt_irrefl _)
  | _ + 1, 0, _, _, hf => absurd hf (Nat.not_lt_zero _)
  | 0, fuel + 1, k, hk, _ => by
    right
    have : k = K := by omega
    subst this
    refine ⟨?_, fun k' h1 h2 => by omega⟩
    unfold probe.go
    rw [slot_empty (m := t.mask) Y (fun e he q => hK ⟨e, he, q⟩)]
    dsimp only
    rw [(sq_inv t.mask h k).2.2]
  | d + 1, fuel + 1, k, hk, hf => by
    obtain ⟨e, he, ej⟩ := hocc k (by omega)
    obtain ⟨i, hi⟩ := List.getElem?_of_mem he
    have hs := slot_live Y T hi
    rw [ej] at hs
    have uniq : ∀ e' ∈ L, e'.1 = (sq t.mask h k).j → e' = e := fun e' he' q => by
      obtain ⟨i', hi'⟩ := List.getElem?_of_mem he'
      have hs' := slot_live Y T hi'
      rw [q, hs] at hs'
      cases hs'
      rw [hi] at hi'; exact (Option.some.inj hi').symm
    unfold probe.go
    rw [hs]
    dsimp only
    rw [hh i e hi]
    by_cases hq : e.2.1 = h
    · left
      rw [if_pos (by simpa using hq), advance_eq]
      exact ⟨k, i, e, Nat.le_refl _, by omega, hi, ej, hq, by rw [ej]; rfl, fun k' h1 h2 => by omega⟩
    · rw [if_neg (by simpa using hq), advance_eq]
      have step : ∀ k', k ≤ k' → (k < k' → ∀ e' ∈ L, e'.1 = (sq t.mask h k').j → e'.2.1 ≠ h) → ∀ e' ∈ L, e'.1 = (sq t.mask h k').j → e'.2.1 ≠ h := fun k' h1 h2 => by
        rcases Nat.eq_or_lt_of_le h1 with rfl | h1
        · intro e' he' q; rw [uniq e' he' q]; exact hq
        · exact h2 h1
      rcases probe_spec Y T hashAt hh hK hocc d fuel (k + 1) (by omega) (by omega) with ⟨k1, i1, e1, a1, a2, a3, a4, a5, a6, a7⟩ | ⟨a1, a2⟩
      · exact .inl ⟨k1, i1, e1, by omega, a2, a3, a4, a5, a6, fun k' h1 h2 => step k' h1 fun hlt => a7 k' hlt h2⟩
      · exact .inr ⟨a1, fun k' h1 h2 => step k' h1 fun hlt => a2 k' hlt h2⟩

theorem probe_free {t : SetTable} {es : Array (Int × Value)} {L : List Ent} (Y : Lay t es L) (T : Tab t.mask L) {h : Int} {K : Nat}
    (hK : ¬ Occ L (sq t.mask h K).j) (hocc : ∀ k, k < K → Occ L (sq t.mask h k).j) : ∀ (d fuel k : Nat), k + d = K → d < fuel →
    probe.go t (fun _ => h + 1) h fuel (sq t.mask h k) = some (.empty (sq t.mask h K).j none)
  | 0, 0, _, _, hf => absurd hf (Nat.lt_irrefl _)
  | _ + 1, 0, _, _, hf => absurd hf (Nat.not_lt_zero _)
  | 0, fuel + 1, k, hk, _ => by
    have : k = K := by omega
    subst this
    unfold probe.go
    rw [slot_empty (m := t.mask) Y (fun e he q => hK ⟨e, he, q⟩)]
    dsimp only
    rw [(sq_inv t.mask h k).2.2]
  | d + 1, fuel + 1, k, hk, hf => by
    obtain ⟨e, he, ej⟩ := hocc k (by omega)
    obtain ⟨i, hi⟩ := List.getElem?_of_mem he
    have hs := slot_live Y T hi
    rw [ej] at hs
    unfold probe.go
    rw [hs]
    dsimp only
    rw [if_neg (by simp; omega), advance_eq]
    exact probe_free Y T hK hocc d fuel (k + 1) (by omega) (by omega)
/-- a new one put at the free place -/
theorem Tab.ins {t : SetTable} {es : Array (Int × Value)} {L : List Ent} (Y : Lay t es L) (T : Tab t.mask L) {h : Int} {x : Value} {K : Nat}
    (hK : ¬ Occ L (sq t.mask h K).j) (hocc : ∀ k, k < K → Occ L (sq t.mask h k).j) :
    ∃ L', L'.Perm (((sq t.mask h K).j, h, x) :: L) ∧ Tab t.mask L' ∧ Lay (t.put (sq t.mask h K).j).1 (insertAt es (t.put (sq t.mask h K).j).2 (h, x)) L' ∧ (t.put (sq t.mask h K).j).1.mask = t.mask := by
  obtain ⟨h1, h2, h3⟩ := below_spec (Y.ris T) (sq t.mask h K).j
  generalize hp : below t.place (sq t.mask h K).j = p at *
  rw [Y.size] at h1
  refine ⟨L.take p ++ ((sq t.mask h K).j, h, x) :: L.drop p, ?_, ⟨?_, ?_, ?_⟩, ⟨?_, ?_, ?_⟩, rfl⟩
  · refine List.perm_middle.trans ?_
    rw [List.take_append_drop]
  · rw [List.pairwise_append]
    refine ⟨T.ris.sublist (List.take_sublist _ _), ?_, ?_⟩
    · rw [List.pairwise_cons]
      refine ⟨fun e he => ?_, T.ris.sublist (List.drop_sublist _ _)⟩
      obtain ⟨i, hi⟩ := List.getElem?_of_mem he
      rw [List.getElem?_drop] at hi
      obtain ⟨hlt, hx⟩ := List.getElem?_eq_some_iff.mp hi
      have h4 := h3 (p + i) (by omega) (by rw [Y.size]; exact hlt)
      rw [Y.getD hlt, hx] at h4
      have h5 : e.1 ≠ (sq t.mask h K).j := fun q => hK ⟨e, List.mem_of_getElem? hi, q⟩
      show (sq t.mask h K).j < e.1; omega
    · intro a ha b hb
      obtain ⟨i, hi⟩ := List.getElem?_of_mem ha
      have hip : i < p := by
        rcases Nat.lt_or_ge i p with q | q
        · exact q
        · rw [List.getElem?_eq_none (by rw [List.length_take]; omega)] at hi; cases hi
      rw [List.getElem?_take_of_lt hip] at hi
      obtain ⟨hlt, hx⟩ := List.getElem?_eq_some_iff.mp hi
      have h4 := h2 i hip
      rw [Y.getD hlt, hx] at h4
      rcases List.mem_cons.mp hb with rfl | hb
      · exact h4
      · obtain ⟨i2, hi2⟩ := List.getElem?_of_mem hb
        rw [List.getElem?_drop] at hi2
        obtain ⟨hlt2, hx2⟩ := List.getElem?_eq_some_iff.mp hi2
        have h6 := h3 (p + i2) (by omega) (by rw [Y.size]; exact hlt2)
        rw [Y.getD hlt2, hx2] at h6
        omega
  · intro e he
    rcases List.mem_append.mp he with he | he
    · exact T.le e (List.mem_of_mem_take he)
    · rcases List.mem_cons.mp he with rfl | he
      · exact sq_le _ _ _
      · exact T.le e (List.mem_of_mem_drop he)
  · have sub : ∀ e ∈ L, e ∈ L.take p ++ ((sq t.mask h K).j, h, x) :: L.drop p := fun e he => by
      rw [← List.take_append_drop p L] at he
      rcases List.mem_append.mp he with he | he
      · exact List.mem_append_left _ he
      · exact List.mem_append_right _ (List.mem_cons_of_mem _ he)
    have old : ∀ e ∈ L, ∃ k, (sq t.mask e.2.1 k).j = e.1 ∧ ∀ k', k' < k → ∃ e' ∈ L.take p ++ ((sq t.mask h K).j, h, x) :: L.drop p, e'.1 = (sq t.mask e.2.1 k').j := fun e he => by
      obtain ⟨k, a, b⟩ := T.reach e he
      exact ⟨k, a, fun k' hk' => let ⟨e', c, d⟩ := b k' hk'; ⟨e', sub e' c, d⟩⟩
    intro e he
    rcases List.mem_append.mp he with he | he
    · exact old e (List.mem_of_mem_take he)
    · rcases List.mem_cons.mp he with rfl | he
      · exact ⟨K, rfl, fun k' hk' => let ⟨e', c, d⟩ := hocc k' hk'; ⟨e', sub e' c, d⟩⟩
      · exact old e (List.mem_of_mem_drop he)
  · show (insertAt t.place (below t.place _) _).toList = _
    rw [hp, SetTable.toList_insertAt, Y.place]; simp
  · show (insertAt es (below t.place _) _).toList = _
    rw [hp, SetTable.toList_insertAt, Y.ents]; simp
  · show (if has t.dummies _ then _ else t.dummies) = #[]
    rw [Y.dummies]; simp [SetTable.has]
theorem layNew_spec {t : SetTable} {es : Array (Int × Value)} {L : List Ent} (Y : Lay t es L) (T : Tab t.mask L) (ok : OkMask t.mask) (hL : L.length < t.mask) (h : Int) (x : Value) :
    ∃ es1 t1 L1 j, layNew t es h x = (es1, t1, false, false) ∧ L1.Perm ((j, h, x) :: L) ∧ Tab t.mask L1 ∧ Lay t1 es1 L1 ∧ t1.mask = t.mask ∧ t1.led = t.led ∧ t1.plain = t.plain := by
  obtain ⟨K, hK2, hK, hocc⟩ := exists_free ok (Nat.le_of_lt hL) h
  obtain ⟨L1, hp1, T1, Y1, hm1⟩ := T.ins Y (x := x) hK hocc
  have hfree : t.freeSlot h = some ((sq t.mask h K).j, false) := by
    unfold SetTable.freeSlot
    have := probe_free Y T hK hocc K (10 * turns t.mask) 0 (by omega) (by unfold turns; omega)
    have e : t.probe (fun _ => h + 1) h (t.probeStart h) = some (.empty (sq t.mask h K).j none) := this
    rw [e]; rfl
  have hl1 : L1.length = L.length + 1 := by rw [hp1.length_eq]; rfl
  have hfit := Y1.fits (by rw [hm1, hl1]; exact hL)
  refine ⟨_, _, L1, _, ?_, hp1, T1, Y1, hm1, rfl, rfl⟩
  unfold layNew
  rw [hfree]
  dsimp only
  unfold SetTable.orStandIn
  rw [if_pos hfit, hfit]; rfl

end Mine
end

section
open PySem PySem.SetTable
set_option Elab.async false
set_option autoImplicit false
set_option linter.unusedVariables false
namespace Mine

theorem perm_of_nodup {α : Type} : ∀ (l m : List α), l.Nodup → m.Nodup → (∀ a, a ∈ l ↔ a ∈ m) → l.Perm m
  | [], m, _, _, h => by
    cases m with
    | nil => exact .nil
    | cons a m => have := (h a).mpr (by simp); simp at this
  | a :: l, m, hl, hm, h => by
    obtain ⟨s, t, rfl⟩ := List.append_of_mem ((h a).mp (by simp))
    obtain ⟨h1, h2⟩ := List.nodup_cons.mp hl
    have hp : (s ++ a :: t).Perm (a :: (s ++ t)) := List.perm_middle
    have hm' : (a :: (s ++ t)).Nodup := hp.nodup_iff.mp hm
    obtain ⟨h3, h4⟩ := List.nodup_cons.mp hm'
    refine (List.Perm.cons a (perm_of_nodup l (s ++ t) h2 h4 fun b => ?_)).trans hp.symm
    have hb := h b
    rw [hp.mem_iff] at hb
    constructor
    · intro q
      rcases List.mem_cons.mp (hb.mp (List.mem_cons_of_mem _ q)) with rfl | r
      · exact absurd q h1
      · exact r
    · intro q
      rcases List.mem_cons.mp (hb.mpr (List.mem_cons_of_mem _ q)) with rfl | r
      · exact absurd q h3
      · exact r

theorem free_sound {m : Nat} (owner : Array (Option Nat)) (ho : owner.size = m + 1) (h : Int) : ∀ (fuel q j : Nat), layClean.free m owner fuel (rd m h q).1 (rd m h q).2 = some j →
    ∃ r, rdIdx m h q ≤ r ∧ (sq m h r).j = j ∧ owner[j]? = some none ∧ ∀ r', rdIdx m h q ≤ r' → r' < r → owner[(sq m h r').j]? ≠ some none
  | 0, q, j, e => by unfold layClean.free at e; cases e
  | fuel + 1, q, j, e => by
    unfold layClean.free at e
    have hle := rd_le m h q
    have hrm := run_le_mask hle
    have hrg := run_ge m (rd m h q).1
    have at' : ∀ k, k < runEnd m (rd m h q).1 + 1 - (rd m h q).1 → ((owner.getD ((rd m h q).1 + k) (some 0)).isNone = true ↔ owner[(rd m h q).1 + k]? = some none) := fun k hk => by
      have hs : (rd m h q).1 + k < owner.size := by omega
      simp [Array.getD, hs]
    cases hf : (List.range (runEnd m (rd m h q).1 + 1 - (rd m h q).1)).find? fun k => (owner.getD ((rd m h q).1 + k) (some 0)).isNone with
    | some k =>
      rw [hf] at e
      dsimp only at e
      obtain ⟨h1, h2, h3⟩ := List.find?_range_eq_some.mp hf
      have hk := List.mem_range.mp h2
      refine ⟨rdIdx m h q + k, by omega, ?_, ?_, ?_⟩
      · rw [sq_in m h q k (by omega)]; exact Option.some.inj e
      · rw [← Option.some.inj e]; exact (at' k hk).mp h1
      · intro r' hr1 hr2
        obtain ⟨k', rfl⟩ : ∃ k', r' = rdIdx m h q + k' := ⟨r' - rdIdx m h q, by omega⟩
        rw [sq_in m h q k' (by omega)]
        intro hx
        have := h3 k' (by omega)
        rw [(at' k' (by omega)).mpr hx] at this; cases this
    | none =>
      rw [hf] at e
      dsimp only at e
      obtain ⟨r, a1, a2, a3, a4⟩ := free_sound owner ho h fuel (q + 1) j e
      have hq : rdIdx m h (q + 1) = rdIdx m h q + (runEnd m (rd m h q).1 - (rd m h q).1 + 1) := rfl
      refine ⟨r, by omega, a2, a3, fun r' hr1 hr2 => ?_⟩
      rcases Nat.lt_or_ge r' (rdIdx m h (q + 1)) with hlt | hge
      · obtain ⟨k', rfl⟩ : ∃ k', r' = rdIdx m h q + k' := ⟨r' - rdIdx m h q, by omega⟩
        rw [sq_in m h q k' (by omega)]
        intro hx
        have := List.find?_eq_none.mp hf k' (List.mem_range.mpr (by omega))
        exact this ((at' k' (by omega)).mpr hx)
      · exact a4 r' hge hr2
theorem free_complete {m : Nat} (owner : Array (Option Nat)) (ho : owner.size = m + 1) (h : Int) : ∀ (fuel q : Nat), (∃ q', q ≤ q' ∧ q' < q + fuel ∧ owner[(rd m h q').1]? = some none) →
    ∃ j, layClean.free m owner fuel (rd m h q).1 (rd m h q).2 = some j
  | 0, q, ⟨q', h1, h2, _⟩ => by omega
  | fuel + 1, q, ⟨q', h1, h2, h3⟩ => by
    unfold layClean.free
    cases hf : (List.range (runEnd m (rd m h q).1 + 1 - (rd m h q).1)).find? fun k => (owner.getD ((rd m h q).1 + k) (some 0)).isNone with
    | some k => exact ⟨_, rfl⟩
    | none =>
      dsimp only
      refine free_complete owner ho h fuel (q + 1) ⟨q', ?_, by omega, h3⟩
      rcases Nat.eq_or_lt_of_le h1 with rfl | h1
      · have hrg := run_ge m (rd m h q).1
        have hs : (rd m h q).1 < owner.size := by rw [ho]; exact Nat.lt_succ_of_le (rd_le m h q)
        have := List.find?_eq_none.mp hf 0 (List.mem_range.mpr (by omega))
        simp [Array.getD, hs] at this
        simp [hs] at h3
        exact absurd h3 this
      · exact h1

structure Own (m : Nat) (hs : List Int) (owner : Array (Option Nat)) : Prop where
  size : owner.size = m + 1
  lt : ∀ j k : Nat, owner[j]? = some (some k) → k < hs.length
  ex : ∀ k : Nat, k < hs.length → ∃ j : Nat, owner[j]? = some (some k)
  uq : ∀ j j' k : Nat, owner[j]? = some (some k) → owner[j']? = some (some k) → j = j'
  reach : ∀ j k : Nat, owner[j]? = some (some k) → ∃ r, (sq m (hs.getD k 0) r).j = j ∧ ∀ r', r' < r → ∃ k' : Nat, owner[(sq m (hs.getD k 0) r').j]? = some (some k')

abbrev layStep (m : Nat) (acc : Option (Array (Option Nat) × Nat)) (h : Int) : Option (Array (Option Nat) × Nat) := do
    let (owner, k) ← acc
    let j ← layClean.free m owner (turns m) (bits h % (m + 1)) (bits h)
    pure (owner.setIfInBounds j (some k), k + 1)

theorem own_step {m : Nat} (ok : OkMask m) {hs : List Int} {owner : Array (Option Nat)} (O : Own m hs owner) (hlen : hs.length ≤ m) (h : Int) :
    ∃ owner', layStep m (some (owner, hs.length)) h = some (owner', hs.length + 1) ∧ Own m (hs ++ [h]) owner' := by
  have hfree : ∃ j, j ≤ m ∧ owner[j]? = some none := by
    have hf : ∃ f : Nat → Nat, ∀ k : Nat, k < hs.length → owner[f k]? = some (some k) :=
      ⟨fun k => if hk : k < hs.length then Classical.choose (O.ex k hk) else 0, fun k hk => by
        dsimp only; rw [dif_pos hk]; exact Classical.choose_spec (O.ex k hk)⟩
    obtain ⟨f, hf⟩ := hf
    obtain ⟨j, hj, hj2⟩ := pigeon (m + 1) ((List.range hs.length).map f) (by simp; omega)
    refine ⟨j, Nat.le_of_lt_succ hj, ?_⟩
    cases hx : owner[j]? with
    | none => rw [Array.getElem?_eq_none_iff, O.size] at hx; omega
    | some o =>
      cases o with
      | none => rfl
      | some k =>
        have hk := O.lt j k hx
        have := O.uq _ _ k (hf k hk) hx
        exact absurd (List.mem_map.mpr ⟨k, List.mem_range.mpr hk, this⟩) hj2
  obtain ⟨j0, hj0, hn0⟩ := hfree
  obtain ⟨q, hq, hqe⟩ := rd_hits ok h hj0
  obtain ⟨j, hj⟩ := free_complete owner O.size h (turns m) 0 ⟨q, Nat.zero_le _, by unfold turns; omega, by rw [hqe]; exact hn0⟩
  obtain ⟨r, _, hr, hjn, hrr⟩ := free_sound owner O.size h (turns m) 0 j hj
  have hjs : j < owner.size := by
    rcases Nat.lt_or_ge j owner.size with a | a
    · exact a
    · rw [Array.getElem?_eq_none a] at hjn; cases hjn
  refine ⟨owner.setIfInBounds j (some hs.length), ?_, ?_⟩
  · have hj' : layClean.free m owner (turns m) (bits h % (m + 1)) (bits h) = some j := hj
    simp [layStep, hj']
  have get_j : (owner.setIfInBounds j (some hs.length))[j]? = some (some hs.length) := by simp [hjs]
  have get_ne : ∀ j' : Nat, j' ≠ j → (owner.setIfInBounds j (some hs.length))[j']? = owner[j']? := fun j' hne => by
    rw [Array.getElem?_setIfInBounds_ne (Ne.symm hne)]
  have up : ∀ j' k' : Nat, owner[j']? = some (some k') → (owner.setIfInBounds j (some hs.length))[j']? = some (some k') := fun j' k' e => by
    rw [get_ne j' (fun q => by rw [q, hjn] at e; cases e)]; exact e
  have getD_old : ∀ k, k < hs.length → (hs ++ [h]).getD k 0 = hs.getD k 0 := fun k hk => by
    simp [List.getD, List.getElem?_append_left hk]
  have getD_new : (hs ++ [h]).getD hs.length 0 = h := by simp [List.getD]
  refine ⟨by simp [O.size], ?_, ?_, ?_, ?_⟩
  · intro j' k e
    rw [List.length_append, List.length_singleton]
    by_cases hne : j' = j
    · subst hne; rw [get_j] at e; cases e; omega
    · rw [get_ne j' hne] at e; have := O.lt j' k e; omega
  · intro k hk
    rw [List.length_append, List.length_singleton] at hk
    rcases Nat.lt_or_ge k hs.length with a | a
    · obtain ⟨j', e⟩ := O.ex k a; exact ⟨j', up j' k e⟩
    · have : k = hs.length := by omega
      subst this; exact ⟨j, get_j⟩
  · intro j1 j2 k e1 e2
    by_cases n1 : j1 = j
    · by_cases n2 : j2 = j
      · rw [n1, n2]
      · subst n1
        rw [get_j] at e1; cases e1
        rw [get_ne j2 n2] at e2
        exact absurd (O.lt _ _ e2) (Nat.lt_irrefl _)
    · by_cases n2 : j2 = j
      · subst n2
        rw [get_j] at e2; cases e2
        rw [get_ne j1 n1] at e1
        exact absurd (O.lt _ _ e1) (Nat.lt_irrefl _)
      · rw [get_ne j1 n1] at e1; rw [get_ne j2 n2] at e2
        exact O.uq _ _ k e1 e2
  · intro j1 k e
    by_cases n1 : j1 = j
    · subst n1
      rw [get_j] at e; cases e
      rw [getD_new]
      refine ⟨r, hr, fun r' hr' => ?_⟩
      have hno := hrr r' (by show 0 ≤ r'; omega) hr'
      cases hx : owner[(sq m h r').j]? with
      | none =>
        rw [Array.getElem?_eq_none_iff, O.size] at hx
        have := sq_le m h r'; omega
      | some o =>
        cases o with
        | none => exact absurd hx hno
        | some k' => exact ⟨k', up _ _ hx⟩
    · rw [get_ne j1 n1] at e
      rw [getD_old k (O.lt _ _ e)]
      obtain ⟨r1, a1, a2⟩ := O.reach j1 k e
      exact ⟨r1, a1, fun r' hr' => let ⟨k', e'⟩ := a2 r' hr'; ⟨k', up _ _ e'⟩⟩

theorem own_fold {m : Nat} (ok : OkMask m) : ∀ (rest hs : List Int) (owner : Array (Option Nat)), Own m hs owner → hs.length + rest.length ≤ m + 1 →
    ∃ owner', rest.foldl (layStep m) (some (owner, hs.length)) = some (owner', (hs ++ rest).length) ∧ Own m (hs ++ rest) owner'
  | [], hs, owner, O, _ => ⟨owner, by simp, by simpa using O⟩
  | h :: rest, hs, owner, O, hl => by
    rw [List.length_cons] at hl
    obtain ⟨o1, e1, O1⟩ := own_step ok O (by omega) h
    rw [List.foldl_cons, e1]
    obtain ⟨o2, e2, O2⟩ := own_fold ok rest (hs ++ [h]) o1 O1 (by rw [List.length_append, List.length_singleton]; omega)
    rw [List.length_append, List.length_singleton] at e2
    refine ⟨o2, ?_, ?_⟩
    · rw [e2]; simp
    · simpa using O2

theorem layClean_spec {m : Nat} (ok : OkMask m) (hashes : Array Int) (hl : hashes.size ≤ m + 1) : ∃ owner, layClean m hashes = some owner ∧ Own m hashes.toList owner := by
  have O0 : Own m [] (Array.replicate (m + 1) none) := by
    refine ⟨by simp, ?_, ?_, ?_, ?_⟩
    · intro j k e
      rw [Array.getElem?_replicate] at e; split at e <;> cases e
    · intro k hk; simp at hk
    · intro j j' k e
      rw [Array.getElem?_replicate] at e; split at e <;> cases e
    · intro j k e
      rw [Array.getElem?_replicate] at e; split at e <;> cases e
  obtain ⟨owner, e, O⟩ := own_fold ok hashes.toList [] _ O0 (by simpa using hl)
  refine ⟨owner, ?_, by simpa using O⟩
  have e' : hashes.foldl (init := some (Array.replicate (m + 1) none, 0)) (layStep m) = some (owner, ([] ++ hashes.toList).length) := by
    rw [← Array.foldl_toList]; exact e
  show (hashes.foldl (init := some (Array.replicate (m + 1) none, 0)) (layStep m)).map (·.1) = some owner
  rw [e']; rfl

theorem laid_spec {m finger moves : Nat} {led plain : Bool} (ok : OkMask m) {es : Array (Int × Value)} (hl : es.size ≤ m + 1) :
    ∃ t order L', laid m finger moves led plain (es.map (·.1)) = some (t, order) ∧ t.mask = m ∧ t.moves = moves ∧ t.led = led ∧ t.plain = plain ∧
      Tab m L' ∧ Lay t (order.filterMap (es[·]?)) L' ∧ (L'.map (·.2)).Perm es.toList := by
  obtain ⟨owner, e, O⟩ := layClean_spec ok (es.map (·.1)) (by simpa using hl)
  have hn : (es.map (·.1)).toList.length = es.size := by simp
  let live := (List.range (m + 1)).filterMap fun j => (owner.getD j none).map (j, ·)
  have hlive : ∀ j k : Nat, (j, k) ∈ live ↔ owner[j]? = some (some k) := fun j k => by
    show (j, k) ∈ (List.range (m + 1)).filterMap _ ↔ _
    rw [List.mem_filterMap]
    constructor
    · rintro ⟨j', h1, h2⟩
      cases hx : owner.getD j' none with
      | none => rw [hx] at h2; cases h2
      | some k' =>
        rw [hx] at h2; cases h2
        have hs : j < owner.size := by rw [O.size]; exact List.mem_range.mp h1
        simp [Array.getD, hs] at hx
        simp [hs, hx]
    · intro hx
      have hs : j < owner.size := by
        rcases Nat.lt_or_ge j owner.size with a | a
        · exact a
        · rw [Array.getElem?_eq_none a] at hx; cases hx
      refine ⟨j, List.mem_range.mpr (by rw [← O.size]; exact hs), ?_⟩
      simp [hs] at hx
      simp [Array.getD, hs, hx]
  have hfst : live.Pairwise (fun a b => a.1 < b.1) := by
    show ((List.range (m + 1)).filterMap _).Pairwise _
    rw [List.pairwise_filterMap]
    refine (List.pairwise_lt_range (n := m + 1)).imp fun {a b} hab x hx y hy => ?_
    cases hx1 : owner.getD a none <;> rw [hx1] at hx <;> cases hx
    cases hy1 : owner.getD b none <;> rw [hy1] at hy <;> cases hy
    exact hab
  have hget : ∀ j k : Nat, (j, k) ∈ live → ∃ x, es[k]? = some x := fun j k hm => by
    have := O.lt j k ((hlive j k).mp hm)
    rw [hn] at this
    exact ⟨_, Array.getElem?_eq_getElem this⟩
  let L' : List Ent := live.map fun p => (p.1, (es[p.2]?).getD (0, .none))
  have hL' : ∀ x, x ∈ L' ↔ ∃ j k y, (j, k) ∈ live ∧ es[k]? = some y ∧ x = (j, y) := fun x => by
    show x ∈ live.map _ ↔ _
    rw [List.mem_map]
    constructor
    · rintro ⟨⟨j, k⟩, h1, rfl⟩
      obtain ⟨y, hy⟩ := hget j k h1
      exact ⟨j, k, y, h1, hy, by simp [hy]⟩
    · rintro ⟨j, k, y, h1, h2, rfl⟩
      exact ⟨(j, k), h1, by simp [h2]⟩
  have hhash : ∀ k y, es[k]? = some y → ((es.map (·.1)).toList).getD k 0 = y.1 := fun k y hy => by
    rw [Array.getElem?_eq_some_iff] at hy
    obtain ⟨hk, e⟩ := hy
    simp [List.getD, hk, e]
  have hord : (live.map (·.2)).toArray.filterMap (es[·]?) = (live.map fun p => (es[p.2]?).getD (0, .none)).toArray := by
    rw [List.filterMap_toArray]
    congr 1
    have : ∀ l : List (Nat × Nat), (∀ p ∈ l, ∃ x, es[p.2]? = some x) → (l.map (·.2)).filterMap (es[·]?) = l.map fun p => (es[p.2]?).getD (0, .none) := by
      intro l
      induction l with
      | nil => intro _; rfl
      | cons p l ih =>
        intro h
        obtain ⟨x, hx⟩ := h p (by simp)
        rw [List.map_cons, List.filterMap_cons, hx, List.map_cons, ih fun q hq => h q (List.mem_cons_of_mem _ hq), hx]; rfl
    exact this live fun p hp => hget p.1 p.2 hp
  refine ⟨({ mask := m, place := (live.map (·.1)).toArray, dummies := #[], finger, led, moves, plain } : SetTable), (live.map (·.2)).toArray, L', ?_, rfl, rfl, rfl, rfl, ⟨?_, ?_, ?_⟩, ⟨?_, ?_, rfl⟩, ?_⟩
  · unfold laid; rw [e]; rfl
  · show (live.map _).Pairwise _
    rw [List.pairwise_map]; exact hfst
  · intro x hx
    obtain ⟨j, k, y, h1, _, rfl⟩ := (hL' x).mp hx
    have := (hlive j k).mp h1
    rcases Nat.lt_or_ge j owner.size with a | a
    · rw [O.size] at a; exact Nat.le_of_lt_succ a
    · rw [Array.getElem?_eq_none a] at this; cases this
  · intro x hx
    obtain ⟨j, k, y, h1, h2, rfl⟩ := (hL' x).mp hx
    obtain ⟨r, a1, a2⟩ := O.reach j k ((hlive j k).mp h1)
    rw [hhash k y h2] at a1 a2
    refine ⟨r, a1, fun r' hr' => ?_⟩
    obtain ⟨k', e'⟩ := a2 r' hr'
    have hm := (hlive _ _).mpr e'
    obtain ⟨y', hy'⟩ := hget _ _ hm
    exact ⟨(_, y'), (hL' _).mpr ⟨_, _, _, hm, hy', rfl⟩, rfl⟩
  · show (live.map (·.1)).toArray.toList = (live.map _).map _
    rw [List.map_map]; simp [Function.comp_def]
  · show ((live.map (·.2)).toArray.filterMap (es[·]?)).toList = (live.map _).map _
    rw [hord, List.map_map]; simp [Function.comp_def]
  · have hperm : (live.map (·.2)).Perm (List.range es.size) := by
      refine perm_of_nodup _ _ ?_ List.nodup_range fun k => ?_
      · unfold List.Nodup
        rw [List.pairwise_map]
        refine List.Pairwise.imp_of_mem ?_ hfst
        rintro ⟨a, k⟩ ⟨b, k'⟩ ha hb hab heq
        dsimp only at heq hab
        subst heq
        have := O.uq a b k ((hlive _ _).mp ha) ((hlive _ _).mp hb)
        omega
      · rw [List.mem_map, List.mem_range]
        constructor
        · rintro ⟨⟨j, k⟩, h1, rfl⟩
          have := O.lt j k ((hlive j k).mp h1)
          rwa [hn] at this
        · intro hk
          obtain ⟨j, hj⟩ := O.ex k (by rw [hn]; exact hk)
          exact ⟨(j, k), (hlive _ _).mpr hj, rfl⟩
    have h2 := hperm.filterMap (es[·]?)
    rw [filterMap_getElem?_range] at h2
    have h3 : (live.map (·.2)).filterMap (es[·]?) = L'.map (·.2) := by
      have := congrArg Array.toList hord
      rw [List.filterMap_toArray] at this
      show _ = (live.map _).map _
      rw [List.map_map]
      simpa [Function.comp_def] using this
    rw [h3] at h2; exact h2

theorem relaid_spec {t : SetTable} {es : Array (Int × Value)} {wanted : Nat} (ok : OkMask (sizeAbove wanted - 1)) (hl : es.size ≤ sizeAbove wanted - 1 + 1) :
    ∃ t' order L', t.relaid (es.map (·.1)) wanted = some (t', order) ∧ t'.mask = sizeAbove wanted - 1 ∧ t'.led = t.led ∧ t'.plain = t.plain ∧
      Tab (sizeAbove wanted - 1) L' ∧ Lay t' (order.filterMap (es[·]?)) L' ∧ (L'.map (·.2)).Perm es.toList := by
  obtain ⟨t', order, L', h1, h2, _, h4, h5, h6, h7, h8⟩ := laid_spec (finger := t.finger) (moves := t.movedTo (sizeAbove wanted - 1)) (led := t.led) (plain := t.plain) ok hl
  exact ⟨t', order, L', h1, h2, h4, h5, h6, h7, h8⟩
end Mine
end

section
open PySem PySem.W PyProof.Rows PySem.Calls PySem.SetTable
set_option Elab.async false
set_option autoImplicit false
set_option maxRecDepth 100000
set_option linter.unusedVariables false
namespace Mine

/-! scalars: an int or a str -/
def scalIs (prog : Program) (w : World) : Int ⊕ Str → Value → Bool
  | .inl i, v => (intKind prog w).is i v
  | .inr x, v => (PySem.strKind prog w).is x v
def scalHash (prog : Program) (w : World) : Int ⊕ Str → Int
  | .inl i => (intKind prog w).hash i
  | .inr x => (PySem.strKind prog w).hash x
theorem scal_int {prog : Program} {w : World} {i : Int} {v : Value} (h : scalIs prog w (.inl i) v = true) : ∃ t, v = .int i t := Value.isInt_shape h
theorem scal_str {prog : Program} {w : World} {x : Str} {v : Value} (h : scalIs prog w (.inr x) v = true) : ∃ t, v = .str x t := Value.isStrOf_shape h
def scal (prog : Program) (w : World) : PySem.KeyKind prog w (Int ⊕ Str) where
  is := scalIs prog w
  hash := scalHash prog w
  inj := fun v a b ha hb => by
    cases a <;> cases b
    · rw [(intKind prog w).inj v _ _ ha hb]
    · obtain ⟨t, rfl⟩ := scal_int ha
      obtain ⟨u, hu⟩ := scal_str hb; cases hu
    · obtain ⟨t, rfl⟩ := scal_int hb
      obtain ⟨u, hu⟩ := scal_str ha; cases hu
    · rw [(PySem.strKind prog w).inj v _ _ ha hb]
  byValue := fun k v h => by
    cases k
    · exact (intKind prog w).byValue _ _ h
    · exact (PySem.strKind prog w).byValue _ _ h
  pyHash := fun {A E s k v Q} hv h => by
    cases k
    · exact (intKind prog w).pyHash hv h
    · exact (PySem.strKind prog w).pyHash hv h
  eqBool := fun {A E s a b u v Q} hu hv h => by
    cases a <;> cases b
    · refine (intKind prog w).eqBool hu hv ?_
      simpa using h
    · obtain ⟨t, rfl⟩ := scal_int hu
      obtain ⟨t2, rfl⟩ := scal_str hv
      exact SeqAt.EqAt.int_str _ _ _ _ prog w E Q (by simpa using h)
    · obtain ⟨t, rfl⟩ := scal_str hu
      obtain ⟨t2, rfl⟩ := scal_int hv
      exact SeqAt.EqAt.str_int _ _ _ _ prog w E Q (by simpa using h)
    · refine (PySem.strKind prog w).eqBool hu hv ?_
      simpa using h
  «strs» := fun k x t v h => by
    cases k
    · obtain ⟨u, hu⟩ := scal_int h; cases hu
    · exact (PySem.strKind prog w).«strs» _ _ _ _ h

def kk (p : Int × Int) : List (Int ⊕ Str) := [.inl p.1, .inr (Str.ofString "!="), .inl p.2]
theorem kk_inj {p q : Int × Int} (h : kk p = kk q) : p = q := by
  obtain ⟨a, b⟩ := p; obtain ⟨c, d⟩ := q
  simp [kk] at h; obtain ⟨h1, h2⟩ := h; rw [h1, h2]
abbrev tk (prog : Program) (w : World) : HeapKind prog w (List (Int ⊕ Str)) := tupleKind (scal prog w)
abbrev IsKey (prog : Program) (w : World) (h : Heap) (p : Int × Int) (b : Addr) : Prop := IsTupleKey (scal prog w) h (kk p) b
abbrev kh (prog : Program) (w : World) (p : Int × Int) : Int := tupleKeyHash (scal prog w) (kk p)

theorem key_of {prog : Program} {w : World} {g : PMap} {h : Heap} {v : Value} {p : Int × Int} (hk : ∀ a o, g a = some o → h.get? a = some o) (hv : rKey.at' g v p) : ∃ b, v = .ref b ∧ IsKey prog w h p b := by
  obtain ⟨a, t1, t2, t3, n, rfl, hg⟩ := hv
  refine ⟨a, rfl, _, _, n, hk _ _ hg, rfl, rfl, ?_⟩
  exact .cons (intKind_is prog w p.1 t1) (.cons (strKind_is prog w _ t2) (.cons (intKind_is prog w p.2 t3) .nil))
theorem IsKey.up {prog : Program} {w : World} {h h' : Heap} {p : Int × Int} {b : Addr} (hk : ∀ a o, h.get? a = some o → h'.get? a = some o) (x : IsKey prog w h p b) : IsKey prog w h' p b :=
  let ⟨o, items, n, ho, r⟩ := x; ⟨o, items, n, hk _ _ ho, r⟩

inductive KeyEnt (prog : Program) (w : World) (V : Value → Int × Int → Prop) (h : Heap) (p : Int × Int) (e : Ent) : Prop
  | mk (b : Addr) (e1 : e.2.2 = .ref b) (k : IsKey prog w h p b) (r : e.2.1 = kh prog w p ∧ V e.2.2 p)
theorem KeyEnt.inj {prog : Program} {w : World} {V : Value → Int × Int → Prop} {h : Heap} {p q : Int × Int} {e : Ent} (h1 : KeyEnt prog w V h p e) (h2 : KeyEnt prog w V h q e) : p = q := by
  obtain ⟨b, e1, k1, _⟩ := h1; obtain ⟨c, e2, k2, _⟩ := h2
  rw [e1] at e2; cases e2
  exact kk_inj (IsTupleKey.inj k1 k2)

section
variable {prog : Program} {w : World} {A : Around} {E : Value → Shared → Prop} {s : Shared}

theorem notStatement {p : Int × Int} {b : Addr} {Q : Bool → Shared → Prop} (hk : IsKey prog w s.heap p b) (h : Q false s) : wpAny (model prog w) A (ofAClassStatement 8 (.ref b)) Q E s := by
  have hT := hk.typeIs
  obtain ⟨o, items, n, ho, _, hd, hi⟩ := hk
  unfold ofAClassStatement
  refine wpAny_bind (wpAny_typeOf hT ?_)
  dsimp only
  rw [if_pos (by decide)]
  refine wpAny_bind (wpAny_pure ?_)
  simp only [Bool.not_true, Bool.false_eq_true, if_false]
  refine wpAny_bind (wpAny_seqItems ho hd ?_)
  dsimp only
  refine wpAny_bind ?_
  show wpAny _ _ (forIn items _ _) _ _ s
  rw [← Array.forIn_toList]
  refine wpAny_forIn_list _ (fun rest r s' => r.1 = none ∧ s' = s ∧ ∀ v ∈ rest, carriedByValue v = true) _ ?_ ?_ _ _ ⟨rfl, rfl, hi.byValue⟩
  · rintro v rest r s' ⟨hr, rfl, hall⟩
    have hv := hall v List.mem_cons_self
    have e : ofAClassStatement 7 v = pure false := by cases v <;> first | rfl | simp [carriedByValue] at hv
    rw [e]
    refine wpAny_bind (wpAny_pure ?_)
    simp only [Bool.false_eq_true, if_false]
    exact wpAny_pure ⟨rfl, rfl, fun u hu' => hall u (List.mem_cons_of_mem _ hu')⟩
  · rintro ⟨r1, r2⟩ s' ⟨hr, rfl, _⟩
    simp only at hr
    subst hr
    exact wpAny_pure h

theorem notSeen {p : Int × Int} {b : Addr} {ys : List Value} {Q : Bool → Shared → Prop} (hk : IsKey prog w s.heap p b) (hy : ∀ y ∈ ys, ∃ q c, y = .ref c ∧ IsKey prog w s.heap q c) (h : Q false s) :
    wpAny (model prog w) A (searchCouldBeSeen (.ref b) ys) Q E s := by
  unfold searchCouldBeSeen
  refine wpAny_bind ?_
  refine wpAny_forIn_list _ (fun rest r s' => r.1 = none ∧ s' = s ∧ ∀ y ∈ rest, ∃ q c, y = .ref c ∧ IsKey prog w s.heap q c) _ ?_ ?_ _ _ ⟨rfl, rfl, hy⟩
  · rintro v rest r s' ⟨hr, rfl, hall⟩
    obtain ⟨q, c, rfl, hc⟩ := hall _ List.mem_cons_self
    have tl : ∀ y ∈ rest, ∃ q c, y = .ref c ∧ IsKey prog w s'.heap q c := fun y hy => hall y (List.mem_cons_of_mem _ hy)
    dsimp only
    refine wpAny_ite_split (fun _ => wpAny_pure ⟨rfl, rfl, tl⟩) (fun _ => ?_)
    refine wpAny_bind (wpAny_eqIsQuiet_tuple hk ?_)
    simp only [Bool.not_true, Bool.false_eq_true, if_false]
    refine wpAny_bind (wpAny_eqIsQuiet_tuple hc ?_)
    simp only [Bool.not_true, Bool.false_eq_true, if_false]
    refine wpAny_bind (notStatement hk ?_)
    simp only [Bool.false_eq_true, if_false]
    refine wpAny_bind (notStatement hc ?_)
    simp only [Bool.false_eq_true, if_false]
    exact wpAny_pure ⟨rfl, rfl, tl⟩
  · rintro ⟨r1, r2⟩ s' ⟨hr, rfl, _⟩
    simp only at hr
    subst hr
    exact wpAny_pure h

theorem search_from {V : Value → Int × Int → Prop} {a : Addr} {o : Obj} {es : Array (Int × Value)} {ep : Nat} {t : SetTable} {L : List Ent} (ho : s.heap.get? a = some o) (hd : o.data = .set es ep t) (Y : Lay t es L) (T : Tab t.mask L) (hmod : (t.mask % 2 == 0) = false) (hlen : L.length ≤ t.mask)
    (hu : A.units < cLine) (hent : ∀ e ∈ L, ∃ q, KeyEnt prog w V s.heap q e) {p : Int × Int} {b : Addr} (hb : IsKey prog w s.heap p b) {K : Nat}
    (hK : ¬ Occ L (sq t.mask (kh prog w p) K).j) (hocc : ∀ k, k < K → Occ L (sq t.mask (kh prog w p) k).j) (hK2 : K < 10 * (t.mask + 14)) {Q : SetFound → Shared → Prop}
    (h1 : (∃ e ∈ L, KeyEnt prog w V s.heap p e) → Q (.there none) s) (h2 : (∀ e ∈ L, ¬ KeyEnt prog w V s.heap p e) → Q (.free (sq t.mask (kh prog w p) K).j false) s) :
    ∀ (d fuel k : Nat) (stand : Option SetTable.Probe), K - k = d → k ≤ K → d < fuel → stand.getD (t.probeStart (kh prog w p)) = sq t.mask (kh prog w p) k →
      (∀ k', k' < k → ∀ e ∈ L, e.1 = (sq t.mask (kh prog w p) k').j → ¬ KeyEnt prog w V s.heap p e) → wpAny (model prog w) A (setSearchFrom a (.ref b) (kh prog w p) true fuel stand) Q E s := by
  intro d
  induction d using Nat.strongRecOn with
  | ind d ih =>
    intro fuel k stand hd1 hkK hfuel hst hbefore
    obtain ⟨fuel, rfl⟩ : ∃ f, fuel = f + 1 := ⟨fuel - 1, by omega⟩
    have hf := Y.fits hlen
    unfold setSearchFrom
    refine wpAny_bind (wpAny_setState_of ho hd hf ?_)
    dsimp only
    have hgw : t.gaveWay = false := hmod
    rw [hgw]
    simp only [Bool.false_eq_true, if_false]
    have hh : ∀ (i : Nat) (e : Ent), L[i]? = some e → (fun i : Nat => ((es[i]?).map (·.1)).getD 0) i = e.2.1 := fun i e he => by
      have : es[i]? = some e.2 := by rw [← Array.getElem?_toList, Y.ents, List.getElem?_map, he]; rfl
      simp [this]
    have hp := probe_spec Y T _ hh hK hocc (K - k) (10 * turns t.mask) k (by omega) (by unfold turns; omega)
    rw [hst]
    split
    · rename_i met heq
      have heq' : probe.go t (fun i : Nat => ((es[i]?).map (·.1)).getD 0) (kh prog w p) (10 * turns t.mask) (sq t.mask (kh prog w p) k) = some met := heq
      rcases hp with ⟨k1, i, e, a1, a2, a3, a4, a5, a6, a7⟩ | ⟨a1, a2⟩
      · rw [a6] at heq'
        cases heq'
        dsimp only
        have hmem := List.mem_of_getElem? a3
        obtain ⟨q, c, ec, hc, hhq⟩ := hent e hmem
        have hes : es[i]? = some (e.2.1, .ref c) := by
          rw [← Array.getElem?_toList, Y.ents, List.getElem?_map, a3, ← ec]; rfl
        have rest : wpAny (model prog w) A (do
            let some (_, y) := es[i]? | unsupported "internal:set-entry"
            let equal ← holding [y] (eqBool y (.ref b))
            let (es', _, t') ← setState a
            if true && equal then return .there none
            let some same := t'.sameMemory t.moves t.mask | unsupported "set.changed-during-lookup:is-the-new-block-at-the-old-address"
            let still ← match (if same then t'.slot e.1 else .empty) with
              | .live i' => match es'[i']? with
                | some (_, y') => do pure (if ← isSame y' y then some i' else none)
                | none => pure none
              | _ => pure none
            match still with
            | none => rule "set.search.anew"; setSearchFrom a (.ref b) (kh prog w p) true fuel none
            | some i' => if equal then return .there (some i') else setSearchFrom a (.ref b) (kh prog w p) true fuel (some (sq t.mask (kh prog w p) (k1 + 1)))) Q E s := by
          rw [hes]
          dsimp only
          refine wpAny_bind (wpAny_holding (wpAny_eqBool_tuple hu hc hb ?_))
          refine wpAny_bind (wpAny_setState_of ho hd hf ?_)
          dsimp only
          by_cases hq : kk q = kk p
          · rw [decide_eq_true hq]
            simp only [Bool.and_self, if_true]
            have : q = p := kk_inj hq
            subst this
            exact wpAny_pure (h1 ⟨e, hmem, c, ec, hc, hhq⟩)
          · rw [decide_eq_false hq]
            simp only [Bool.and_false, Bool.false_eq_true, if_false]
            have hsame : t.sameMemory t.moves t.mask = some true := by unfold SetTable.sameMemory; simp
            rw [hsame]
            dsimp only
            rw [if_pos rfl, slot_live Y T a3]
            dsimp only
            rw [hes]
            dsimp only
            refine wpAny_bind ?_
            refine wpAny_of_eq (show isSame (.ref c) (.ref c) = pure true by unfold isSame; simp) ?_
            simp only [if_true]
            refine wpAny_bind (wpAny_pure ?_)
            dsimp only
            refine ih (K - (k1 + 1)) (by omega) fuel (k1 + 1) (some _) rfl (by omega) (by omega) rfl fun k' hk' e' he' hj hke => ?_
            rcases Nat.lt_or_ge k' k with q1 | q1
            · exact hbefore k' q1 e' he' hj hke
            · rcases Nat.lt_or_ge k' k1 with q2 | q2
              · obtain ⟨_, _, _, hhh⟩ := hke
                exact a7 k' q1 q2 e' he' hj hhh.1
              · have : k' = k1 := by omega
                subst this
                have hee : e' = e := by
                  obtain ⟨i', hi'⟩ := List.getElem?_of_mem he'
                  have s1 := slot_live Y T hi'
                  have s2 := slot_live Y T a3
                  rw [hj, ← a4, s2] at s1
                  cases s1
                  rw [a3] at hi'; exact (Option.some.inj hi').symm
                subst hee
                exact hq (by rw [KeyEnt.inj ⟨c, ec, hc, hhq⟩ hke])
        refine wpAny_ite_split (fun _ => ?_) (fun _ => rest)
        refine wpAny_bind (notSeen hb (fun y hy => ?_) ?_)
        · rw [List.mem_map] at hy
          obtain ⟨x, hx, rfl⟩ := hy
          rw [Array.mem_toList_iff, Array.mem_filter] at hx
          have : x ∈ es.toList := Array.mem_toList_iff.mpr hx.1
          rw [Y.ents, List.mem_map] at this
          obtain ⟨e', he', rfl⟩ := this
          obtain ⟨q', c', e1, k1', _⟩ := hent e' he'
          exact ⟨q', c', e1, k1'⟩
        · simp only [Bool.false_eq_true, if_false]
          exact rest
      · rw [a1] at heq'
        cases heq'
        dsimp only
        refine wpAny_pure (h2 fun e he hke => ?_)
        obtain ⟨_, _, _, hhh⟩ := id hke
        obtain ⟨k', b1, b2⟩ := T.reach e he
        rw [hhh.1] at b1 b2
        rcases Nat.lt_or_ge k' K with q1 | q1
        · rcases Nat.lt_or_ge k' k with q2 | q2
          · exact hbefore k' q2 e he b1.symm hke
          · exact a2 k' q2 q1 e he b1.symm hhh.1
        · rcases Nat.eq_or_lt_of_le q1 with rfl | q1
          · exact hK ⟨e, he, b1.symm⟩
          · obtain ⟨e', c1, c2⟩ := b2 K q1
            exact hK ⟨e', c1, c2⟩
    · rename_i heq
      have heq' : probe.go t (fun i : Nat => ((es[i]?).map (·.1)).getD 0) (kh prog w p) (10 * turns t.mask) (sq t.mask (kh prog w p) k) ≠ none := by
        rcases hp with ⟨k1, i, e, a1, a2, a3, a4, a5, a6, a7⟩ | ⟨a1, a2⟩
        · rw [a6]; simp
        · rw [a1]; simp
      exfalso
      cases hg : probe.go t (fun i : Nat => ((es[i]?).map (·.1)).getD 0) (kh prog w p) (10 * turns t.mask) (sq t.mask (kh prog w p) k) with
      | none => exact heq' hg
      | some met => exact heq met hg
end
end Mine
end

section
open PySem PySem.W PyProof.Rows PySem.Calls PySem.SetTable
set_option Elab.async false
set_option autoImplicit false
set_option maxRecDepth 100000
set_option linter.unusedVariables false
namespace Mine

theorem All2.perm {α β : Type} {R : α → β → Prop} {L L' : List α} (hp : L'.Perm L) : ∀ {M : List β}, All2 R L M → ∃ M', M'.Perm M ∧ All2 R L' M' := by
  induction hp with
  | nil => intro M h; cases h; exact ⟨[], .nil, .nil⟩
  | cons x _ ih =>
    intro M h
    cases h with
    | cons h t => obtain ⟨M', p, a⟩ := ih t; exact ⟨_ :: M', p.cons _, .cons h a⟩
  | swap x y l =>
    intro M h
    cases h with
    | cons h t => cases t with
      | cons h' t => exact ⟨_, .swap _ _ _, .cons h' (.cons h t)⟩
  | trans p q ih1 ih2 =>
    intro M h
    obtain ⟨M1, p1, a1⟩ := ih2 h
    obtain ⟨M2, p2, a2⟩ := ih1 a1
    exact ⟨M2, p2.trans p1, a2⟩
theorem All2.mapL {α α' β : Type} {f : α → α'} {R : α' → β → Prop} : ∀ {l : List α} {m : List β}, All2 (fun a b => R (f a) b) l m → All2 R (l.map f) m
  | _, _, .nil => .nil
  | _, _, .cons h t => .cons h (All2.mapL t)

inductive KSetR (prog : Program) (w : World) (V : Value → Int × Int → Prop) (led : Bool) (h₀ : Heap) (kl : List (Int × Int)) (o : Obj) (es : Array (Int × Value)) (ep : Nat) (t : SetTable) (L : List Ent) : Prop
  | mk (x : o.ExactSet) (d : o.data = .set es ep t) (Y : Lay t es L) (T : Tab t.mask L) (m : t.mask = 7 ∨ t.mask = 31) (f : L.length * 5 < t.mask * 3) (l : t.led = led) (A : All2 (fun e q => KeyEnt prog w V h₀ q e) L kl)
inductive KSet (prog : Program) (w : World) (V : Value → Int × Int → Prop) (led : Bool) (h₀ h : Heap) (a : Addr) (kl : List (Int × Int)) : Prop
  | mk (o : Obj) (es : Array (Int × Value)) (ep : Nat) (t : SetTable) (L : List Ent) (ho : h.get? a = some o) (r : KSetR prog w V led h₀ kl o es ep t L)

theorem ok7 : OkMask 7 := hops7
theorem ok31 : OkMask 31 := hops31
theorem Lay.plainOff {t : SetTable} {es : Array (Int × Value)} {L : List Ent} (Y : Lay t es L) : Lay { t with plain := false } es L := ⟨Y.place, Y.ents, Y.dummies⟩

section
variable {prog : Program} {w : World} {A : Around} {E : Value → Shared → Prop} {s : Shared}
theorem hashByValue_key {p : Int × Int} {b : Addr} {Q : Bool → Shared → Prop} (hk : IsKey prog w s.heap p b) (h : ∀ c, Q c s) : wpAny (model prog w) A (hashByValue 8 (.ref b)) Q E s := by
  have hT := hk.typeIs
  obtain ⟨o, items, n, ho, _, hd, hi⟩ := hk
  unfold hashByValue
  refine wpAny_bind (wpAny_specialOf hT F.slot_tuple_hash.lookup ?_)
  dsimp only
  refine wpAny_bind (wpAny_seqItems ho hd ?_)
  refine wpAny_bind ?_
  show wpAny _ _ (forIn items _ _) _ _ s
  rw [← Array.forIn_toList]
  refine wpAny_forIn_list _ (fun rest r s' => s' = s ∧ ∀ v ∈ rest, carriedByValue v = true) _ ?_ ?_ _ _ ⟨rfl, hi.byValue⟩
  · rintro v rest r s' ⟨rfl, hall⟩
    have hv := hall v List.mem_cons_self
    obtain ⟨c, e⟩ : ∃ c, hashByValue 7 v = pure c := by cases v <;> first | exact ⟨_, rfl⟩ | simp [carriedByValue] at hv
    rw [e]
    refine wpAny_bind (wpAny_pure ?_)
    cases c with
    | true =>
      simp only [Bool.not_true, Bool.false_eq_true, if_false]
      exact wpAny_pure ⟨rfl, fun u hu' => hall u (List.mem_cons_of_mem _ hu')⟩
    | false =>
      simp only [Bool.not_false, if_true]
      exact wpAny_pure (wpAny_pure (h _))
  · rintro ⟨r1, r2⟩ s' ⟨rfl, _⟩
    cases r1 with
    | none => exact wpAny_pure (h _)
    | some c => exact wpAny_pure (h _)

abbrev Kept (h₀ h : Heap) : Prop := ∀ b o, h₀.get? b = some o → h.get? b = some o
theorem KeyEnt.up {V : Value → Int × Int → Prop} {h h' : Heap} {q : Int × Int} {e : Ent} (hk : Kept h h') (x : KeyEnt prog w V h q e) : KeyEnt prog w V h' q e :=
  let ⟨b, e1, k, e2⟩ := x; ⟨b, e1, k.up hk, e2⟩

theorem getD_set_put {h : Heap} {a : Addr} {o : Obj} {es : Array (Int × Value)} {ep : Nat} {t : SetTable} (ho : h.get? a = some o) (hd : o.data = .set es ep t) (es' : Array (Int × Value)) (t' : SetTable) :
    (h.update a (Obj.putSet es' t')).get? a = some { o with data := .set es' (ep + 1) t' } := by
  have := Heap.get?_update_self (Obj.putSet es' t') ho (by rw [putSet_of es' t' hd]; rfl)
  rw [putSet_of es' t' hd] at this; exact this

set_option maxHeartbeats 4000000 in
theorem key_add {V : Value → Int × Int → Prop} {led : Bool} {h₀ : Heap} {a : Addr} {kl : List (Int × Int)} {p : Int × Int} {b : Addr} {Q : Bool → Shared → Prop} (hk : Kept h₀ s.heap) (hS : KSet prog w V led h₀ s.heap a kl) (hnd : kl.Nodup) (hlen : kl.length ≤ 17) (hb : IsKey prog w h₀ p b) (hV : V (.ref b) p)
    (hu : A.units < cLine)
    (h : ∀ c h' kl', Heap.SameBut a s.heap h' → KSet prog w V led h₀ h' a kl' → kl'.Nodup → (∀ q, q ∈ kl' ↔ q = p ∨ q ∈ kl) → Q c { s with heap := h' }) :
    wpAny (model prog w) A (setAddHashed a (.ref b) (kh prog w p)) Q E s := by
  obtain ⟨o, es, ep, t, L, ho, hex, hd, Y, T, hm, hfull, hled, hA⟩ := id hS
  have hL : L.length ≤ t.mask := by omega
  have hLk := hA.length
  have hf := Y.fits hL
  have hmod : (t.mask % 2 == 0) = false := by rcases hm with e | e <;> rw [e] <;> rfl
  have okm : OkMask t.mask := by rcases hm with e | e <;> rw [e]; exact ok7; exact ok31
  have mem_key : ∀ q, (∃ e ∈ L, KeyEnt prog w V h₀ q e) ↔ q ∈ kl := fun q => by
    constructor
    · rintro ⟨e, he, hke⟩
      obtain ⟨i, hi⟩ := List.getElem?_of_mem he
      obtain ⟨q', hq', hke'⟩ := hA.get' hi
      rw [hke.inj hke']; exact List.mem_of_getElem? hq'
    · intro hq
      obtain ⟨i, hi⟩ := List.getElem?_of_mem hq
      obtain ⟨e, he, hke⟩ := hA.get hi
      exact ⟨e, List.mem_of_getElem? he, hke⟩
  have down : ∀ q e, e ∈ L → KeyEnt prog w V s.heap q e → KeyEnt prog w V h₀ q e := fun q e he hke => by
    obtain ⟨i, hi⟩ := List.getElem?_of_mem he
    obtain ⟨q', hq', hke'⟩ := hA.get' hi
    rw [hke.inj (hke'.up hk)]; exact hke'
  obtain ⟨K, hK2, hK, hocc⟩ := exists_free okm hL (kh prog w p)
  unfold setAddHashed setAddHashedIn
  refine wpAny_holding (wpAny_bind (wpAny_setState_of ho hd hf ?_))
  dsimp only
  have hbs : byScan (.ref b) es = false := rfl
  rw [hbs]
  simp only [Bool.false_eq_true, if_false]
  refine wpAny_bind ?_
  unfold setSearch
  refine search_from (V := V) ho hd Y T hmod hL hu (fun e he => ?_) (hb.up hk) hK hocc hK2 ?_ ?_ K 100000 0 none rfl (Nat.zero_le _) ?_ rfl (fun k' hk' => absurd hk' (Nat.not_lt_zero _))
  · obtain ⟨i, hi⟩ := List.getElem?_of_mem he
    obtain ⟨q', _, hke'⟩ := hA.get' hi
    exact ⟨q', hke'.up hk⟩
  · rintro ⟨e, he, hke⟩
    dsimp only
    have hpk := (mem_key p).mp ⟨e, he, down p e he hke⟩
    refine wpAny_pure ?_
    have := h false s.heap kl (Heap.SameBut.refl a s.heap) hS hnd fun q => ⟨.inr, fun q1 => q1.elim (fun q2 => q2 ▸ hpk) id⟩
    exact this
  · intro hno
    dsimp only
    have hpk : p ∉ kl := fun hq => by
      obtain ⟨e, he, hke⟩ := (mem_key p).mpr hq
      exact hno e he (hke.up hk)
    refine wpAny_bind (wpAny_setState_of ho hd hf ?_)
    dsimp only
    obtain ⟨L1, hp1, T1, Y1, hm1⟩ := T.ins Y (x := .ref b) hK hocc
    generalize hput : t.put (sq t.mask (kh prog w p) K).j = pt at *
    have hput2 : pt.1.led = t.led := by rw [← hput]; rfl
    obtain ⟨t1, pl⟩ := pt
    dsimp only at Y1 hm1 hput2 ⊢
    have hl1 : L1.length = L.length + 1 := by rw [hp1.length_eq]; rfl
    have hA0 : All2 (fun e q => KeyEnt prog w V h₀ q e) (((sq t.mask (kh prog w p) K).j, kh prog w p, .ref b) :: L) (p :: kl) := .cons ⟨b, rfl, hb, rfl, hV⟩ hA
    obtain ⟨kl1, hkp1, hA1⟩ := All2.perm hp1 hA0
    have hnd1 : kl1.Nodup := hkp1.nodup_iff.mpr (List.nodup_cons.mpr ⟨hpk, hnd⟩)
    have hmem1 : ∀ q, q ∈ kl1 ↔ q = p ∨ q ∈ kl := fun q => by rw [hkp1.mem_iff, List.mem_cons]
    have tail : ∀ t2 : SetTable, t2.mask = t1.mask → t2.led = t1.led → Lay t2 (insertAt es pl (kh prog w p, .ref b)) L1 → wpAny (model prog w) A (do
        storeSet a (SetTable.insertAt es pl (kh prog w p, .ref b)) t2
        if !false && t2.tooFull then setRelay a (SetTable.grown (es.size + 1))
        return true) Q E s := fun t2 hm2 hled2 Y2 => by
      have T2 : Tab t2.mask L1 := by rw [hm2, hm1]; exact T1
      have hsz : (insertAt es pl (kh prog w p, Value.ref b)).size = L1.length := Y2.size'
      refine wpAny_bind (wpAny_storeSet_of ho hd ?_ (by rw [hsz, sizeLine_eq]; omega))
      have ho2 := getD_set_put ho hd (insertAt es pl (kh prog w p, Value.ref b)) t2
      have hsb := Heap.SameBut.update s.heap a (Obj.putSet (insertAt es pl (kh prog w p, Value.ref b)) t2)
      have hfill : t2.fill = L1.length := by unfold SetTable.fill; rw [Y2.size, Y2.dummies]; rfl
      have hfit2 := Y2.fits (show L1.length ≤ t2.mask by rw [hm2, hm1]; rcases hm with e | e <;> rw [e] at hfull ⊢ <;> omega)
      by_cases hfl : t2.tooFull = true
      · rw [if_pos (by rw [hfl]; rfl)]
        have hfl' : L1.length * 5 ≥ t2.mask * 3 := by
          unfold SetTable.tooFull at hfl; rw [hfill] at hfl; simpa using hfl
        have h7 : t.mask = 7 := by
          rcases hm with e | e
          · exact e
          · rw [hm2, hm1, e] at hfl'; omega
        have h4 : es.size = 4 := by
          rw [Y.size']
          rw [hm2, hm1, h7] at hfl'
          rw [h7] at hfull
          omega
        have hgr : sizeAbove (grown (es.size + 1)) = 32 := by rw [h4]; rfl
        unfold setRelay
        refine wpAny_bind (wpAny_bind (wpAny_setState_of ho2 rfl hfit2 ?_))
        dsimp only
        rw [if_neg (by rw [hgr, sizeLine_eq]; omega)]
        obtain ⟨t3, order, L3, r1, r2, r3, r4, T3, Y3, hp3⟩ := relaid_spec (t := t2) (es := insertAt es pl (kh prog w p, Value.ref b)) (wanted := grown (es.size + 1)) (by rw [hgr]; exact ok31) (by rw [hgr, hsz]; omega)
        have hs3 : (order.filterMap ((insertAt es pl (kh prog w p, Value.ref b))[·]?)).size = (insertAt es pl (kh prog w p, Value.ref b)).size := by
          rw [Y3.size']
          have := hp3.length_eq
          simpa using this
        have hl3 : L3.length = L1.length := by rw [← Y3.size', hs3, hsz]
        refine wpAny_bind ?_
        show wpAny (model prog w) A (do
          let some (t, order) := t2.relaid ((insertAt es pl (kh prog w p, Value.ref b)).map (·.1)) (grown (es.size + 1)) | unsupported "internal:set-table-without-room"
          let es' := order.filterMap ((insertAt es pl (kh prog w p, Value.ref b))[·]?)
          if es'.size != (insertAt es pl (kh prog w p, Value.ref b)).size then unsupported "internal:set-table-lost-an-element"
          pure (es', t)) _ E _
        rw [r1]
        dsimp only
        rw [hs3, if_neg (by simp)]
        refine wpAny_pure ?_
        dsimp only
        refine wpAny_storeSet_of ho2 rfl ?_ (by rw [hs3, hsz, sizeLine_eq]; omega)
        have ho3 := getD_set_put ho2 rfl (order.filterMap ((insertAt es pl (kh prog w p, Value.ref b))[·]?)) t3
        refine wpAny_pure ?_
        rw [hgr] at r2 T3
        have hpe : (L3.map (·.2)).Perm (L1.map (·.2)) := by rw [← Y2.ents]; exact hp3
        have hA1' : All2 (fun (x : Int × Value) q => ∃ b, x.2 = .ref b ∧ IsKey prog w h₀ q b ∧ x.1 = kh prog w q ∧ V x.2 q) (L1.map (·.2)) kl1 := All2.mapL (hA1.imp fun _ _ ⟨b, e1, k, r⟩ => ⟨b, e1, k, r⟩)
        obtain ⟨kl3, hkp3, hA3'⟩ := All2.perm hpe hA1'
        have hA3 : All2 (fun e q => KeyEnt prog w V h₀ q e) L3 kl3 := by
          have gen : ∀ {l : List Ent} {m : List (Int × Int)}, All2 (fun (x : Int × Value) q => ∃ b, x.2 = .ref b ∧ IsKey prog w h₀ q b ∧ x.1 = kh prog w q ∧ V x.2 q) (l.map (·.2)) m → All2 (fun e q => KeyEnt prog w V h₀ q e) l m := by
            intro l
            induction l with
            | nil => intro m hh; cases hh; exact .nil
            | cons x l ih => intro m hh; cases hh with | cons h1 h2 => exact .cons (let ⟨b, e1, k, r⟩ := h1; ⟨b, e1, k, r⟩) (ih h2)
          exact gen hA3'
        refine h _ _ kl3 (hsb.trans (Heap.SameBut.update _ a _)) ⟨_, _, _, t3, L3, ho3, hex, rfl, Y3, by rw [r2]; exact T3, .inr r2, by rw [hl3, r2]; rw [h4] at *; have := Y.size'; omega, by rw [r3, hled2, hput2, hled], hA3⟩
          (hkp3.nodup_iff.mpr hnd1) fun q => by rw [hkp3.mem_iff]; exact hmem1 q
      · rw [if_neg (by simpa using hfl)]
        refine wpAny_pure ?_
        have hfl' : L1.length * 5 < t2.mask * 3 := by
          unfold SetTable.tooFull at hfl; rw [hfill] at hfl; simpa using hfl
        exact h _ _ kl1 hsb ⟨_, _, _, t2, L1, ho2, hex, rfl, Y2, T2, by rw [hm2, hm1]; exact hm, hfl', by rw [hled2, hput2, hled], hA1⟩ hnd1 hmem1
    by_cases hpl : t1.plain = true
    · rw [if_pos hpl]
      refine wpAny_bind (hashByValue_key (hb.up hk) fun c => ?_)
      cases c with
      | true => exact tail t1 rfl rfl Y1
      | false => exact tail { t1 with plain := false } rfl rfl Y1.plainOff
    · rw [if_neg hpl]
      refine wpAny_bind (wpAny_pure ?_)
      exact tail t1 rfl rfl Y1
  · have : t.mask ≤ 31 := by omega
    omega
end
end Mine
end

section
open PySem PySem.W PyProof.Rows PySem.Calls PySem.SetTable
set_option Elab.async false
set_option autoImplicit false
set_option maxRecDepth 100000
set_option linter.unusedVariables false
namespace Mine

theorem sub_list_set' : isSubtype (.type "list") (.type "set") = pure false := PySem.F.sub_list_set
theorem sub_list_fro : isSubtype (.type "list") (.type "frozenset") = pure false := PySem.F.sub_list_frozenset
theorem sub_tup_set : isSubtype (.type "tuple") (.type "set") = pure false := by rw [isSubtype_type]; kernel_rfl
theorem sub_tup_fro : isSubtype (.type "tuple") (.type "frozenset") = pure false := by rw [isSubtype_type]; kernel_rfl

section
variable {prog : Program} {w : World} {A : Around} {E : Value → Shared → Prop} {s : Shared}

abbrev byTextOf (w : World) : Bool := w.params.followText "set-order"
abbrev freshSet (w : World) : Obj := { cls := .type "set", dict := none, data := .set #[] 0 (.fresh 0 0 (!(byTextOf w))) }
theorem code_set_new_led (a : Value) {Q₁ : Value → Shared → Prop}
    (h : Q₁ (.ref s.heap.objs.size) { s with heap := s.heap.push (freshSet w) }) :
    codeAny (model prog w) A (.call (.builtin "set.__new__") ⟨[.type "set", a], []⟩) (wants Q₁ E) s := by
  refine codeAny_of_tree ?_
  show wpAny _ A.in1 (do checkBuiltinCall "set.__new__" ⟨[.type "set", a], []⟩; again (.builtin "set.__new__" ⟨[.type "set", a], []⟩)) _ _ s
  refine wpAny_bind (wpAny_of_eq (PySem.F.newCall_set_1 a) (wpAny_pure ⟨plainId_quiet PySem.F.plain_set_new _, codeAny_builtin PySem.F.entry_set_new ?_⟩))
  rw [Around.under_plainId PySem.F.plain_set_new _]
  unfold Builtin.«set.__new__» Builtin.Frozenset.newClass
  have hsub := sub_set_self
  obtain ⟨hp, g, d, tk, os⟩ := s
  dsimp only
  wp_walk
  refine wpAny_askSetting (wpAny_pure ?_)
  dsimp only
  simp only [newObj]
  refine wpAny_bind (wpAny_alloc (wpAny_pure ?_))
  exact wpAny_pure h

theorem update_from {x : Value} {T id : String} {S : Addr} {Q : Unit → Shared → Prop} (hT : s.TypeIs x T) (h1 : isSubtype (.type T) (.type "set") = pure false) (h2 : isSubtype (.type T) (.type "frozenset") = pure false) (h3 : (Value.type T == Value.type "dict") = false)
    (h : wpAny (model prog w) A (pyIter x) (fun it s₂ => codeAny (model prog w) A (.builtin "set.update.loop" ⟨[.ref S, it], []⟩) (wants (fun _ s' => Q () s') E) s₂) E s) :
    wpAny (model prog w) A (Builtin.Frozenset.updateFrom id S x) Q E s := by
  unfold Builtin.Frozenset.updateFrom Builtin.Frozenset.isAnySet
  refine wpAny_bind ?_
  unfold orM
  refine wpAny_bind (wpAny_isInstance hT h1 ?_)
  show wpAny _ _ (isInstance x (.type "frozenset")) _ _ s
  refine wpAny_isInstance hT h2 ?_
  simp only [Bool.false_eq_true, if_false]
  refine wpAny_bind (wpAny_typeOf hT ?_)
  rw [h3]
  simp only [Bool.false_eq_true, if_false]
  refine wpAny_bind (wpAny_mono h (fun it s₂ h₂ => ?_) fun _ _ e => e)
  refine wpAny_bind (wpAny_runValue (codeAny_mono h₂ fun r s' hr => ?_))
  cases r with
  | error e => exact hr
  | ok fl =>
    cases fl with
    | ret v => exact wpAny_pure hr
    | _ => exact hr.elim

set_option maxHeartbeats 3200000 in
theorem call_set_src {x : Value} {T : String} {Post : Heap → Nat → Prop} {Q : Value → Shared → Prop} (hT : Shared.TypeIs { s with heap := s.heap.push (freshSet w) } x T) (h1 : isSubtype (.type T) (.type "set") = pure false) (h2 : isSubtype (.type T) (.type "frozenset") = pure false) (h3 : (Value.type T == Value.type "dict") = false)
    (hsrc : ∀ (E : Value → Shared → Prop) (R : Shared → Prop), (∀ h' tk, Post h' tk → R { s with heap := h', toks := tk }) →
      wpAny (model prog w) A.in1.in1 (pyIter x) (fun it s₂ => codeAny (model prog w) A.in1.in1 (.builtin "set.update.loop" ⟨[.ref s.heap.objs.size, it], []⟩) (wants (fun _ s' => R s') E) s₂) E { s with heap := s.heap.push (freshSet w) })
    (h : ∀ h' tk, Post h' tk → Q (.ref s.heap.objs.size) { s with heap := h', toks := tk }) :
    wpAny (model prog w) A (call (.type "set") [x]) Q E s := by
  obtain ⟨c, tl, hmro⟩ := PySem.F.called_set.mro
  have hmade := PySem.F.called_set.made
  have hsub := PySem.F.called_set.sub
  refine wpAny_call (codeAny_of_tree ?_)
  show wpAny _ _ (callAny (.type "set") _) _ _ _
  refine wpAny_pure ⟨Code.quiet_builtin _ (by decide +kernel), codeAny_builtin PySem.F.entry_type_call ?_⟩
  rw [Around.under_plain (weight_type_call_type "set" [x] []) rfl]
  have h1' := PySem.F.called_set.notType
  have h2' := PySem.F.called_set.canCreate
  have hct := PySem.F.typeCall_set_1 x
  repeat (any_goals (first | assumption | wp_step))
  refine codeAny_mono (code_set_new_led x (E := E) (Q₁ := fun obj s₁ => obj = .ref s.heap.objs.size ∧ s₁ = { s with heap := s.heap.push (freshSet w) }) ⟨rfl, rfl⟩) fun r s₁ hr => ?_
  cases r with
  | error e => exact hr
  | ok fl =>
    cases fl with
    | ret obj =>
      obtain ⟨rfl, rfl⟩ := hr
      have hS : (s.heap.push (freshSet w)).get? s.heap.objs.size = some (freshSet w) := Heap.get?_push_size _ rfl
      have hTS : Shared.TypeIs { s with heap := s.heap.push (freshSet w) } (.ref s.heap.objs.size) "set" := ⟨_, hS, rfl⟩
      have hli := PySem.F.called_set.init.lookup
      have hbi := PySem.F.called_set.init.bind (.ref s.heap.objs.size)
      repeat (any_goals (first | assumption | wp_step))
      refine codeAny_mono (codeAny_call_builtin (R := wants (fun r s₂ => r = .none ∧ ∃ h' tk, s₂ = { s with heap := h', toks := tk } ∧ Post h' tk) E) PySem.F.called_set.init.plain PySem.F.entry_set_init (check_set_init_1 hTS ?_)) fun r₂ s₂ hr₂ => ?_
      · unfold Builtin.«set.__init__» noKeywords
        generalize hU : Builtin.Frozenset.updateFrom = U
        wp_walk
        subst hU
        refine update_from hT h1 h2 h3 ?_
        refine hsrc _ _ ?_
        intro h' tk hP
        show wpAny _ _ (ret Value.none) _ _ _
        refine wpAny_pure ?_
        exact ⟨rfl, h', tk, rfl, hP⟩
      · cases r₂ with
        | error e => exact hr₂
        | ok fl₂ =>
          cases fl₂ with
          | ret r =>
            obtain ⟨rfl, h', tk, rfl, hP⟩ := hr₂
            repeat (any_goals (first | assumption | wp_step))
            exact h _ _ hP
          | _ => exact hr₂.elim
    | _ => exact hr.elim
end
end Mine
end

section
open PySem PySem.W PyProof.Rows PySem.Calls PySem.SetTable
set_option Elab.async false
set_option autoImplicit false
set_option maxRecDepth 100000
set_option linter.unusedVariables false
namespace Mine

section
variable {prog : Program} {w : World} {A : Around} {I : Addr} {fp wr : List Addr} {G : Array GenState → Array GenState → Prop} {n : Nat} {P : Nat → Value → Prop} {Sx : Nat → Shared → Prop}

theorem set_loop {α : Type} {R : Result → Shared → Prop} (Inv : Heap → List α → Prop) (W : WalksS prog w A.in1 I fp wr G n P Sx) (S : Addr) (hSf : S ∉ fp) (h₀ : Heap) (hS0 : h₀.get? S = none) (hw0 : ∀ b ∈ wr, h₀.get? b = none) (l : List α) (hn : n = l.length)
    (hinv : ∀ h h' kl, Inv h kl → (∀ o, h.get? S = some o → h'.get? S = some o) → Inv h' kl)
    (hadd : ∀ i v x s kl (Q : Bool → Shared → Prop) (E : Value → Shared → Prop), P i v → l[i]? = some x → Kept h₀ s.heap → Inv s.heap kl → (∀ q ∈ kl, q ∈ l) →
      (∀ c h' kl' tk, Heap.SameBut S s.heap h' → Inv h' kl' → (∀ q, q ∈ kl' ↔ q = x ∨ q ∈ kl) → s.toks ≤ tk → Q c { s with heap := h', toks := tk }) → wpAny (model prog w) A.in1 (setAdd S v) Q E s) :
    ∀ (k i : Nat) (s : Shared) (kl : List α), n - i = k → i ≤ n → Sx i s → Kept h₀ s.heap → Inv s.heap kl → (∀ q, q ∈ kl ↔ q ∈ l.take i) →
      (∀ s' kl', Moved (S :: wr) G s s' → Inv s'.heap kl' → (∀ q, q ∈ kl' ↔ q ∈ l) → R (.ok (.ret .none)) s') →
      codeAny (model prog w) A (.builtin "set.update.loop" ⟨[.ref S, .ref I], []⟩) R s := by
  have hSw : S ∉ wr := fun h => hSf (W.sub _ h)
  have hsub : ∀ b ∈ wr, b ∈ S :: wr := fun b hb => List.mem_cons_of_mem _ hb
  have kept_moved : ∀ s s' : Shared, Kept h₀ s.heap → Moved wr G s s' → Kept h₀ s'.heap := fun s s' hk hm b o e => hm.heap b o (fun hb => by rw [hw0 b hb] at e; cases e) (hk b o e)
  intro k
  induction k with
  | zero =>
    intro i s kl hk hi hst hkp hI hmem hR
    have hin : i = n := by omega
    subst hin
    refine codeAny_builtin PyProof.Rows.F.entry_set_update_loop ?_
    rw [Around.under_plainId PyProof.Rows.F.plain_set_update_loop _]
    show wpAny _ A.in1 (pyNext (.ref I) >>= _) _ _ s
    refine wpAny_bind (W.done s _ _ hst fun s' hm => ?_)
    show wpAny _ A.in1 (ret Value.none) _ _ s'
    refine wpAny_pure (hR s' kl (hm.mono hsub) (hinv _ _ _ hI fun o e => hm.heap S o hSw e) fun q => ?_)
    rw [hmem q, hn, List.take_length]
  | succ k ih =>
    intro i s kl hk hi hst hkp hI hmem hR
    have hlt : i < n := by omega
    obtain ⟨x, hx⟩ : ∃ x, l[i]? = some x := ⟨l[i]'(by omega), List.getElem?_eq_getElem _⟩
    refine codeAny_builtin PyProof.Rows.F.entry_set_update_loop ?_
    rw [Around.under_plainId PyProof.Rows.F.plain_set_update_loop _]
    show wpAny _ A.in1 (pyNext (.ref I) >>= _) _ _ s
    refine wpAny_bind (W.item i s _ _ hlt hst fun v s' hP hst' hm => ?_)
    show wpAny _ A.in1 (holding [v] (setAdd S v) >>= _) _ _ s'
    refine wpAny_bind (wpAny_holding ?_)
    refine hadd i v x s' kl _ _ hP hx (kept_moved _ _ hkp hm) (hinv _ _ _ hI fun o e => hm.heap S o hSw e) (fun q hq => List.mem_of_mem_take ((hmem q).mp hq)) fun c h' kl' tk hsb hI' hmem' htk => ?_
    have hother : ∀ b o, b ≠ S → s'.heap.get? b = some o → h'.get? b = some o := fun b o hb e => by rw [hsb.2 b hb]; exact e
    refine wpAny_pure ⟨plainId_quiet PyProof.Rows.F.plain_set_update_loop _, ih (i + 1) _ kl' (by omega) hlt (W.frame _ s' _ _ hst' htk fun b hb o e => hother b o (fun h => hSf (h ▸ hb)) e) (fun b o e => hother b o (fun h => by rw [h, hS0] at e; cases e) (kept_moved _ _ hkp hm b o e)) hI' (fun q => ?_) fun s'' kl'' hm'' hI'' hq'' => ?_⟩
    · rw [hmem' q, take_succ' hx, List.mem_append, List.mem_singleton, hmem q]; exact Or.comm
    · refine hR s'' kl'' (Moved.trans W.gtrans ((hm.mono hsub).then_heap htk fun b o hb e => hother b o (fun h => hb (by rw [h]; exact List.mem_cons_self)) e) hm'') hI'' hq''
end

/-! sets of ints: four at most -/
inductive IntEnt (e : Ent) (n : Int) : Prop
  | mk (tk : Tok) (e1 : e.2.2 = .int n tk) (e2 : e.2.1 = hashInt n)
inductive ISetR (w : World) (ns : List Int) (o : Obj) (es : Array (Int × Value)) (ep : Nat) (t : SetTable) (L : List Ent) : Prop
  | mk (x : o.ExactSet) (d : o.data = .set es ep t) (Y : Lay t es L) (T : Tab t.mask L) (m : t.mask = 7) (f : L.length ≤ 4) (l : t.led = !(byTextOf w)) (A : All2 IntEnt L ns) (nd : ns.Nodup)
inductive ISet (w : World) (h : Heap) (a : Addr) (ns : List Int) : Prop
  | mk (o : Obj) (es : Array (Int × Value)) (ep : Nat) (t : SetTable) (L : List Ent) (ho : h.get? a = some o) (r : ISetR w ns o es ep t L)

section
variable {prog : Program} {w : World} {A : Around} {E : Value → Shared → Prop} {s : Shared}
theorem elems_of_ints {L : List Ent} {ns : List Int} (h : All2 IntEnt L ns) : ElemsOf (intKind prog w) (L.map (·.2)) := by
  induction h with
  | nil => intro e he; cases he
  | @cons e n es ns h1 _ ih =>
    intro x hx
    rw [List.map_cons] at hx
    rcases List.mem_cons.mp hx with rfl | hx
    · obtain ⟨tk, e1, e2⟩ := h1
      exact ⟨⟨n, by rw [e1]; exact intKind_is prog w _ _, e2⟩, by rw [e1]; rfl⟩
    · exact ih x hx

theorem int_add {a : Addr} {ns : List Int} {x : Int} {tx : Tok} {Q : Bool → Shared → Prop} (hS : ISet w s.heap a ns) (hlen : x ∉ ns → ns.length ≤ 3)
    (h : ∀ c h' ns', Heap.SameBut a s.heap h' → ISet w h' a ns' → (∀ q, q ∈ ns' ↔ q = x ∨ q ∈ ns) → Q c { s with heap := h' }) :
    wpAny (model prog w) A (setAddHashed a (.int x tx) (hashInt x)) Q E s := by
  obtain ⟨o, es, ep, t, L, ho, hex, hd, Y, T, hm, hL4, hled, hA, hnd⟩ := id hS
  have hsz : es.size = L.length := Y.size'
  have hLn := hA.length
  have hf := Y.fits (by omega)
  have hel : ElemsOf (intKind prog w) es.toList := by rw [Y.ents]; exact elems_of_ints hA
  have hb : es.size < scanBound := by unfold scanBound; omega
  unfold setAddHashed setAddHashedIn
  refine wpAny_holding (wpAny_bind (wpAny_setState_of ho hd hf ?_))
  dsimp only
  rw [byScan_of (knd := intKind prog w) rfl hb hel]
  simp only [if_true]
  unfold setAddByScan
  refine wpAny_bind (wpAny_bind (wpAny_rule (wpAny_bind (wpAny_setScan_of (knd := intKind prog w) (intKind_is prog w x tx) ho hd hf hel ?_))))
  cases hr : es.toList.findIdx? (fun e => (intKind prog w).is x e.2) with
  | some j =>
    dsimp only
    obtain ⟨hj, hpj, _⟩ := List.findIdx?_eq_some_iff_getElem.mp hr
    have hj' : j < L.length := by rw [Y.ents] at hj; simpa using hj
    obtain ⟨m, hm', tk, e1, _⟩ := hA.get' (List.getElem?_eq_getElem hj')
    have hej : es.toList[j] = L[j].2 := by
      have : es.toList[j]? = some L[j].2 := by rw [Y.ents, List.getElem?_map, List.getElem?_eq_getElem hj']; rfl
      rw [List.getElem?_eq_getElem hj] at this; exact Option.some.inj this
    have hxm : x = m := by
      rw [hej, e1] at hpj; exact (intKind prog w).inj _ _ _ hpj (intKind_is prog w m tk)
    refine wpAny_pure (wpAny_pure ?_)
    exact h false s.heap ns (Heap.SameBut.refl a s.heap) hS fun q => ⟨.inr, fun q1 => q1.elim (fun q2 => by rw [q2, hxm]; exact List.mem_of_getElem? hm') id⟩
  | none =>
    dsimp only
    have hxn : x ∉ ns := fun hx => by
      obtain ⟨i, hi⟩ := List.getElem?_of_mem hx
      obtain ⟨e, he, tk, e1, _⟩ := hA.get hi
      have := List.findIdx?_eq_none_iff.mp hr e.2 (by rw [Y.ents]; exact List.mem_map_of_mem (List.mem_of_getElem? he))
      rw [e1, intKind_is prog w] at this; cases this
    have h3 := hlen hxn
    obtain ⟨es1, t1, L1, j, hlay, hp1, T1, Y1, hm1, hl1, hpl1⟩ := layNew_spec Y T (by rw [hm]; exact ok7) (by omega) (hashInt x) (.int x tx)
    have hlay' : layNew t es ((intKind prog w).hash x) (.int x tx) = (es1, t1, false, false) := hlay
    rw [hlay]
    dsimp only
    obtain ⟨ns1, hn1, hA1⟩ := All2.perm hp1 (.cons ⟨tx, rfl, rfl⟩ hA : All2 IntEnt ((j, hashInt x, .int x tx) :: L) (x :: ns))
    have hnd1 : ns1.Nodup := hn1.nodup_iff.mpr (List.nodup_cons.mpr ⟨hxn, hnd⟩)
    have hmem1 : ∀ q, q ∈ ns1 ↔ q = x ∨ q ∈ ns := fun q => by rw [hn1.mem_iff, List.mem_cons]
    have hL1 : L1.length = L.length + 1 := by rw [hp1.length_eq]; rfl
    have hfl : t1.tooFull = false := by
      unfold SetTable.tooFull SetTable.fill
      rw [Y1.size, Y1.dummies, hm1, hm, hL1]
      simp; omega
    refine wpAny_bind (wpAny_pure ?_)
    have tail : wpAny (model prog w) A (do
        storeSet a es1 t1
        if (!false && t1.tooFull) = true then do
            (match (relayAll t1 es1 (SetTable.grown es1.size)).2.2 with | true => rule "set.scan.the-table-gave-way" | false => pure ())
            storeSet a (relayAll t1 es1 (SetTable.grown es1.size)).1 (relayAll t1 es1 (SetTable.grown es1.size)).2.1
            return some true
          else return some true) (fun r s' => wpAny (model prog w) A (match r with | some added => pure added | none => setAddHashedIn a (.int x tx) (hashInt x) 99999) Q E s') E s := by
      refine wpAny_bind (wpAny_storeSet_of ho hd ?_ (by rw [Y1.size', hL1, sizeLine_eq]; omega))
      rw [hfl]
      simp only [Bool.and_false, Bool.false_eq_true, if_false]
      refine wpAny_pure (wpAny_pure ?_)
      exact h true _ ns1 (Heap.SameBut.update s.heap a (Obj.putSet es1 t1)) ⟨_, es1, _, t1, L1, getD_set_put ho hd es1 t1, hex, rfl, Y1, by rw [hm1]; exact T1, by rw [hm1, hm], by omega, by rw [hl1, hled], hA1, hnd1⟩ hmem1
    by_cases hpl : t1.plain = true
    · rw [if_pos hpl]
      refine wpAny_bind ?_
      rw [hashByValue_scannable 8 (x := .int x tx) rfl]
      refine wpAny_pure ?_
      exact tail
    · rw [if_neg hpl]
      refine wpAny_bind (wpAny_pure ?_)
      exact tail
end
end Mine
end

section
open PySem PySem.W PyProof.Rows PySem.Calls PySem.SetTable
set_option Elab.async false
set_option autoImplicit false
set_option maxRecDepth 100000
set_option linter.unusedVariables false
namespace Mine

inductive SetValsR (w : World) (vs : List Value) (o : Obj) (es : Array (Int × Value)) (ep : Nat) (t : SetTable) (L : List Ent) : Prop
  | mk (x : o.ExactSet) (d : o.data = .set es ep t) (Y : Lay t es L) (T : Tab t.mask L) (m : L.length ≤ t.mask) (f : L.length ≤ 1000) (l : t.led = !(byTextOf w)) (A : L.map (·.2.2) = vs)
inductive SetVals (w : World) (h : Heap) (a : Addr) (vs : List Value) : Prop
  | mk (o : Obj) (es : Array (Int × Value)) (ep : Nat) (t : SetTable) (L : List Ent) (ho : h.get? a = some o) (r : SetValsR w vs o es ep t L)
def rSetV (w : World) (a : Addr) (vs : List Value) : Res where
  fp := fun b => b = a
  P := fun h => SetVals w h a vs
  loc := fun _ _ hk ⟨o, es, ep, t, L, ho, r⟩ => ⟨o, es, ep, t, L, hk a o rfl ho, r⟩
  dom := fun _ ⟨o, es, ep, t, L, ho, r⟩ b hb => by subst hb; exact ⟨o, ho⟩

section
variable {prog : Program} {w : World} {A : Around} {E : Value → Shared → Prop} {s : Shared}
theorem set_of_src {α : Type} (Inv : Heap → List α → Prop) {x : Value} {T : String} {n : Nat} {P : Nat → Value → Prop} {Sx : Nat → Heap → Prop} {l : List α} {oI : Obj} {fp : List Addr} {Q : Value → Shared → Prop}
    (hT : Shared.TypeIs { s with heap := s.heap.push (freshSet w) } x T) (h1 : isSubtype (.type T) (.type "set") = pure false) (h2 : isSubtype (.type T) (.type "frozenset") = pure false) (h3 : (Value.type T == Value.type "dict") = false)
    (hit : ∀ (E : Value → Shared → Prop) (Q : Value → Shared → Prop), Q (.ref (s.heap.objs.size + 1)) { s with heap := (s.heap.push (freshSet w)).push oI } → wpAny (model prog w) A.in1.in1 (pyIter x) Q E { s with heap := s.heap.push (freshSet w) })
    (W : Walks prog w A.in1.in1.in1 (s.heap.objs.size + 1) fp [s.heap.objs.size + 1] n P Sx) (hst : Sx 0 ((s.heap.push (freshSet w)).push oI)) (hfp : s.heap.objs.size ∉ fp) (hn : n = l.length)
    (hinv : ∀ h h' kl, Inv h kl → (∀ o, h.get? s.heap.objs.size = some o → h'.get? s.heap.objs.size = some o) → Inv h' kl)
    (hinv0 : Inv ((s.heap.push (freshSet w)).push oI) [])
    (hadd : ∀ i v x s₁ kl (Q : Bool → Shared → Prop) (E : Value → Shared → Prop), P i v → l[i]? = some x → Kept s.heap s₁.heap → Inv s₁.heap kl → (∀ q ∈ kl, q ∈ l) →
      (∀ c h' kl' tk, Heap.SameBut s.heap.objs.size s₁.heap h' → Inv h' kl' → (∀ q, q ∈ kl' ↔ q = x ∨ q ∈ kl) → s₁.toks ≤ tk → Q c { s₁ with heap := h', toks := tk }) → wpAny (model prog w) A.in1.in1.in1 (setAdd s.heap.objs.size v) Q E s₁)
    (h : ∀ h' tk kl, Kept s.heap h' → Inv h' kl → (∀ q, q ∈ kl ↔ q ∈ l) → Q (.ref s.heap.objs.size) { s with heap := h', toks := tk }) :
    wpAny (model prog w) A (call (.type "set") [x]) Q E s := by
  have none_ge : ∀ b, s.heap.objs.size ≤ b → s.heap.get? b = none := fun b hb => Heap.get?_none_of_le hb
  refine call_set_src (T := T) (Post := fun h' tk => Kept s.heap h' ∧ ∃ kl, Inv h' kl ∧ ∀ q, q ∈ kl ↔ q ∈ l) hT h1 h2 h3 (fun E' R hR => ?_) fun h' tk ⟨hk, kl, hI, hq⟩ => h h' tk kl hk hI hq
  refine hit _ _ ?_
  refine set_loop (n := n) Inv W.toS s.heap.objs.size hfp s.heap (none_ge _ (Nat.le_refl _)) (fun b hb => by rw [List.mem_singleton.mp hb]; exact none_ge _ (Nat.le_succ _)) l hn hinv hadd n 0 _ [] rfl (Nat.zero_le _) hst
    (fun b o e => Heap.get?_push_of_some _ (Heap.get?_push_of_some _ e)) hinv0 (fun q => by simp) fun s' kl' hm hI hq => ?_
  obtain ⟨h', g', d', tk', os'⟩ := s'
  have eg : g' = s.gens := hm.gens
  have ed : d' = s.drawn := hm.drawn
  have eo : os' = s.os := hm.os
  subst eg; subst ed; subst eo
  refine hR h' tk' ⟨fun b o e => hm.heap b o (fun hb => ?_) (Heap.get?_push_of_some _ (Heap.get?_push_of_some _ e)), kl', hI, hq⟩
  have hlt := Heap.lt_size e
  rcases List.mem_cons.mp hb with rfl | hb
  · exact Nat.lt_irrefl _ hlt
  · exact absurd ((List.mem_singleton.mp hb) ▸ hlt) (Nat.not_lt.mpr (Nat.le_succ _))

theorem fresh_tab : Lay (SetTable.fresh 0 0 (!(byTextOf w))) #[] [] ∧ Tab (SetTable.fresh 0 0 (!(byTextOf w))).mask [] :=
  ⟨⟨rfl, rfl, rfl⟩, ⟨.nil, fun e he => (nomatch he), fun e he => (nomatch he)⟩⟩
end

section
variable {prog : Program} {Γ : Pm} {g : PMap} {own : List Res} {s : Shared} {A : Around} {E : Value → Shared → Prop}

theorem typeIs_push {s : Shared} {a : Addr} {o ob : Obj} {T : String} (h : s.heap.get? a = some o) (hc : o.cls = .type T) : Shared.TypeIs { s with heap := s.heap.push ob } (.ref a) T :=
  ⟨o, Heap.get?_push_of_some _ h, hc⟩

theorem St.newSet {vs : List Value} {h' : Heap} {tk : Nat} (S : St Γ g own s) (hk : Kept s.heap h') (hv : SetVals Γ.w h' s.heap.objs.size vs) : St Γ g (rSetV Γ.w s.heap.objs.size vs :: own) { s with heap := h', toks := tk } :=
  S.cons hk rfl rfl hv fun b hb => Nat.le_of_eq (Eq.symm hb)

theorem q_set_keys {v : Value} {l U : List (Int × Int)} {Q : Value → Shared → Prop} (S : St Γ g own s) (hA : Room A 8) (hv : (rLst rKey).at' g v l) (hU : ∀ q ∈ l, q ∈ U) (hU2 : U.length ≤ 17)
    (h : ∀ a vs kl s', All2 (rKey.at' g) vs kl → kl.Nodup → (∀ q, q ∈ kl ↔ q ∈ l) → St Γ g (rSetV Γ.w a vs :: own) s' → Q (.ref a) s') :
    wpAny (model prog Γ.w) A (call (.type "set") [v]) Q E s := by
  obtain ⟨la, vs0, n0, rfl, hg, hr⟩ := hv
  have hl0 := isList_of S hg
  have hl1 : (s.heap.push (freshSet Γ.w)).IsList la vs0.toArray := hl0.push _
  have hlt : la < s.heap.objs.size := Heap.lt_size (S.keep _ _ hg)
  have hsz : (s.heap.push (freshSet Γ.w)).objs.size = s.heap.objs.size + 1 := Heap.size_push ..
  have hgetI : ((s.heap.push (freshSet Γ.w)).push { cls := .type "list_iterator", data := .fields #[.ref la, .int 0 0] }).get? (s.heap.objs.size + 1) = some { cls := .type "list_iterator", data := .fields #[.ref la, .int 0 0] } := by
    have := Heap.get?_push_size (s.heap.push (freshSet Γ.w)) (o := { cls := .type "list_iterator", data := .fields #[.ref la, .int 0 0] }) rfl
    rw [hsz] at this; exact this
  refine set_of_src (fp := [s.heap.objs.size + 1, la]) (T := "list") (n := vs0.toArray.size) (Sx := fun i h => h.IsListIter (s.heap.objs.size + 1) la i ∧ h.IsList la vs0.toArray) (oI := { cls := .type "list_iterator", data := .fields #[.ref la, .int 0 0] }) (l := l)
    (fun h kl => KSet prog Γ.w (rKey.at' g) (!(byTextOf Γ.w)) s.heap h s.heap.objs.size kl ∧ kl.Nodup)
    (typeIs_push (S.keep _ _ hg) rfl) sub_list_set' sub_list_fro (by decide) (fun E' Q' hq => ?_) (Walks.list (A := A.in1.in1.in1) hA.1 (s.heap.objs.size + 1) la (Nat.ne_of_lt (Nat.lt_succ_of_lt hlt)) vs0.toArray) ⟨⟨_, hgetI, rfl, rfl⟩, hl1.push _⟩ (by simp only [List.mem_cons, List.not_mem_nil, or_false, not_or]; exact ⟨Nat.ne_of_lt (Nat.lt_succ_self _), Nat.ne_of_gt hlt⟩) (by have := hr.length; simpa using this) ?_ ?_ ?_ ?_
  · refine wpAny_pyIter_list hl1 ?_
    show Q' (.ref (s.heap.push (freshSet Γ.w)).objs.size) _
    rw [hsz]; exact hq
  · rintro hh hh' kl ⟨⟨o, es, ep, t, L, ho, r⟩, hnd⟩ hk
    exact ⟨⟨o, es, ep, t, L, hk _ ho, r⟩, hnd⟩
  · obtain ⟨Y, T⟩ := fresh_tab (w := Γ.w)
    exact ⟨⟨_, #[], 0, _, [], Heap.get?_push_of_some _ (Heap.get?_push_size _ rfl), ⟨rfl, rfl, rfl⟩, rfl, Y, T, .inl rfl, (by show 0 < 7 * 3; decide), rfl, .nil⟩, List.nodup_nil⟩
  · rintro i v p s₁ kl Q' E' hP hlp hk ⟨hK, hnd⟩ hsub hq
    obtain ⟨v', hv', hvk⟩ := hr.get hlp
    have e : v = v' := by
      have : vs0[i]? = some v := by simpa using hP
      rw [this] at hv'; exact Option.some.inj hv'
    subst e
    obtain ⟨b, rfl, hb⟩ := key_of (prog := prog) (w := Γ.w) S.keep hvk
    have hu := hA.units
    unfold setAdd
    refine wpAny_holding (wpAny_bind (wpAny_pyHash_tuple (knd := scal prog Γ.w) (ks := kk p) (by show A.units + 1 + 1 + 1 < _; omega) (hb.up hk) ?_))
    have hlen : kl.length ≤ 17 := by
      have h1 : kl ⊆ U := fun q hq => hU q (hsub q hq)
      have := List.Nodup.length_le_of_subset hnd h1
      omega
    refine key_add (s := { s₁ with toks := _ }) hk hK hnd hlen hb hvk (by show A.units + 1 + 1 + 1 < _; omega) fun c h' kl' hsb hK' hnd' hmem => ?_
    exact hq c h' kl' _ hsb ⟨hK', hnd'⟩ hmem (Nat.le_add_right _ _)
  · rintro h' tk kl hk ⟨⟨o, es, ep, t, L, ho, hex, hd, Y, T, hm, hf, hled, hA2⟩, hnd⟩ hmem
    refine h _ (L.map (·.2.2)) kl _ ?_ hnd hmem (S.newSet hk ⟨o, es, ep, t, L, ho, hex, hd, Y, T, by omega, by omega, hled, rfl⟩)
    exact (hA2.imp (R' := fun e q => rKey.at' g e.2.2 q) fun e q ⟨_, _, _, _, hv⟩ => hv).mapL

theorem ints_core {x : Value} {T : String} {vs0 : List Value} {l : List Int} {Sx : Nat → Heap → Prop} {oI : Obj} {fp : List Addr} {Q : Value → Shared → Prop} (S : St Γ g own s) (hA : Room A 8) (hr : All2 (rInt.at' g) vs0 l) {U : List Int} (hU : ∀ q ∈ l, q ∈ U) (hU4 : U.length ≤ 4)
    (hT : Shared.TypeIs { s with heap := s.heap.push (freshSet Γ.w) } x T) (h1 : isSubtype (.type T) (.type "set") = pure false) (h2 : isSubtype (.type T) (.type "frozenset") = pure false) (h3 : (Value.type T == Value.type "dict") = false)
    (hit : ∀ (E : Value → Shared → Prop) (Q : Value → Shared → Prop), Q (.ref (s.heap.objs.size + 1)) { s with heap := (s.heap.push (freshSet Γ.w)).push oI } → wpAny (model prog Γ.w) A.in1.in1 (pyIter x) Q E { s with heap := s.heap.push (freshSet Γ.w) })
    (W : Walks prog Γ.w A.in1.in1.in1 (s.heap.objs.size + 1) fp [s.heap.objs.size + 1] vs0.toArray.size (fun i v => vs0.toArray[i]? = some v) Sx) (hst : Sx 0 ((s.heap.push (freshSet Γ.w)).push oI)) (hfp : s.heap.objs.size ∉ fp)
    (h : ∀ a vs kl s', All2 (rInt.at' g) vs kl → kl.Nodup → (∀ q, q ∈ kl ↔ q ∈ l) → St Γ g (rSetV Γ.w a vs :: own) s' → Q (.ref a) s') :
    wpAny (model prog Γ.w) A (call (.type "set") [x]) Q E s := by
  refine set_of_src (T := T) (oI := oI) (l := l) (fun h ns => ISet Γ.w h s.heap.objs.size ns) hT h1 h2 h3 hit W hst hfp (by have := hr.length; simpa using this) ?_ ?_ ?_ ?_
  · rintro hh hh' kl ⟨o, es, ep, t, L, ho, r⟩ hk
    exact ⟨o, es, ep, t, L, hk _ ho, r⟩
  · obtain ⟨Y, T⟩ := fresh_tab (w := Γ.w)
    exact ⟨_, #[], 0, _, [], Heap.get?_push_of_some _ (Heap.get?_push_size _ rfl), ⟨rfl, rfl, rfl⟩, rfl, Y, T, rfl, Nat.zero_le _, rfl, .nil, List.nodup_nil⟩
  · rintro i v p s₁ kl Q' E' hP hlp hk hK hsub hq
    obtain ⟨v', hv', t, hvk⟩ := hr.get hlp
    have e : v = v' := by
      have : vs0[i]? = some v := by simpa using hP
      rw [this] at hv'; exact Option.some.inj hv'
    subst e
    subst hvk
    unfold setAdd
    refine wpAny_holding (wpAny_bind (wpAny_pyHash_int ?_))
    have hlen' : p ∉ kl → kl.length ≤ 3 := fun hp => by
      obtain ⟨_, _, _, _, _, _, _, _, _, _, _, _, _, _, hnd⟩ := id hK
      have hnd' : (p :: kl).Nodup := List.nodup_cons.mpr ⟨hp, hnd⟩
      have := List.Nodup.length_le_of_subset (l₂ := U) hnd' (fun q hq => by
        rcases List.mem_cons.mp hq with rfl | hq
        · exact hU _ (List.mem_of_getElem? hlp)
        · exact hU q (hsub q hq))
      rw [List.length_cons] at this; omega
    refine int_add (s := { s₁ with toks := _ }) hK hlen' fun c h' kl' hsb hK' hmem => ?_
    exact hq c h' kl' _ hsb hK' hmem (Nat.le_succ _)
  · rintro h' tk kl hk ⟨o, es, ep, t, L, ho, hex, hd, Y, T, hm, h4, hled, hA2, hnd⟩ hmem
    refine h _ (L.map (·.2.2)) kl _ ?_ hnd hmem (S.newSet hk ⟨o, es, ep, t, L, ho, hex, hd, Y, T, by omega, by omega, hled, rfl⟩)
    exact (hA2.imp (R' := fun e q => rInt.at' g e.2.2 q) fun e q ⟨tk, e1, _⟩ => ⟨tk, e1⟩).mapL

theorem q_set_intsL {v : Value} {l : List Int} {Q : Value → Shared → Prop} (S : St Γ g own s) (hA : Room A 8) (hv : (rLst rInt).at' g v l) {U : List Int} (hU : ∀ q ∈ l, q ∈ U) (hU4 : U.length ≤ 4)
    (h : ∀ a vs kl s', All2 (rInt.at' g) vs kl → kl.Nodup → (∀ q, q ∈ kl ↔ q ∈ l) → St Γ g (rSetV Γ.w a vs :: own) s' → Q (.ref a) s') :
    wpAny (model prog Γ.w) A (call (.type "set") [v]) Q E s := by
  obtain ⟨la, vs0, n0, rfl, hg, hr⟩ := hv
  have hl1 : (s.heap.push (freshSet Γ.w)).IsList la vs0.toArray := (isList_of S hg).push _
  have hlt : la < s.heap.objs.size := Heap.lt_size (S.keep _ _ hg)
  have hsz : (s.heap.push (freshSet Γ.w)).objs.size = s.heap.objs.size + 1 := Heap.size_push ..
  have hgetI : ((s.heap.push (freshSet Γ.w)).push { cls := .type "list_iterator", data := .fields #[.ref la, .int 0 0] }).get? (s.heap.objs.size + 1) = some { cls := .type "list_iterator", data := .fields #[.ref la, .int 0 0] } := by
    have := Heap.get?_push_size (s.heap.push (freshSet Γ.w)) (o := { cls := .type "list_iterator", data := .fields #[.ref la, .int 0 0] }) rfl
    rw [hsz] at this; exact this
  refine ints_core (fp := [s.heap.objs.size + 1, la]) (T := "list") (Sx := fun i h => h.IsListIter (s.heap.objs.size + 1) la i ∧ h.IsList la vs0.toArray) (oI := { cls := .type "list_iterator", data := .fields #[.ref la, .int 0 0] }) S hA hr hU hU4 (typeIs_push (S.keep _ _ hg) rfl) sub_list_set' sub_list_fro (by decide) (fun E' Q' hq => ?_) (Walks.list (A := A.in1.in1.in1) hA.1 (s.heap.objs.size + 1) la (Nat.ne_of_lt (Nat.lt_succ_of_lt hlt)) vs0.toArray) ⟨⟨_, hgetI, rfl, rfl⟩, hl1.push _⟩ (by simp only [List.mem_cons, List.not_mem_nil, or_false, not_or]; exact ⟨Nat.ne_of_lt (Nat.lt_succ_self _), Nat.ne_of_gt hlt⟩) h
  · refine wpAny_pyIter_list hl1 ?_
    show Q' (.ref (s.heap.push (freshSet Γ.w)).objs.size) _
    rw [hsz]; exact hq
theorem q_set_intsT {v : Value} {l : List Int} {Q : Value → Shared → Prop} (S : St Γ g own s) (hA : Room A 8) (hv : (rTup rInt).at' g v l) {U : List Int} (hU : ∀ q ∈ l, q ∈ U) (hU4 : U.length ≤ 4)
    (h : ∀ a vs kl s', All2 (rInt.at' g) vs kl → kl.Nodup → (∀ q, q ∈ kl ↔ q ∈ l) → St Γ g (rSetV Γ.w a vs :: own) s' → Q (.ref a) s') :
    wpAny (model prog Γ.w) A (call (.type "set") [v]) Q E s := by
  obtain ⟨la, vs0, n0, rfl, hg, hr⟩ := hv
  have hl1 : (s.heap.push (freshSet Γ.w)).IsTuple la vs0.toArray := Heap.IsTuple.push (isTup_of S hg) _
  have hlt : la < s.heap.objs.size := Heap.lt_size (S.keep _ _ hg)
  have hsz : (s.heap.push (freshSet Γ.w)).objs.size = s.heap.objs.size + 1 := Heap.size_push ..
  have hgetI : ((s.heap.push (freshSet Γ.w)).push { cls := .type "tuple_iterator", data := .fields #[.ref la, .int 0 0] }).get? (s.heap.objs.size + 1) = some { cls := .type "tuple_iterator", data := .fields #[.ref la, .int 0 0] } := by
    have := Heap.get?_push_size (s.heap.push (freshSet Γ.w)) (o := { cls := .type "tuple_iterator", data := .fields #[.ref la, .int 0 0] }) rfl
    rw [hsz] at this; exact this
  refine ints_core (fp := [s.heap.objs.size + 1, la]) (T := "tuple") (Sx := fun i h => h.IsTupleIter (s.heap.objs.size + 1) la i ∧ h.IsTuple la vs0.toArray) (oI := { cls := .type "tuple_iterator", data := .fields #[.ref la, .int 0 0] }) S hA hr hU hU4 (typeIs_push (S.keep _ _ hg) rfl) sub_tup_set sub_tup_fro (by decide) (fun E' Q' hq => ?_) (Walks.tuple (A := A.in1.in1.in1) hA.1 (s.heap.objs.size + 1) la (Nat.ne_of_lt (Nat.lt_succ_of_lt hlt)) vs0.toArray) ⟨⟨_, hgetI, rfl, rfl⟩, hl1.push _⟩ (by simp only [List.mem_cons, List.not_mem_nil, or_false, not_or]; exact ⟨Nat.ne_of_lt (Nat.lt_succ_self _), Nat.ne_of_gt hlt⟩) h
  · refine wpAny_pyIter_tuple hl1 ?_
    show Q' (.ref (s.heap.push (freshSet Γ.w)).objs.size) _
    rw [hsz]; exact hq
end
end Mine
end

section
open PySem PySem.W PyProof.Rows PySem.Calls PySem.SetTable
set_option Elab.async false
set_option autoImplicit false
set_option maxRecDepth 100000
set_option linter.unusedVariables false
namespace Mine

theorem slot_setiter_next : Slot "set_iterator" "__next__" "set_iterator.__next__" :=
  .of (owner := "set_iterator") (n := "__next__") (by rw [typeLookup_type, builtinLookup_eq_fast]; kernel_rfl) (by decide +kernel) (by decide +kernel) (by decide +kernel)
    (by first | exact .inl (by decide +kernel) | exact .inr (by decide +kernel)) (by rw [isSubtype_type]; kernel_rfl)
theorem entry_setiter_next : entryFor table "set_iterator.__next__" = some Builtin.«set_iterator.__next__» := entryFor_of_tree (by kernel_rfl)
theorem owner_setiter : Manifest.owners.lookup (String.ofList ['r', 'o', 't', 'a', 'r', 'e', 't', 'i', '_', 't', 'e', 's'].reverse) = some Manifest.sig_set_iterator := by kernel_rfl
theorem args_setiter_next (a : Value) : argsOk "set_iterator.__next__" ⟨[a], []⟩ := by
  unfold argsOk; rw [signature?_of (id := "set_iterator.__next__") (n := ['_', '_', 't', 'x', 'e', 'n', '_', '_']) (o := ['r', 'o', 't', 'a', 'r', 'e', 't', 'i', '_', 't', 'e', 's']) (by kernel_rfl) owner_setiter]; kernel_rfl
theorem entry_set_iter : entryFor table "set.__iter__" = some Builtin.«frozenset.__iter__» :=
  entryFor_alias (id' := "frozenset.__iter__") (by kernel_rfl) rfl (by decide +kernel) (by kernel_rfl)

theorem erase_perm {α : Type} {l : List α} {i : Nat} (h : i < l.length) : (l[i] :: l.eraseIdx i).Perm l := by
  rw [List.eraseIdx_eq_take_drop_succ]
  refine List.perm_middle.symm.trans ?_
  rw [← List.drop_eq_getElem_cons h, List.take_append_drop]
section
variable {M : Model} {A : Around} {E : Value → Shared → Prop} {s : Shared}
theorem wpAny_choose' {src : Source} {n : Nat} {Q : Nat → Shared → Prop} (hn : n ≠ 0) (h : ∀ i, i < n → Q i { s with drawn := s.drawn.bump src }) : wpAny M A (choose src n) Q E s := fun Γ p _ => by
  show Sem.wp M Γ (.choose src n .pure) _ _ p s
  rw [Sem.wp_choose]
  exact ⟨hn, h _ (Nat.mod_lt _ (Nat.pos_of_ne_zero hn))⟩
theorem draw_order {α : Type} : ∀ (n : Nat) (xs : List α) (s : Shared) {Q : List α → Shared → Prop}, n = xs.length → (∀ ys s', ys.Perm xs → s'.heap = s.heap → s'.gens = s.gens → s'.os = s.os → s'.toks = s.toks → Q ys s') → wpAny M A (drawOrder n xs) Q E s
  | 0, xs, s, Q, hn, h => by
    have : xs = [] := List.length_eq_zero_iff.mp hn.symm
    subst this
    exact wpAny_pure (h [] s .nil rfl rfl rfl rfl)
  | n + 1, x :: xs, s, Q, hn, h => by
    unfold drawOrder
    refine wpAny_bind (wpAny_choose' (by simp) fun i hi => ?_)
    rw [List.getElem?_eq_getElem hi]
    dsimp only
    refine wpAny_bind (draw_order n ((x :: xs).eraseIdx i) _ (by rw [List.length_eraseIdx_of_lt hi]; simp at hn ⊢; omega) fun ys s' hp h1 h2 h3 h4 => ?_)
    refine wpAny_pure (h _ _ ?_ h1 h2 h3 h4)
    exact (hp.cons _).trans (erase_perm hi)
  | n + 1, [], s, Q, hn, h => by simp at hn
end

theorem pick_go {α : Type} (next : Nat → Nat) : ∀ (fuel k : Nat) (left : List α) (out : Array α), fuel = left.length → (pickOrder.go next fuel k left out).toList.Perm (out.toList ++ left)
  | 0, k, left, out, h => by
    have : left = [] := List.length_eq_zero_iff.mp h.symm
    subst this; unfold pickOrder.go; simp
  | fuel + 1, k, left, out, h => by
    unfold pickOrder.go
    have hlt : next k % left.length < left.length := Nat.mod_lt _ (by omega)
    rw [List.getElem?_eq_getElem hlt]
    dsimp only
    refine (pick_go next fuel (k + 1) _ _ (by rw [List.length_eraseIdx_of_lt hlt]; omega)).trans ?_
    rw [Array.toList_push, List.append_assoc]
    refine List.Perm.append_left _ ?_
    exact erase_perm hlt
theorem pick_perm {α : Type} (next : Nat → Nat) (xs : Array α) : (pickOrder next xs).toList.Perm xs.toList := by
  have := pick_go next xs.size 0 xs.toList #[] (by simp)
  simpa [pickOrder] using this

/-! collect of what is walked -/
section
variable {prog : Program} {w : World} {A : Around} {E : Value → Shared → Prop} {s : Shared}
def SameBase (s s' : Shared) : Prop := Kept s.heap s'.heap ∧ s'.gens = s.gens ∧ s'.os = s.os
theorem SameBase.refl (s : Shared) : SameBase s s := ⟨fun _ _ e => e, rfl, rfl⟩
theorem SameBase.trans {s s' s'' : Shared} (x : SameBase s s') (y : SameBase s' s'') : SameBase s s'' := ⟨fun b o e => y.1 b o (x.1 b o e), y.2.1.trans x.2.1, y.2.2.trans x.2.2⟩

theorem collect_src {x : Addr} {T : String} {n : Nat} {PP : (Nat → Value → Prop) → Prop} {Q : List Value → Shared → Prop} (hx : x < s.heap.objs.size)
    (hT : ∀ s' : Shared, Kept s.heap s'.heap → s'.TypeIs (.ref x) T) (hnl : (Value.type T == Value.type "list") = false) (hnt : (Value.type T == Value.type "tuple") = false)
    (hhint : ∀ (s' : Shared) (Q : Bool → Shared → Prop) (E : Value → Shared → Prop), Kept s.heap s'.heap → Q false s' → wpAny (model prog w) A.in1 (Builtin.List.listLengthHint (.ref x)) Q E s')
    (hit : ∀ (s₁ : Shared) (S : Addr) (Q : Value → Shared → Prop) (E : Value → Shared → Prop), Kept s.heap s₁.heap → s.heap.objs.size ≤ S → S < s₁.heap.objs.size →
      (∀ I fp wr P Sx s₂, Walks prog w A.in1 I fp wr n P Sx → PP P → Sx 0 s₂.heap → S ∉ fp → (∀ b ∈ wr, s₁.heap.get? b = none) → SameBase s₁ s₂ → Q (.ref I) s₂) → wpAny (model prog w) A.in1 (pyIter (.ref x)) Q E s₁)
    (h : ∀ s' acc P, SameBase s s' → PP P → ItemsOf P acc n → Q acc.toList s') (hn : n ≤ 1000) : wpAny (model prog w) A (collect (.ref x)) Q E s := by
  unfold collect
  refine wpAny_bind (wpAny_runValue (codeAny_builtin PySem.F.entry_proto_collect ?_))
  rw [Around.under_plainId PySem.F.plain_proto_collect _]
  show wpAny _ A.in1 (newList [] >>= fun l => again (.builtin "list.__iadd__" ⟨[l, .ref x], []⟩)) _ _ s
  refine wpAny_bind (wpAny_newObj_type ?_)
  refine wpAny_pure ⟨plainId_quiet PySem.F.plain_list_iadd _, codeAny_builtin PySem.F.entry_list_iadd ?_⟩
  rw [Around.under_plainId PySem.F.plain_list_iadd _]
  have hk0 : Kept s.heap (s.heap.push { cls := .type "list", data := .seq ([] : List Value).toArray }) := fun b o e => Heap.get?_push_of_some _ e
  have hS₁ : (s.heap.push { cls := .type "list", data := .seq ([] : List Value).toArray }).get? s.heap.objs.size = some { cls := .type "list", data := .seq ([] : List Value).toArray } := Heap.get?_push_size _ rfl
  generalize hs1 : s.heap.push { cls := .type "list", data := .seq ([] : List Value).toArray } = hp1 at *
  show wpAny _ A.in1 (Builtin.List.listExtendWith (.ref s.heap.objs.size) (.ref x) (.ref s.heap.objs.size)) _ _ _
  unfold Builtin.List.listExtendWith
  refine wpAny_bind (wpAny_typeOf (hT _ hk0) ?_)
  have h1 : Builtin.List.listSameRef (.ref s.heap.objs.size) (.ref x) = false := by simp [Builtin.List.listSameRef]; exact Nat.ne_of_gt hx
  simp only [h1, hnl, hnt, Bool.or_false, Bool.false_eq_true, if_false]
  refine wpAny_bind (hit _ s.heap.objs.size _ _ hk0 (Nat.le_refl _) (Heap.lt_size hS₁) fun I fp wr P Sx s₂ W hPP hst hSf hwr hsb => ?_)
  have hS₂ : s₂.heap.get? s.heap.objs.size = some { cls := .type "list", data := .seq ([] : List Value).toArray } := hsb.1 _ _ hS₁
  have hk2 : Kept s.heap s₂.heap := fun b o e => hsb.1 b o (hk0 b o e)
  have key : ∀ (s₃ : Shared) (c₁ : Nat), Sx 0 s₃.heap → (∀ b o, b ≠ s.heap.objs.size → s₂.heap.get? b = some o → s₃.heap.get? b = some o) → s₃.gens = s₂.gens → s₃.os = s₂.os →
      s₃.heap.get? s.heap.objs.size = some { cls := .type "list", data := .seq #[] c₁ } → codeAny (model prog w) A (.builtin "list.extend.loop" ⟨[.ref s.heap.objs.size, .ref I, .ref s.heap.objs.size], []⟩)
        (fun r s' => match r with
          | .ok (.ret v) => wpAny (model prog w) A (match v with
            | .ref a => do
              let o ← load a
              match o.data with
              | .seq xs _ => pure xs.toList
              | _ => unsupported "internal:collect"
            | _ => unsupported "internal:collect") Q E s'
          | .ok _ => False
          | .error e => E e s') s₃ := by
    intro s₃ c₁ hst₃ hk₃ hg₃ ho₃ hS₃
    refine codeAny_extend_loopS W.toS (by rw [sizeLine_eq]; omega) s.heap.objs.size hSf _ n 0 _ #[] c₁ rfl (Nat.zero_le _) hst₃ hS₃ (ItemsOf.nil _) fun s' acc' c' hm hS' hacc => ?_
    dsimp only
    refine wpAny_bind (wpAny_load hS' ?_)
    refine wpAny_pure (h s' acc' P ⟨fun b o e => ?_, ?_, ?_⟩ hPP hacc)
    · have hb : b ≠ s.heap.objs.size := Nat.ne_of_lt (Heap.lt_size e)
      refine hm.heap b o (fun hmem => ?_) (hk₃ b o hb (hk2 b o e))
      rcases List.mem_cons.mp hmem with e' | hmem
      · exact hb e'
      · have := hwr b hmem
        rw [hk0 b o e] at this; cases this
    · exact (show s'.gens = s₃.gens from hm.gens).trans (hg₃.trans hsb.2.1)
    · exact hm.os.trans (ho₃.trans hsb.2.2)
  refine wpAny_bind (wpAny_holding (hhint _ _ _ hk2 ?_))
  refine wpAny_ite_split (fun _ => ?_) (fun _ => wpAny_pure ⟨plainId_quiet PySem.F.plain_extend_loop _, key _ 0 hst (fun b o _ e => e) rfl rfl hS₂⟩)
  refine wpAny_bind (wpAny_rule ?_)
  refine wpAny_bind ?_
  show wpAny _ _ (updateSeq s.heap.objs.size (·.push .none) >>= fun _ => updateSeq s.heap.objs.size (·.pop)) _ _ _
  refine wpAny_bind (wpAny_updateSeq hS₂ rfl ?_)
  have hS₃ := Heap.get?_update_self (Obj.mapSeq (·.push Value.none)) hS₂ rfl
  refine wpAny_updateSeq (hz := by seq_fits) hS₃ rfl ?_
  have hS₄ := Heap.get?_update_self (Obj.mapSeq (·.pop)) hS₃ rfl
  refine wpAny_pure ⟨plainId_quiet PySem.F.plain_extend_loop _, key _ _ ?_ (fun b o hb e => ?_) rfl rfl hS₄⟩
  · refine W.frame 0 _ _ hst fun b hb o e => ?_
    have hbS : b ≠ s.heap.objs.size := fun h => hSf (h ▸ hb)
    exact (Heap.get?_update_other _ _ (Ne.symm hbS)).trans ((Heap.get?_update_other _ _ (Ne.symm hbS)).trans e)
  · exact (Heap.get?_update_other _ _ (Ne.symm hb)).trans ((Heap.get?_update_other _ _ (Ne.symm hb)).trans e)
end
end Mine
end

section
open PySem PySem.W PyProof.Rows PySem.Calls PySem.SetTable
set_option Elab.async false
set_option autoImplicit false
set_option maxRecDepth 100000
set_option linter.unusedVariables false
namespace Mine

def SIt (h : Heap) (I a : Addr) (first : Value) (i n ep : Nat) : Prop :=
  ∃ o, h.get? I = some o ∧ o.cls = .type "set_iterator" ∧ o.data = .fields #[first, .int i 0, .ref a, .int n 0, .int ep 0]
theorem SIt.typeIs {s : Shared} {I a : Addr} {first : Value} {i n ep : Nat} (x : SIt s.heap I a first i n ep) : s.TypeIs (.ref I) "set_iterator" := let ⟨o, ho, hc, _⟩ := x; ⟨o, ho, hc⟩
def SAt (h : Heap) (a : Addr) (es : Array (Int × Value)) (ep : Nat) (t : SetTable) : Prop := ∃ o, h.get? a = some o ∧ o.cls = .type "set" ∧ o.data = .set es ep t
theorem SAt.typeIs {s : Shared} {a : Addr} {es : Array (Int × Value)} {ep : Nat} {t : SetTable} (x : SAt s.heap a es ep t) : s.TypeIs (.ref a) "set" := let ⟨o, ho, hc, _⟩ := x; ⟨o, ho, hc⟩

section
variable {prog : Program} {w : World} {A : Around} {E : Value → Shared → Prop} {s : Shared}
abbrev drawnOf (es : Array (Int × Value)) (t : SetTable) : Bool := !t.plain && decide (es.size > 1)
theorem byText_rule {Q : Bool → Shared → Prop} (h : Q (byTextOf w) s) : wpAny (model prog w) A setsByText Q E s := by
  unfold setsByText
  exact wpAny_bind (wpAny_askSetting (wpAny_pure h))
theorem setDrawn_rule {a : Addr} {es : Array (Int × Value)} {ep : Nat} {t : SetTable} {Q : Bool → Shared → Prop} (hS : SAt s.heap a es ep t) (hf : t.fits es.size = true) (h : Q (!(byTextOf w) && drawnOf es t) s) : wpAny (model prog w) A (setDrawn a) Q E s := by
  obtain ⟨o, ho, _, hd⟩ := hS
  unfold setDrawn
  refine wpAny_bind (wpAny_setState_of ho hd hf ?_)
  dsimp only
  exact wpAny_bind (byText_rule (wpAny_pure h))

theorem sit_set {I a : Addr} {first : Value} {i n ep : Nat} {Q : Unit → Shared → Prop} (hit : SIt s.heap I a first i n ep) (x : Value) (k : Nat) (hk : k < 5)
    (h : ∀ h', (∃ o, h'.get? I = some o ∧ o.cls = .type "set_iterator" ∧ o.data = .fields (#[first, .int i 0, .ref a, .int n 0, .int ep 0].setIfInBounds k x)) → Heap.SameBut I s.heap h' → Q () { s with heap := h' }) :
    wpAny (model prog w) A (setField (.ref I) k x) Q E s := by
  obtain ⟨o, ho, hc, hd⟩ := hit
  refine wpAny_setField ho hd (by simpa using hk) (h _ ⟨_, Heap.get?_update_self _ ho (Obj.isFreed_of_fields (Obj.data_mapFields hd _)), (Obj.cls_mapFields ..).trans hc, by rw [Obj.data_mapFields hd]⟩ (Heap.SameBut.update ..))

/-- one turn of the iterator: what stands before the parting of the ways -/
theorem sit_next {I a : Addr} {first : Value} {i n ep : Nat} {es : Array (Int × Value)} {t : SetTable} {Q : Option Value → Shared → Prop} (hit : SIt s.heap I a first i n ep) (hS : SAt s.heap a es ep t) (hf : t.fits es.size = true) (hn : es.size = n)
    (h : ∀ (E' : Value → Shared → Prop), (∀ e s', s'.TypeIs (.ref e) "StopIteration" → Q none s' → E' (.ref e) s') → wpAny (model prog w) A.in1 (do
      if let .int slot _ := first then
        match ← setNext a slot.toNat i ep with
        | some (x, next) =>
          setField (.ref I) 0 (rawInt next)
          setField (.ref I) 1 (rawInt (i + 1))
          ret x
        | none => setField (.ref I) 2 .none; raiseNew (← newExc (.type "StopIteration") [])
      else
        let some places ← seqItems? first | unsupported "internal:set_iterator"
        match places[i]? with
        | some (.int place _) =>
          let x ← setNextDrawn a place.toNat ep
          setField (.ref I) 1 (rawInt (i + 1))
          ret x
        | some _ => unsupported "internal:set_iterator"
        | none => setField (.ref I) 0 (rawInt 0); setField (.ref I) 2 .none; raiseNew (← newExc (.type "StopIteration") []))
      (fun fin s' => ∃ r, fin = .done (.ret r) ∧ Q (some r) s') E' s) :
    wpAny (model prog w) A (pyNext (.ref I)) Q E s := by
  have hT := hit.typeIs
  obtain ⟨o, ho, hc, hd⟩ := id hit
  obtain ⟨oS, hoS, hcS, hdS⟩ := hS
  unfold pyNext
  refine wpAny_bind (wpAny_attempt (wpAny_callSpecial?_slot (name := Str.ofString "__next__") hT slot_setiter_next
    (wpAny_call_entry slot_setiter_next hT entry_setiter_next ?_ (args_setiter_next _))))
  unfold Builtin.«set_iterator.__next__»
  refine wpAny_bind (wpAny_pure ?_)
  refine wpAny_bind (wpAny_fieldsOf ho hd ?_)
  dsimp only
  refine wpAny_bind ?_
  unfold setEntries
  refine wpAny_bind (wpAny_setState_of hoS hdS hf (wpAny_pure ?_))
  rw [if_neg (by simp [hn])]
  refine wpAny_mono (h (fun e s' => wpAny (model prog w) A (do if (← isInstance e (.type "StopIteration")) = true then pure none else throw e) Q E s') fun e s' hT' hq => ?_) (fun fin s' ⟨r, e1, e2⟩ => ⟨r, e1, wpAny_pure e2⟩) fun e s' he => he
  exact wpAny_bind (wpAny_isInstance (T := "StopIteration") (b := true) hT' isSubtype_stop (wpAny_pure hq))

theorem raise_stop {P : PySem.Fin → Shared → Prop} {Q : Option Value → Shared → Prop} {E' : Value → Shared → Prop} (hh : A.handled = none) (hE : ∀ e s', s'.TypeIs (.ref e) "StopIteration" → Q none s' → E' (.ref e) s')
    (hQ : ∀ h', (∀ b o, s.heap.get? b = some o → h'.get? b = some o) → Q none { s with heap := h' }) : wpAny (model prog w) A (do raiseNew (← newExc (.type "StopIteration") [])) P E' s := by
  refine wpAny_bind ?_
  simp only [newExc, newTuple]
  refine wpAny_bind (wpAny_newObj_type ?_ (by size_fits))
  refine wpAny_bind (m := firstArgMember _ _) (wpAny_of_eq (a := Value.none) (by first | rfl | (simp only [firstArgMember]; rfl)) ?_)
  refine wpAny_newObj_type ?_ (by size_fits)
  simp only [raiseNew]
  refine wpAny_bind (wpAny_handled ?_)
  rw [hh]
  refine wpAny_bind (wpAny_pure (wpAny_throw ?_))
  refine hE _ _ ⟨_, Heap.get?_push_size _ rfl, rfl⟩ (hQ _ fun b o e => Heap.get?_push_of_some _ (Heap.get?_push_of_some _ e))

theorem SIt.ext {h h' : Heap} {I a : Addr} {first : Value} {i n ep : Nat} (x : SIt h I a first i n ep) (e : ∀ o, h.get? I = some o → h'.get? I = some o) : SIt h' I a first i n ep := let ⟨o, ho, r⟩ := x; ⟨o, e _ ho, r⟩
theorem SAt.ext {h h' : Heap} {a : Addr} {es : Array (Int × Value)} {ep : Nat} {t : SetTable} (x : SAt h a es ep t) (e : ∀ o, h.get? a = some o → h'.get? a = some o) : SAt h' a es ep t := let ⟨o, ho, r⟩ := x; ⟨o, e _ ho, r⟩
theorem entry_setiter_iter : entryFor table "set_iterator.__iter__" = some Builtin.«dict_keyiterator.__iter__» :=
  entryFor_alias (id' := "dict_keyiterator.__iter__") (by kernel_rfl) rfl (by decide +kernel) (by kernel_rfl)
theorem slot_setiter_iter : Slot "set_iterator" "__iter__" "set_iterator.__iter__" :=
  .of (owner := "set_iterator") (n := "__iter__") (by rw [typeLookup_type, builtinLookup_eq_fast]; kernel_rfl) (by decide +kernel) (by decide +kernel) (by decide +kernel)
    (by first | exact .inl (by decide +kernel) | exact .inr (by decide +kernel)) (by rw [isSubtype_type]; kernel_rfl)
theorem args_setiter_iter (a : Value) : argsOk "set_iterator.__iter__" ⟨[a], []⟩ := by
  unfold argsOk; rw [signature?_of (id := "set_iterator.__iter__") (n := ['_', '_', 'r', 'e', 't', 'i', '_', '_']) (o := ['r', 'o', 't', 'a', 'r', 'e', 't', 'i', '_', 't', 'e', 's']) (by kernel_rfl) owner_setiter]; kernel_rfl
theorem sit_self {I a : Addr} {first : Value} {i n ep : Nat} {Q : Value → Shared → Prop} (hit : SIt s.heap I a first i n ep) (h : Q (.ref I) s) : wpAny (model prog w) A (pyIter (.ref I)) Q E s := by
  refine wpAny_pyIter_slot hit.typeIs slot_setiter_iter (wpAny_call_entry slot_setiter_iter hit.typeIs entry_setiter_iter ?_ (args_setiter_iter _))
  show wpAny _ _ (ret (.ref I)) _ _ s
  exact wpAny_pure ⟨_, rfl, "set_iterator", _, hit.typeIs, slot_setiter_next.lookup, h⟩

/-- drawn: the places stand in a tuple -/
theorem walks_drawn (hh : A.handled = none) (I a T : Addr) (ha : a ≠ I) (hT : T ≠ I) (es : Array (Int × Value)) (ep : Nat) (t : SetTable) (hf : t.fits es.size = true) (ys : List Nat) (hys : ys.Perm (List.range es.size)) :
    Walks prog w A I [I, a, T] [I] es.size (fun i v => ∃ p e, ys[i]? = some p ∧ es[p]? = some e ∧ v = e.2)
      (fun i h => SIt h I a (.ref T) i es.size ep ∧ SAt h a es ep t ∧ IsTup h T (ys.map fun (p : Nat) => rawInt p).toArray) where
  sub := fun b hb => by simp at hb; simp [hb]
  frame := fun _ _ _ st hk => ⟨st.1.ext fun o e => hk I (by simp) o e, st.2.1.ext fun o e => hk a (by simp) o e, let ⟨o, ho, r⟩ := st.2.2; ⟨o, hk T (by simp) o ho, r⟩⟩
  item := fun i s Q E hi st hQ => by
    have hlen : ys.length = es.size := by rw [hys.length_eq]; simp
    obtain ⟨p, hp⟩ : ∃ p, ys[i]? = some p := ⟨ys[i]'(by omega), List.getElem?_eq_getElem _⟩
    have hpl : p < es.size := List.mem_range.mp (hys.mem_iff.mp (List.mem_of_getElem? hp))
    obtain ⟨oT, hoT, _, nT, hdT⟩ := st.2.2
    obtain ⟨oS, hoS, hcS, hdS⟩ := id st.2.1
    refine sit_next st.1 st.2.1 hf rfl fun E' hE => ?_
    dsimp only
    refine wpAny_bind (wpAny_seqItems hoT hdT ?_)
    dsimp only
    have hpl2 : ((ys.map fun (p : Nat) => rawInt p).toArray)[i]? = some (.int p 0) := by
      simp [hp, rawInt]
    rw [hpl2]
    dsimp only
    refine wpAny_bind ?_
    unfold setNextDrawn
    refine wpAny_bind (wpAny_setState_of hoS hdS hf ?_)
    dsimp only
    rw [if_neg (by simp)]
    rw [Int.toNat_natCast, Array.getElem?_eq_getElem hpl]
    dsimp only
    refine wpAny_pure ?_
    refine wpAny_bind (sit_set st.1 _ 1 (by decide) fun h' hI hs => ?_)
    refine wpAny_pure ⟨_, rfl, hQ _ h' s.toks ⟨p, _, hp, Array.getElem?_eq_getElem hpl, rfl⟩ ⟨?_, st.2.1.ext fun o e => hs.extBut a o ha e, ⟨oT, hs.extBut T oT hT hoT, ‹_›, nT, hdT⟩⟩ fun b o hb e => hs.extBut b o (fun q => hb (by simp [q])) e⟩
    obtain ⟨o, ho, hc, hd⟩ := hI
    exact ⟨o, ho, hc, by rw [hd]; simp [rawInt]⟩
  done := fun s Q E st hQ => by
    have hlen : ys.length = es.size := by rw [hys.length_eq]; simp
    obtain ⟨oT, hoT, _, nT, hdT⟩ := st.2.2
    refine sit_next st.1 st.2.1 hf rfl fun E' hE => ?_
    dsimp only
    refine wpAny_bind (wpAny_seqItems hoT hdT ?_)
    dsimp only
    have hpl2 : ((ys.map fun (p : Nat) => rawInt p).toArray)[es.size]? = none := by
      simp [hlen]
    rw [hpl2]
    dsimp only
    refine wpAny_bind (sit_set st.1 _ 0 (by decide) fun h' hI hs => ?_)
    obtain ⟨o, ho, hc, hd⟩ := hI
    have hit2 : SIt h' I a (rawInt 0) es.size es.size ep := ⟨o, ho, hc, by rw [hd]; simp⟩
    refine wpAny_bind (sit_set (s := { s with heap := h' }) hit2 _ 2 (by decide) fun h'' _ hs' => ?_)
    refine raise_stop (s := { s with heap := h'' }) (A := A.in1) hh hE fun h3 hk => ?_
    exact hQ h3 s.toks fun b o hb e => hk b o (hs'.extBut b o (fun q => hb (by simp [q])) (hs.extBut b o (fun q => hb (by simp [q])) e))
  self := fun _ _ _ _ st hQ => sit_self st.1 hQ
end
end Mine
end

section
open PySem PySem.W PyProof.Rows PySem.Calls PySem.SetTable
set_option Elab.async false
set_option autoImplicit false
set_option maxRecDepth 100000
set_option linter.unusedVariables false
namespace Mine
section
variable {prog : Program} {w : World} {A : Around} {E : Value → Shared → Prop} {s : Shared}

theorem below_L {t : SetTable} {es : Array (Int × Value)} {L : List Ent} {m : Nat} (Y : Lay t es L) (T : Tab m L) {i : Nat} (hi : i ≤ L.length) :
    below t.place (if i = 0 then 0 else (L.getD (i - 1) (0, 0, .none)).1 + 1) = i := by
  obtain ⟨h1, h2, h3⟩ := below_spec (Y.ris T) (if i = 0 then 0 else (L.getD (i - 1) (0, 0, .none)).1 + 1)
  generalize hb : below t.place (if i = 0 then 0 else (L.getD (i - 1) (0, 0, .none)).1 + 1) = b at *
  rw [Y.size] at h1 h3
  by_cases h0 : i = 0
  · subst h0
    rw [if_pos rfl] at h2
    rcases Nat.eq_zero_or_pos b with q | q
    · exact q
    · exact absurd (h2 0 q) (Nat.not_lt_zero _)
  · rw [if_neg h0] at h2 h3
    have hi1 : i - 1 < L.length := by omega
    have e : L.getD (i - 1) (0, 0, .none) = L[i - 1] := by simp [List.getD, hi1]
    rw [e] at h2 h3
    rcases Nat.lt_trichotomy b i with q | q | q
    · have := h3 (i - 1) (by omega) hi1
      rw [Y.getD hi1] at this; omega
    · exact q
    · have hil : i < L.length := by omega
      have h4 := h2 i q
      rw [Y.getD hil] at h4
      have h5 := List.pairwise_iff_getElem.mp T.ris (i - 1) i hi1 hil (by omega)
      omega

/-- neither drawn nor by text: the places in a row -/
theorem walks_plain (hh : A.handled = none) (I a : Addr) (ha : a ≠ I) (es : Array (Int × Value)) (ep : Nat) (t : SetTable) (L : List Ent) (Y : Lay t es L) (T : Tab t.mask L) (hL : L.length ≤ t.mask) (hbt : byTextOf w = false) (hdr : drawnOf es t = false) (hled : t.led = true) :
    Walks prog w A I [I, a] [I] es.size (fun i v => ∃ e, es[i]? = some e ∧ v = e.2)
      (fun i h => SIt h I a (.int (if i = 0 then 0 else (L.getD (i - 1) (0, 0, .none)).1 + 1 : Nat) 0) i es.size ep ∧ SAt h a es ep t) where
  sub := fun b hb => by simp at hb; simp [hb]
  frame := fun _ _ _ st hk => ⟨st.1.ext fun o e => hk I (by simp) o e, st.2.ext fun o e => hk a (by simp) o e⟩
  item := fun i s Q E hi st hQ => by
    have hf := Y.fits hL
    have hsz := Y.size'
    obtain ⟨oS, hoS, hcS, hdS⟩ := id st.2
    refine sit_next st.1 st.2 hf rfl fun E' hE => ?_
    dsimp only
    refine wpAny_bind ?_
    unfold setNext
    refine wpAny_bind (wpAny_setState_of hoS hdS hf ?_)
    dsimp only
    refine wpAny_bind (byText_rule ?_)
    rw [hbt]
    simp only [Bool.false_eq_true, if_false]
    refine wpAny_ite_split (fun hq => ?_) (fun _ => ?_)
    · have := (show drawnOf es t = true from hq)
      rw [hdr] at this; cases this
    refine wpAny_bind ?_
    show wpAny _ _ (if (!t.led && !es.isEmpty) = true then unsupported "set:maker-not-led" else pure ()) _ _ _
    rw [hled]
    simp only [Bool.not_true, Bool.false_and, Bool.false_eq_true, if_false]
    refine wpAny_pure ?_
    rw [Int.toNat_natCast, below_L Y T (by omega)]
    have hpl : t.place[i]? = some (L[i]'(by omega)).1 := by
      rw [← Array.getElem?_toList, Y.place, List.getElem?_map, List.getElem?_eq_getElem (by omega)]; rfl
    rw [Array.getElem?_eq_getElem hi, hpl]
    refine wpAny_pure ?_
    dsimp only
    refine wpAny_bind (sit_set st.1 _ 0 (by decide) fun h' hI hs => ?_)
    obtain ⟨o, ho, hc, hd⟩ := hI
    have hit2 : SIt h' I a (rawInt ((L[i]'(by omega)).1 + 1 : Nat)) i es.size ep := ⟨o, ho, hc, by rw [hd]; simp⟩
    refine wpAny_bind (sit_set (s := { s with heap := h' }) hit2 _ 1 (by decide) fun h'' hI' hs' => ?_)
    refine wpAny_pure ⟨_, rfl, hQ _ h'' s.toks ⟨_, Array.getElem?_eq_getElem hi, rfl⟩ ⟨?_, st.2.ext fun o e => hs'.extBut a o ha (hs.extBut a o ha e)⟩ fun b o hb e => hs'.extBut b o (fun q => hb (by simp [q])) (hs.extBut b o (fun q => hb (by simp [q])) e)⟩
    obtain ⟨o', ho', hc', hd'⟩ := hI'
    refine ⟨o', ho', hc', ?_⟩
    rw [hd']
    have : i < L.length := by omega
    simp [rawInt, List.getD, this]
  done := fun s Q E st hQ => by
    have hf := Y.fits hL
    have hsz := Y.size'
    obtain ⟨oS, hoS, hcS, hdS⟩ := id st.2
    refine sit_next st.1 st.2 hf rfl fun E' hE => ?_
    dsimp only
    refine wpAny_bind ?_
    unfold setNext
    refine wpAny_bind (wpAny_setState_of hoS hdS hf ?_)
    dsimp only
    refine wpAny_bind (byText_rule ?_)
    rw [hbt]
    simp only [Bool.false_eq_true, if_false]
    refine wpAny_ite_split (fun hq => ?_) (fun _ => ?_)
    · have := (show drawnOf es t = true from hq)
      rw [hdr] at this; cases this
    refine wpAny_bind ?_
    show wpAny _ _ (if (!t.led && !es.isEmpty) = true then unsupported "set:maker-not-led" else pure ()) _ _ _
    rw [hled]
    simp only [Bool.not_true, Bool.false_and, Bool.false_eq_true, if_false]
    refine wpAny_pure ?_
    rw [Int.toNat_natCast, below_L Y T (by omega)]
    rw [Array.getElem?_eq_none (Nat.le_refl _)]
    refine wpAny_pure ?_
    dsimp only
    refine wpAny_bind (sit_set st.1 _ 2 (by decide) fun h' hI hs => ?_)
    refine raise_stop (s := { s with heap := h' }) (A := A.in1) hh hE fun h3 hk => ?_
    exact hQ h3 s.toks fun b o hb e => hk b o (hs.extBut b o (fun q => hb (by simp [q])) e)
  self := fun _ _ _ _ st hQ => sit_self st.1 hQ

/-- by text -/
theorem walks_text (hh : A.handled = none) (I a : Addr) (ha : a ≠ I) (es : Array (Int × Value)) (ep : Nat) (t : SetTable) (hf : t.fits es.size = true) (hbt : byTextOf w = true) :
    Walks prog w A I [I, a] [I] es.size (fun i v => ∃ e, (pickOrder (w.params.setOrder a ep) es)[i]? = some e ∧ v = e.2)
      (fun i h => SIt h I a (rawInt 0) i es.size ep ∧ SAt h a es ep t) where
  sub := fun b hb => by simp at hb; simp [hb]
  frame := fun _ _ _ st hk => ⟨st.1.ext fun o e => hk I (by simp) o e, st.2.ext fun o e => hk a (by simp) o e⟩
  item := fun i s Q E hi st hQ => by
    have hsz : (pickOrder (w.params.setOrder a ep) es).size = es.size := by have := (pick_perm (w.params.setOrder a ep) es).length_eq; simpa using this
    obtain ⟨oS, hoS, hcS, hdS⟩ := id st.2
    refine sit_next st.1 st.2 hf rfl fun E' hE => ?_
    dsimp only [rawInt]
    refine wpAny_bind ?_
    unfold setNext
    refine wpAny_bind (wpAny_setState_of hoS hdS hf ?_)
    dsimp only
    refine wpAny_bind (byText_rule ?_)
    rw [hbt]
    simp only [if_true]
    rw [if_neg (by simp)]
    refine wpAny_bind ?_
    unfold setWalk
    refine wpAny_bind (wpAny_setState_of hoS hdS hf ?_)
    dsimp only
    refine wpAny_bind (byText_rule ?_)
    rw [hbt]
    simp only [if_true]
    refine wpAny_bind (wpAny_askSetting (wpAny_pure ?_))
    show wpAny _ _ (pure (((pickOrder (w.params.setOrder a ep) es)[i]?).map fun e => (e.2, (0 : Int).toNat))) _ _ _
    rw [Array.getElem?_eq_getElem (by rw [hsz]; exact hi)]
    refine wpAny_pure ?_
    simp only [Option.map_some]
    refine wpAny_bind (sit_set st.1 _ 0 (by decide) fun h' hI hs => ?_)
    obtain ⟨o, ho, hc, hd⟩ := hI
    have hit2 : SIt h' I a (rawInt 0) i es.size ep := ⟨o, ho, hc, by rw [hd]; simp [rawInt]⟩
    refine wpAny_bind (sit_set (s := { s with heap := h' }) hit2 _ 1 (by decide) fun h'' hI' hs' => ?_)
    refine wpAny_pure ⟨_, rfl, hQ _ h'' s.toks ⟨_, Array.getElem?_eq_getElem (by rw [hsz]; exact hi), rfl⟩ ⟨?_, st.2.ext fun o e => hs'.extBut a o ha (hs.extBut a o ha e)⟩ fun b o hb e => hs'.extBut b o (fun q => hb (by simp [q])) (hs.extBut b o (fun q => hb (by simp [q])) e)⟩
    obtain ⟨o', ho', hc', hd'⟩ := hI'
    exact ⟨o', ho', hc', by rw [hd']; simp [rawInt]⟩
  done := fun s Q E st hQ => by
    have hsz : (pickOrder (w.params.setOrder a ep) es).size = es.size := by have := (pick_perm (w.params.setOrder a ep) es).length_eq; simpa using this
    obtain ⟨oS, hoS, hcS, hdS⟩ := id st.2
    refine sit_next st.1 st.2 hf rfl fun E' hE => ?_
    dsimp only [rawInt]
    refine wpAny_bind ?_
    unfold setNext
    refine wpAny_bind (wpAny_setState_of hoS hdS hf ?_)
    dsimp only
    refine wpAny_bind (byText_rule ?_)
    rw [hbt]
    simp only [if_true]
    rw [if_neg (by simp)]
    refine wpAny_bind ?_
    unfold setWalk
    refine wpAny_bind (wpAny_setState_of hoS hdS hf ?_)
    dsimp only
    refine wpAny_bind (byText_rule ?_)
    rw [hbt]
    simp only [if_true]
    refine wpAny_bind (wpAny_askSetting (wpAny_pure ?_))
    show wpAny _ _ (pure (((pickOrder (w.params.setOrder a ep) es)[es.size]?).map fun e => (e.2, (0 : Int).toNat))) _ _ _
    rw [Array.getElem?_eq_none (by rw [hsz]; exact Nat.le_refl _)]
    refine wpAny_pure ?_
    simp only [Option.map_none]
    refine wpAny_bind (sit_set st.1 _ 2 (by decide) fun h' hI hs => ?_)
    refine raise_stop (s := { s with heap := h' }) (A := A.in1) hh hE fun h3 hk => ?_
    exact hQ h3 s.toks fun b o hb e => hk b o (hs.extBut b o (fun q => hb (by simp [q])) e)
  self := fun _ _ _ _ st hQ => sit_self st.1 hQ
end
end Mine
end

section
open PySem PySem.W PyProof.Rows PySem.Calls PySem.SetTable
set_option Elab.async false
set_option autoImplicit false
set_option maxRecDepth 100000
set_option linter.unusedVariables false
namespace Mine
section
variable {prog : Program} {w : World} {A : Around} {E : Value → Shared → Prop} {s : Shared}

theorem hint_set {r : Addr} {Q : Bool → Shared → Prop} (hT : s.TypeIs (.ref r) "set") (h : Q false s) : wpAny (model prog w) A (Builtin.List.listLengthHint (.ref r)) Q E s := by
  unfold Builtin.List.listLengthHint
  refine wpAny_bind (wpAny_specialOf hT PySem.F.slot_set_len.lookup ?_)
  generalize hid : ("set.__len__" : String) = id0
  wp_delta
  rw [show splitId id0 = some ("set", "__len__") from by subst hid; decide +kernel]
  subst hid
  refine wpAny_bind (wpAny_isInstance (T := "set") (b := true) hT sub_set_self ?_)
  refine wpAny_ite_split (fun hab => absurd hab (by decide)) (fun _ => ?_)
  refine wpAny_ite_split (fun _ => ?_) (fun hab => absurd (by decide +kernel) hab)
  refine wpAny_bind (wpAny_typeOf hT ?_)
  exact wpAny_pure h

theorem items_eq {P : Nat → Value → Prop} {acc : Array Value} {n : Nat} {ys : List Value} (h : ItemsOf P acc n) (hn : n = ys.length) (hP : ∀ i v, P i v → ys[i]? = some v) : acc.toList = ys := by
  apply List.ext_getElem?
  intro i
  rcases Nat.lt_or_ge i n with hlt | hge
  · have hi : i < acc.size := by rw [h.1]; exact hlt
    have h1 : acc[i]? = some acc[i] := Array.getElem?_eq_getElem hi
    rw [hP i _ (h.2 i _ h1), Array.getElem?_toList]; exact h1
  · rw [List.getElem?_eq_none (by rw [Array.length_toList, h.1]; exact hge), List.getElem?_eq_none (by omega)]

theorem new_at (h : Heap) (o : Obj) (hf : o.isFreed = false := by rfl) : (h.push o).get? h.objs.size = some o := Heap.get?_push_size _ hf

theorem collect_set {a : Addr} {vs : List Value} {Q : List Value → Shared → Prop} (hh : A.handled = none) (hS : SetVals w s.heap a vs) (h : ∀ ys s', ys.Perm vs → SameBase s s' → Q ys s') :
    wpAny (model prog w) A (collect (.ref a)) Q E s := by
  obtain ⟨o, es, ep, t, L, ho, hex, hd, Y, T, hL, hL2, hled, rfl⟩ := hS
  have hf := Y.fits hL
  have hsz := Y.size'
  have hat : ∀ s' : Shared, Kept s.heap s'.heap → SAt s'.heap a es ep t := fun s' hk => ⟨o, hk _ _ ho, hex.1, hd⟩
  have hvs : es.toList.map (·.2) = L.map (·.2.2) := by rw [Y.ents, List.map_map]; rfl
  refine collect_src (T := "set") (n := es.size) (PP := fun P => ∃ ys : List Value, ys.Perm (L.map (·.2.2)) ∧ ∀ i v, P i v → ys[i]? = some v) (Heap.lt_size ho) (fun s' hk => (hat s' hk).typeIs) (by decide) (by decide)
    (fun s' Q' E' hk hq => hint_set (hat s' hk).typeIs hq) (fun s₁ S Q' E' hk hSge hSlt hq => ?_) (fun s' acc P hsb ⟨ys, hp, hP⟩ hacc => ?_) (by omega)
  · have h1 := hat s₁ hk
    have hlt : a < s₁.heap.objs.size := Heap.lt_size (hk _ _ ho)
    have hSa : S ≠ a := Nat.ne_of_gt (Nat.lt_of_lt_of_le (Heap.lt_size ho) hSge)
    refine wpAny_pyIter_slot h1.typeIs PySem.F.slot_set_iter (wpAny_call_entry PySem.F.slot_set_iter h1.typeIs entry_set_iter ?_ (PySem.F.args_set_iter_1 _))
    unfold Builtin.«frozenset.__iter__»
    refine wpAny_bind (wpAny_pure ?_)
    refine wpAny_bind ?_
    unfold Builtin.Frozenset.sizeOf
    refine wpAny_bind ?_
    unfold setEntries
    refine wpAny_bind (wpAny_setState_of (hk _ _ ho) hd hf (wpAny_pure (wpAny_pure ?_)))
    dsimp only
    refine wpAny_bind (setDrawn_rule h1 hf ?_)
    have hep : ∀ (s₃ : Shared) (Q : Nat → Shared → Prop) (E : Value → Shared → Prop), s₃.heap.get? a = some o → Q ep s₃ → wpAny (model prog w) A.in1.in1 (setEpoch a) Q E s₃ := fun s₃ Q E h3 hQ => by
      unfold setEpoch
      exact wpAny_bind (wpAny_setState_of h3 hd hf (wpAny_pure hQ))
    by_cases hdr : (!(byTextOf w) && drawnOf es t) = true
    · rw [if_pos hdr]
      refine wpAny_bind ?_
      refine draw_order _ _ _ (List.length_range).symm fun ys s₂ hys e1 e2 e3 e4 => ?_
      refine wpAny_bind (wpAny_newObj_type ?_ (by show (List.map _ ys).toArray.size ≤ sizeLine; have := hys.length_eq; rw [sizeLine_eq]; simp at this ⊢; omega))
      have g2 : (s₂.heap.push { cls := .type "tuple", data := .seq (ys.map fun (p : Nat) => rawInt p).toArray }).get? a = some o := Heap.get?_push_of_some _ (by rw [e1]; exact hk _ _ ho)
      refine wpAny_bind (hep _ _ _ g2 ?_)
      have hT2 := new_at s₂.heap { cls := .type "tuple", data := .seq (ys.map fun (p : Nat) => rawInt p).toArray }
      generalize hp2 : s₂.heap.push { cls := .type "tuple", data := .seq (ys.map fun (p : Nat) => rawInt p).toArray } = h2 at *
      have hz2 : h2.objs.size = s₂.heap.objs.size + 1 := by rw [← hp2]; exact Heap.size_push ..
      refine wpAny_bind (wpAny_newObj_type ?_)
      have hI := new_at h2 { cls := .type "set_iterator", data := .fields #[.ref s₂.heap.objs.size, rawInt 0, .ref a, rawInt es.size, rawInt ep] }
      refine wpAny_pure ⟨_, rfl, "set_iterator", _, ⟨_, hI, rfl⟩, slot_setiter_next.lookup, ?_⟩
      have e1' : s₂.heap.objs.size = s₁.heap.objs.size := by rw [e1]
      refine hq h2.objs.size _ _ _ _ _ (walks_drawn (A := A.in1) hh h2.objs.size a s₂.heap.objs.size (Nat.ne_of_lt (Heap.lt_size g2)) (Nat.ne_of_lt (Heap.lt_size hT2)) es ep t hf ys hys) ?_ ⟨⟨_, hI, rfl, rfl⟩, ⟨o, Heap.get?_push_of_some _ g2, hex.1, hd⟩, ⟨_, Heap.get?_push_of_some _ hT2, rfl, _, rfl⟩⟩ ?_ ?_ ?_
      · refine ⟨(ys.map fun p => ((es[p]?).getD (0, .none)).2), ?_, ?_⟩
        · rw [← hvs]
          have := hys.filterMap (fun p => es[p]?)
          rw [filterMap_getElem?_range] at this
          have e : ys.filterMap (fun p => es[p]?) = ys.map fun p => (es[p]?).getD (0, .none) := by
            have gen : ∀ l : List Nat, (∀ p ∈ l, p < es.size) → l.filterMap (fun p => es[p]?) = l.map fun p => (es[p]?).getD (0, .none) := by
              intro l
              induction l with
              | nil => intro _; rfl
              | cons p l ih =>
                intro hl
                have hp := hl p (by simp)
                rw [List.filterMap_cons, Array.getElem?_eq_getElem hp, List.map_cons, ih fun q hq => hl q (List.mem_cons_of_mem _ hq), Array.getElem?_eq_getElem hp]; rfl
            exact gen ys fun p hp => List.mem_range.mp (hys.mem_iff.mp hp)
          rw [e] at this
          have h3 := this.map (·.2)
          rw [List.map_map] at h3; exact h3
        · rintro i v ⟨p, e, hp, he, rfl⟩
          rw [List.getElem?_map, hp]; simp [he]
      · have q1 : S < s₂.heap.objs.size := by rw [e1]; exact hSlt
        simp only [List.mem_cons, List.not_mem_nil, or_false, not_or]
        exact ⟨Nat.ne_of_lt (Nat.lt_trans q1 (Heap.lt_size hT2)), hSa, Nat.ne_of_lt q1⟩
      · intro b hb
        rw [List.mem_singleton.mp hb]
        refine Heap.get?_none_of_le ?_
        rw [hz2, e1]; exact Nat.le_succ _
      · refine ⟨fun b ob e => Heap.get?_push_of_some _ ?_, e2, e3⟩
        rw [← hp2]; exact Heap.get?_push_of_some _ (by rw [e1]; exact e)
    · rw [if_neg hdr]
      refine wpAny_bind (wpAny_pure ?_)
      refine wpAny_bind (hep _ _ _ (hk _ _ ho) ?_)
      refine wpAny_bind (wpAny_newObj_type ?_)
      have hI := new_at s₁.heap { cls := .type "set_iterator", data := .fields #[rawInt 0, rawInt 0, .ref a, rawInt es.size, rawInt ep] }
      refine wpAny_pure ⟨_, rfl, "set_iterator", _, ⟨_, hI, rfl⟩, slot_setiter_next.lookup, ?_⟩
      have side1 : S ∉ [s₁.heap.objs.size, a] := by simp only [List.mem_cons, List.not_mem_nil, or_false, not_or]; exact ⟨Nat.ne_of_lt hSlt, hSa⟩
      have side2 : ∀ b ∈ [s₁.heap.objs.size], s₁.heap.get? b = none := fun b hb => by rw [List.mem_singleton.mp hb]; exact Heap.get?_none_of_le (Nat.le_refl _)
      have side3 : SameBase s₁ { s₁ with heap := s₁.heap.push { cls := .type "set_iterator", data := .fields #[rawInt 0, rawInt 0, .ref a, rawInt es.size, rawInt ep] } } := ⟨fun b ob e => Heap.get?_push_of_some _ e, rfl, rfl⟩
      cases hbt : byTextOf w with
      | true =>
        refine hq s₁.heap.objs.size _ _ _ _ _ (walks_text (A := A.in1) hh s₁.heap.objs.size a (Nat.ne_of_lt hlt) es ep t hf hbt) ?_ ⟨⟨_, hI, rfl, rfl⟩, ⟨o, Heap.get?_push_of_some _ (hk _ _ ho), hex.1, hd⟩⟩ side1 side2 side3
        refine ⟨(pickOrder (w.params.setOrder a ep) es).toList.map (·.2), ?_, ?_⟩
        · rw [← hvs]; exact (pick_perm _ es).map _
        · rintro i v ⟨e, he, rfl⟩
          rw [List.getElem?_map, Array.getElem?_toList, he]; rfl
      | false =>
        rw [hbt] at hdr hled
        refine hq s₁.heap.objs.size _ _ _ _ _ (walks_plain (A := A.in1) hh s₁.heap.objs.size a (Nat.ne_of_lt hlt) es ep t L Y T hL hbt (by simpa using hdr) hled) ?_ ⟨⟨_, hI, rfl, rfl⟩, ⟨o, Heap.get?_push_of_some _ (hk _ _ ho), hex.1, hd⟩⟩ side1 side2 side3
        refine ⟨es.toList.map (·.2), by rw [hvs], ?_⟩
        rintro i v ⟨e, he, rfl⟩
        rw [List.getElem?_map, Array.getElem?_toList, he]; rfl
  · have e := items_eq hacc (by rw [hp.length_eq, List.length_map]; exact hsz) hP
    rw [e]; exact h ys s' hp hsb
end
end Mine
end

section
open PySem PySem.W PyProof.Rows PySem.Calls PySem.SetTable
set_option Elab.async false
set_option autoImplicit false
set_option maxRecDepth 100000
set_option linter.unusedVariables false
namespace Mine

def DAt (h : Heap) (d : Addr) (es : Array DictEntry) (ep : Nat) : Prop := ∃ o, h.get? d = some o ∧ o.ExactDict ∧ o.data = .dict es ep
theorem DAt.ext {h h' : Heap} {d : Addr} {es : Array DictEntry} {ep : Nat} (x : DAt h d es ep) (e : ∀ o, h.get? d = some o → h'.get? d = some o) : DAt h' d es ep := let ⟨o, ho, r⟩ := x; ⟨o, e _ ho, r⟩
theorem DAt.typeIs {s : Shared} {d : Addr} {es : Array DictEntry} {ep : Nat} (x : DAt s.heap d es ep) : s.TypeIs (.ref d) "dict" := let ⟨o, ho, hc, _⟩ := x; ⟨o, ho, hc.1⟩

section
variable {prog : Program} {w : World} {A : Around} {E : Value → Shared → Prop} {s : Shared}

theorem dict_iter {d : Addr} {es : Array DictEntry} {ep : Nat} {Q : Value → Shared → Prop} (hd : (d == sysModules) = false) (hm : DAt s.heap d es ep)
    (hQ : Q (.ref s.heap.objs.size) { s with heap := s.heap.push { cls := .type "dict_keyiterator", data := .fields #[.ref d, .int 0 0, .int es.size 0, .int ep 0] } }) :
    wpAny (model prog w) A (pyIter (.ref d)) Q E s := by
  have hT := hm.typeIs
  obtain ⟨o, ho, hc, hdat⟩ := id hm
  refine wpAny_pyIter_slot hT PySem.F.slot_dict_iter (wpAny_call_entry PySem.F.slot_dict_iter hT PySem.F.entry_dict_iter ?_ (PySem.F.args_dict_iter_1 _))
  unfold Builtin.«dict.__iter__»
  refine wpAny_bind ?_
  unfold Builtin.Dict.dictSlotNone
  refine wpAny_bind (wpAny_notOrdered_dict hT ?_)
  show wpAny _ _ (pure (Value.ref d)) _ _ s
  refine wpAny_pure ?_
  show wpAny _ _ (Builtin.Dict.showsAll d >>= _) _ _ s
  unfold Builtin.Dict.showsAll
  rw [if_neg (by rw [hd]; exact Bool.false_ne_true)]
  refine wpAny_bind (wpAny_pure (wpAny_bind (wpAny_dictEntries ho hdat (wpAny_bind (wpAny_dictEpoch ho hdat ?_)))))
  exact wpAny_bind (wpAny_newObj_type (wpAny_pure ⟨_, rfl, "dict_keyiterator", _, ⟨_, Heap.get?_push_size _ rfl, rfl⟩, PySem.F.slot_dict_keyiterator_next.lookup, hQ⟩))

/-- one turn of a walk over keys -/
theorem keys_next {it d : Addr} {i ep : Nat} {es : Array DictEntry} {Q : Option Value → Shared → Prop} (hh : A.handled = none) (hit : s.heap.IsKeyIter it d i es.size ep) (hm : DAt s.heap d es ep)
    (hI : ∀ e h', es[i]? = some e → h'.IsKeyIter it d (i + 1) es.size ep → Heap.SameBut it s.heap h' → Q (some e.key) { s with heap := h' })
    (hE : es[i]? = none → ∀ h', Heap.ExtBut it s.heap h' → Q none { s with heap := h' }) :
    wpAny (model prog w) A (pyNext (.ref it)) Q E s := by
  obtain ⟨o, ho, hc, hd⟩ := id hit
  obtain ⟨od, hod, hcd, hdd⟩ := id hm
  unfold pyNext
  refine wpAny_bind (wpAny_attempt (wpAny_callSpecial?_slot (name := Str.ofString "__next__") hit.typeIs PySem.F.slot_dict_keyiterator_next
    (wpAny_call_entry PySem.F.slot_dict_keyiterator_next hit.typeIs PySem.F.entry_dict_keyiterator_next ?_ (PySem.F.args_dict_keyiterator_next_1 _))))
  refine wpAny_bind (wpAny_pure ?_)
  refine wpAny_bind ?_
  refine wpAny_bind ?_
  refine wpAny_bind (wpAny_typeNameOfWhole_keyiter hit.typeIs (wpAny_pure ?_))
  refine wpAny_bind (wpAny_fieldsOf ho hd ?_)
  have hown : Builtin.Dict_items.ownsTuple "dict_keyiterator" = false := by decide
  simp only [hown, Bool.false_eq_true, if_false]
  show wpAny _ _ (if (Value.ref d == Value.none) = true then _ else _) _ _ s
  rw [if_neg (show ¬ ((Value.ref d == Value.none) = true) from Bool.false_ne_true)]
  refine wpAny_bind (wpAny_pure (wpAny_bind (wpAny_dictEntries hod hdd ?_)))
  rw [if_neg (by simp)]
  refine wpAny_bind (wpAny_pure (wpAny_bind (wpAny_dictEpoch hod hdd ?_)))
  rw [if_neg (by simp)]
  refine wpAny_pure ?_
  cases hx : es[i]? with
  | some e =>
    simp only [show ¬ ((i : Int) < 0) from by omega, if_false, Int.toNat_natCast, hx]
    refine wpAny_bind (wpAny_bind (wpAny_typeNameOfWhole_keyiter hit.typeIs (wpAny_pure (wpAny_bind (wpAny_isOneOf_keyiter hit.typeIs ?_)))))
    show wpAny _ _ (setField (.ref it) 1 (rawInt ((i : Int) + 1)) >>= _) _ _ s
    refine wpAny_bind (wpAny_setField ho hd (by simp) ?_)
    have hit' : (s.heap.update it (Obj.mapFields (·.setIfInBounds 1 (rawInt ((i : Int) + 1))))).IsKeyIter it d (i + 1) es.size ep :=
      ⟨_, Heap.get?_update_self _ ho (Obj.isFreed_of_fields (Obj.data_mapFields hd _)), (Obj.cls_mapFields ..).trans hc, by rw [Obj.data_mapFields hd]; simp [rawInt]⟩
    refine wpAny_bind (wpAny_holding (wpAny_bind (wpAny_isOneOf_keyiter (s := { s with heap := s.heap.update it (Obj.mapFields (·.setIfInBounds 1 (rawInt ((i : Int) + 1)))) }) hit'.typeIs ?_)))
    show wpAny _ _ (pure e.key) _ _ _
    exact wpAny_pure (wpAny_pure ⟨_, rfl, wpAny_pure (hI _ _ hx hit' (Heap.SameBut.update ..))⟩)
  | none =>
    simp only [show ¬ ((i : Int) < 0) from by omega, if_false, Int.toNat_natCast, hx]
    refine wpAny_bind (wpAny_bind (wpAny_typeNameOfWhole_keyiter hit.typeIs (wpAny_pure ?_)))
    show wpAny _ _ (setField (.ref it) 0 .none >>= _) _ _ s
    refine wpAny_bind (wpAny_setField ho hd (by simp) ?_)
    refine raise_stop (Q := Q) (A := A.in1) hh (fun e s' hT hq => ?_) fun h' hk => hE hx h' fun b o hb e => hk b o ((Heap.SameBut.update s.heap it _).extBut b o hb e)
    exact wpAny_bind (wpAny_isInstance (T := "StopIteration") (b := true) hT isSubtype_stop (wpAny_pure hq))

theorem walks_keys (hh : A.handled = none) (I d : Addr) (hne : d ≠ I) (es : Array DictEntry) (ep : Nat) :
    Walks prog w A I [I, d] [I] es.size (fun i v => ∃ e, es[i]? = some e ∧ v = e.key) (fun i h => h.IsKeyIter I d i es.size ep ∧ DAt h d es ep) where
  sub := fun b hb => by simp at hb; simp [hb]
  frame := fun _ _ _ st hk => ⟨st.1.at fun o e => hk I (by simp) o e, st.2.ext fun o e => hk d (by simp) o e⟩
  item := fun i s Q E hi st hQ => keys_next hh st.1 st.2 (fun e h' he hit' hs => hQ _ h' s.toks ⟨e, he, rfl⟩ ⟨hit', st.2.ext fun o x => hs.extBut d o hne x⟩ fun b o hb x => hs.extBut b o (fun q => hb (by simp [q])) x)
    fun hx => by rw [Array.getElem?_eq_getElem hi] at hx; cases hx
  done := fun s Q E st hQ => keys_next hh st.1 st.2 (fun e h' he => by rw [Array.getElem?_eq_none (Nat.le_refl _)] at he; cases he) fun _ h' hx => hQ h' s.toks fun b o hb x => hx b o (fun q => hb (by simp [q])) x
  self := fun _ _ _ _ st hQ => wpAny_pyIter_keyiter st.1 hQ

theorem collect_dict {d : Addr} {es : Array DictEntry} {ep : Nat} {Q : List Value → Shared → Prop} (hh : A.handled = none) (hd : (d == sysModules) = false) (hm : DAt s.heap d es ep) (hz : es.size ≤ 1000)
    (h : ∀ s', SameBase s s' → Q (es.toList.map (·.key)) s') : wpAny (model prog w) A (collect (.ref d)) Q E s := by
  have hat : ∀ s' : Shared, Kept s.heap s'.heap → DAt s'.heap d es ep := fun s' hk => hm.ext fun o e => hk _ _ e
  obtain ⟨o, ho, hc, hdat⟩ := id hm
  refine collect_src (T := "dict") (n := es.size) (PP := fun P => ∀ i v, P i v → (es.toList.map (·.key))[i]? = some v) (Heap.lt_size ho) (fun s' hk => (hat s' hk).typeIs) (by decide) (by decide)
    (fun s' Q' E' hk hq => kdl_hint_dict (hat s' hk).typeIs hq) (fun s₁ S Q' E' hk hSge hSlt hq => ?_) (fun s' acc P hsb hP hacc => ?_) hz
  · have h1 := hat s₁ hk
    have hlt : d < s₁.heap.objs.size := Heap.lt_size (hk _ _ ho)
    have hSd : S ≠ d := Nat.ne_of_gt (Nat.lt_of_lt_of_le (Heap.lt_size ho) hSge)
    refine dict_iter hd h1 ?_
    refine hq s₁.heap.objs.size _ _ _ _ _ (walks_keys (A := A.in1) hh s₁.heap.objs.size d (Nat.ne_of_lt hlt) es ep) ?_ ⟨⟨_, new_at _ _, rfl, rfl⟩, h1.ext fun o e => Heap.get?_push_of_some _ e⟩ ?_ ?_ ⟨fun b ob e => Heap.get?_push_of_some _ e, rfl, rfl⟩
    · rintro i v ⟨e, he, rfl⟩
      rw [List.getElem?_map, Array.getElem?_toList, he]; rfl
    · simp only [List.mem_cons, List.not_mem_nil, or_false, not_or]; exact ⟨Nat.ne_of_lt hSlt, hSd⟩
    · intro b hb
      rw [List.mem_singleton.mp hb]; exact Heap.get?_none_of_le (Nat.le_refl _)
  · have e := items_eq hacc (by simp) hP
    rw [e]; exact h s' hsb
end
end Mine
end

section
open PySem PySem.W PyProof.Rows PySem.Calls PySem.SetTable
set_option Elab.async false
set_option autoImplicit false
set_option maxRecDepth 100000
set_option linter.unusedVariables false
namespace Mine

theorem values_no_contains : typeLookup (.type "dict_values") "__contains__" = pure none := by rw [typeLookup_type, builtinLookup_eq_fast]; kernel_rfl
theorem entry_contains_iter : entryFor table "proto.contains_iter" = some Builtin.«proto.contains_iter» := entryFor_of_tree (by kernel_rfl)
theorem plain_contains_iter : plainId "proto.contains_iter" = true := by decide +kernel

section
variable {prog : Program} {w : World} {A : Around} {E : Value → Shared → Prop} {s : Shared}

theorem values_call {d : Addr} {es : Array DictEntry} {ep : Nat} {Q : Value → Shared → Prop} (hd : (d == sysModules) = false) (hm : DAt s.heap d es ep)
    (h : Q (.ref s.heap.objs.size) { s with heap := s.heap.push { cls := .type "dict_values", data := .fields #[.ref d] } }) : wpAny (model prog w) A (call (.builtin "dict.values") [.ref d]) Q E s := by
  refine wpAny_call_entry PySem.F.slot_dict_values hm.typeIs PySem.F.entry_dict_values ?_ (PySem.F.args_dict_values_1 _)
  refine wpAny_bind ?_
  unfold Builtin.Dict.noArgs
  refine wpAny_bind (wpAny_notOrdered_dict hm.typeIs ?_)
  show wpAny _ _ (pure d) _ _ s
  refine wpAny_pure ?_
  show wpAny _ _ (Builtin.Dict.showsAll d >>= _) _ _ s
  unfold Builtin.Dict.showsAll
  rw [if_neg (by rw [hd]; exact Bool.false_ne_true)]
  refine wpAny_bind (wpAny_pure ?_)
  exact wpAny_bind (wpAny_newObj_type (wpAny_pure ⟨_, rfl, h⟩))

theorem values_iter {v d : Addr} {es : Array DictEntry} {ep : Nat} {Q : Value → Shared → Prop} (hv : s.heap.IsValuesView v d) (hm : DAt s.heap d es ep)
    (hQ : Q (.ref s.heap.objs.size) { s with heap := s.heap.push { cls := .type "dict_valueiterator", data := .fields #[.ref d, .int 0 0, .int es.size 0, .int ep 0] } }) :
    wpAny (model prog w) A (pyIter (.ref v)) Q E s := by
  obtain ⟨ov, hov, hcv, hdv⟩ := id hv
  obtain ⟨o, ho, hc, hdat⟩ := id hm
  refine wpAny_pyIter_slot hv.typeIs PySem.F.slot_dict_values_iter (wpAny_call_entry PySem.F.slot_dict_values_iter hv.typeIs PySem.F.entry_dict_values_iter ?_ (PySem.F.args_dict_values_iter_1 _))
  unfold Builtin.«dict_values.__iter__»
  refine wpAny_bind (wpAny_pure ?_)
  refine wpAny_bind ?_
  unfold Builtin.Dict_items.dictOf
  refine wpAny_bind (wpAny_field hov hdv (x := .ref d) rfl (wpAny_pure ?_))
  refine wpAny_bind ?_
  unfold Builtin.Dict_items.newIterator
  refine wpAny_bind (wpAny_dictEntries ho hdat (wpAny_bind (wpAny_dictEpoch ho hdat ?_)))
  have hown : Builtin.Dict_items.ownsTuple "dict_valueiterator" = false := by decide
  simp only [hown, Bool.false_eq_true, if_false]
  exact wpAny_newObj_type (wpAny_pure ⟨_, rfl, "dict_valueiterator", _, ⟨_, Heap.get?_push_size _ rfl, rfl⟩, PySem.F.slot_dict_valueiterator_next.lookup, hQ⟩)

theorem values_next {it d : Addr} {i ep : Nat} {es : Array DictEntry} {Q : Option Value → Shared → Prop} (hh : A.handled = none) (hit : s.heap.IsValIter it d i es.size ep) (hm : DAt s.heap d es ep)
    (hI : ∀ e h', es[i]? = some e → h'.IsValIter it d (i + 1) es.size ep → Heap.SameBut it s.heap h' → Q (some e.val) { s with heap := h' })
    (hE : es[i]? = none → ∀ h', Heap.ExtBut it s.heap h' → Q none { s with heap := h' }) :
    wpAny (model prog w) A (pyNext (.ref it)) Q E s := by
  obtain ⟨o, ho, hc, hd⟩ := id hit
  obtain ⟨od, hod, hcd, hdd⟩ := id hm
  unfold pyNext
  refine wpAny_bind (wpAny_attempt (wpAny_callSpecial?_slot (name := Str.ofString "__next__") hit.typeIs PySem.F.slot_dict_valueiterator_next
    (wpAny_call_entry PySem.F.slot_dict_valueiterator_next hit.typeIs PySem.F.entry_dict_valueiterator_next ?_ (PySem.F.args_dict_valueiterator_next_1 _))))
  refine wpAny_bind (wpAny_pure ?_)
  refine wpAny_bind ?_
  refine wpAny_bind ?_
  refine wpAny_bind (wpAny_typeNameOfWhole_valiter hit.typeIs (wpAny_pure ?_))
  refine wpAny_bind (wpAny_fieldsOf ho hd ?_)
  have hown : Builtin.Dict_items.ownsTuple "dict_valueiterator" = false := by decide
  simp only [hown, Bool.false_eq_true, if_false]
  show wpAny _ _ (if (Value.ref d == Value.none) = true then _ else _) _ _ s
  rw [if_neg (show ¬ ((Value.ref d == Value.none) = true) from Bool.false_ne_true)]
  refine wpAny_bind (wpAny_pure (wpAny_bind (wpAny_dictEntries hod hdd ?_)))
  rw [if_neg (by simp)]
  refine wpAny_bind (wpAny_pure (wpAny_bind (wpAny_dictEpoch hod hdd ?_)))
  rw [if_neg (by simp)]
  refine wpAny_pure ?_
  cases hx : es[i]? with
  | some e =>
    simp only [show ¬ ((i : Int) < 0) from by omega, if_false, Int.toNat_natCast, hx]
    refine wpAny_bind (wpAny_bind (wpAny_typeNameOfWhole_valiter hit.typeIs (wpAny_pure (wpAny_bind (wpAny_isOneOf_valiter hit.typeIs ?_)))))
    show wpAny _ _ (setField (.ref it) 1 (rawInt ((i : Int) + 1)) >>= _) _ _ s
    refine wpAny_bind (wpAny_setField ho hd (by simp) ?_)
    have hit' : (s.heap.update it (Obj.mapFields (·.setIfInBounds 1 (rawInt ((i : Int) + 1))))).IsValIter it d (i + 1) es.size ep :=
      ⟨_, Heap.get?_update_self _ ho (Obj.isFreed_of_fields (Obj.data_mapFields hd _)), (Obj.cls_mapFields ..).trans hc, by rw [Obj.data_mapFields hd]; simp [rawInt]⟩
    refine wpAny_bind (wpAny_holding (wpAny_bind (wpAny_isOneOf_valiter (s := { s with heap := s.heap.update it (Obj.mapFields (·.setIfInBounds 1 (rawInt ((i : Int) + 1)))) }) hit'.typeIs ?_)))
    refine wpAny_bind (wpAny_isOneOf_valiter (s := { s with heap := s.heap.update it (Obj.mapFields (·.setIfInBounds 1 (rawInt ((i : Int) + 1)))) }) hit'.typeIs ?_)
    show wpAny _ _ (pure e.val) _ _ _
    exact wpAny_pure (wpAny_pure ⟨_, rfl, wpAny_pure (hI _ _ hx hit' (Heap.SameBut.update ..))⟩)
  | none =>
    simp only [show ¬ ((i : Int) < 0) from by omega, if_false, Int.toNat_natCast, hx]
    refine wpAny_bind (wpAny_bind (wpAny_typeNameOfWhole_valiter hit.typeIs (wpAny_pure ?_)))
    show wpAny _ _ (setField (.ref it) 0 .none >>= _) _ _ s
    refine wpAny_bind (wpAny_setField ho hd (by simp) ?_)
    refine raise_stop (Q := Q) (A := A.in1) hh (fun e s' hT hq => ?_) fun h' hk => hE hx h' fun b o hb e => hk b o ((Heap.SameBut.update s.heap it _).extBut b o hb e)
    exact wpAny_bind (wpAny_isInstance (T := "StopIteration") (b := true) hT isSubtype_stop (wpAny_pure hq))

/-- False in .., where all are True -/
theorem contains_loop {I d : Addr} {es : Array DictEntry} {ep : Nat} {R : Result → Shared → Prop} (hh : A.handled = none) (hall : ∀ e ∈ es, e.val = .bool true) (hne : d ≠ I) : ∀ (k i : Nat) (s : Shared), es.size - i = k → i ≤ es.size → s.heap.IsValIter I d i es.size ep → DAt s.heap d es ep →
    (∀ h', (∀ b o, b ≠ I → s.heap.get? b = some o → h'.get? b = some o) → R (.ok (.ret (.bool false))) { s with heap := h' }) →
    codeAny (model prog w) A (.builtin "proto.contains_iter" ⟨[.ref I, .bool false], []⟩) R s := by
  intro k
  induction k with
  | zero =>
    intro i s hk hi hit hm hR
    refine codeAny_builtin entry_contains_iter ?_
    rw [Around.under_plainId plain_contains_iter _]
    show wpAny _ A.in1 (pyNext (.ref I) >>= _) _ _ s
    refine wpAny_bind (values_next (A := A.in1) hh hit hm (fun e h' he => ?_) fun _ h' hx => ?_)
    · rw [Array.getElem?_eq_none (by omega)] at he; cases he
    · exact wpAny_bind (wpAny_rule (wpAny_pure (hR h' fun b o hb e => hx b o hb e)))
  | succ k ih =>
    intro i s hk hi hit hm hR
    refine codeAny_builtin entry_contains_iter ?_
    rw [Around.under_plainId plain_contains_iter _]
    show wpAny _ A.in1 (pyNext (.ref I) >>= _) _ _ s
    refine wpAny_bind (values_next (A := A.in1) hh hit hm (fun e h' he hit' hs => ?_) fun hx h' _ => ?_)
    · have hv := hall e (Array.mem_of_getElem? he)
      dsimp only
      rw [hv]
      refine wpAny_bind (SeqAt.EqAt.bool_bool true false prog w _ _ ?_)
      simp only [show (true == false) = false from rfl, Bool.false_eq_true, if_false]
      refine wpAny_pure ⟨plainId_quiet plain_contains_iter _, ih (i + 1) _ (by omega) (by omega) hit' (hm.ext fun o x => hs.extBut d o hne x) fun h'' hk' => ?_⟩
      exact hR h'' fun b o hb x => hk' b o hb (hs.extBut b o hb x)
    · rw [Array.getElem?_eq_getElem (by omega)] at hx; cases hx

theorem false_in_values {v d : Addr} {es : Array DictEntry} {ep : Nat} {Q : Value → Shared → Prop} (hh : A.handled = none) (hall : ∀ e ∈ es, e.val = .bool true) (hv : s.heap.IsValuesView v d) (hm : DAt s.heap d es ep)
    (h : ∀ h', Kept s.heap h' → Q (.bool false) { s with heap := h' }) : wpAny (model prog w) A (compareOp .In (.bool false) (.ref v)) Q E s := by
  show wpAny _ _ (do return .bool (← contains (.ref v) (.bool false))) Q E s
  refine wpAny_bind ?_
  unfold contains
  refine wpAny_holding ?_
  have hT := hv.typeIs
  refine wpAny_bind (wpAny_specialOf hT values_no_contains ?_)
  rw [if_neg (by decide)]
  refine wpAny_bind (wpAny_callSpecialUnlessNone?_none hT values_no_contains ?_)
  dsimp only
  refine wpAny_bind (wpAny_rule ?_)
  refine wpAny_bind (wpAny_tryCatch (values_iter hv hm ?_))
  obtain ⟨o, ho, _⟩ := id hm
  have hlt : d < s.heap.objs.size := Heap.lt_size ho
  refine wpAny_bind (wpAny_runValue ?_)
  refine contains_loop (A := A) hh hall (Nat.ne_of_lt hlt) es.size 0 _ rfl (Nat.zero_le _) ⟨_, new_at _ _, rfl, rfl⟩ (hm.ext fun o e => Heap.get?_push_of_some _ e) fun h' hk => ?_
  exact wpAny_pure (wpAny_pure (h h' fun b o e => hk b o (Nat.ne_of_lt (Heap.lt_size e)) (Heap.get?_push_of_some _ e)))
end
end Mine
end

section
open PySem PySem.W PyProof.Rows PySem.Calls
set_option Elab.async false
set_option autoImplicit false
set_option linter.unusedVariables false
namespace Mine

section
variable {n : Nat} {lt : Nat → Nat → Bool} {cmp : Nat → Nat → (Bool → Shared → Prop) → Shared → Prop} {s : Shared}

structure Strict (n : Nat) (lt : Nat → Nat → Bool) : Prop where
  trans : ∀ i j k, i < n → j < n → k < n → lt i j = true → lt j k = true → lt i k = true
  asym : ∀ i j, i < n → j < n → lt i j = true → lt j i = false
  total : ∀ i j, i < n → j < n → i ≠ j → lt i j = false → lt j i = true

abbrev PermOf (n : Nat) (p : Array Nat) : Prop := p.toList.Perm (List.range n)
theorem PermOf.size {p : Array Nat} (h : PermOf n p) : p.size = n := by have := h.length_eq; simpa using this
theorem PermOf.at {p : Array Nat} (h : PermOf n p) {i : Nat} (hi : i < n) : p[i]? = some (p.getD i 0) := by
  have hs : i < p.size := by rw [h.size]; exact hi
  simp [Array.getD, hs]
theorem PermOf.lt_ {p : Array Nat} (h : PermOf n p) {i : Nat} (hi : i < n) : p.getD i 0 < n := by
  have h1 := h.at hi
  rw [← Array.getElem?_toList] at h1
  exact List.mem_range.mp (h.mem_iff.mp (List.mem_of_getElem? h1))
theorem PermOf.inj {p : Array Nat} (h : PermOf n p) {i j : Nat} (hi : i < n) (hj : j < n) (e : p.getD i 0 = p.getD j 0) : i = j := by
  have hn : p.toList.Nodup := h.nodup_iff.mpr List.nodup_range
  have h1 := h.at hi
  have h2 := h.at hj
  rw [← Array.getElem?_toList] at h1 h2
  rw [e, ← h2] at h1
  exact (List.getElem?_inj (by rw [Array.length_toList, h.size]; exact hi) hn).mp h1
def Asc (lt : Nat → Nat → Bool) (p : Array Nat) (k : Nat) : Prop := ∀ i j, i < j → j < k → lt (p.getD i 0) (p.getD j 0) = true
def Dsc (lt : Nat → Nat → Bool) (p : Array Nat) (k : Nat) : Prop := ∀ i j, i < j → j < k → lt (p.getD j 0) (p.getD i 0) = true

theorem Asc.snoc (X : Strict n lt) {p : Array Nat} (hp : PermOf n p) {m : Nat} (h1 : 1 ≤ m) (hm : m < n) (ha : Asc lt p m) (hl : lt (p.getD m 0) (p.getD (m - 1) 0) = false) : Asc lt p (m + 1) := fun i j hij hj => by
  have hlast : lt (p.getD (m - 1) 0) (p.getD m 0) = true := X.total _ _ (hp.lt_ hm) (hp.lt_ (by omega)) (fun e => by have := hp.inj hm (by omega) e; omega) hl
  rcases Nat.lt_or_ge j m with q | q
  · exact ha i j hij q
  · have : j = m := by omega
    subst this
    rcases Nat.eq_or_lt_of_le (show i ≤ j - 1 by omega) with rfl | q2
    · exact hlast
    · exact X.trans _ _ _ (hp.lt_ (by omega)) (hp.lt_ (by omega)) (hp.lt_ hm) (ha i (j - 1) q2 (by omega)) hlast
theorem Dsc.snoc (X : Strict n lt) {p : Array Nat} (hp : PermOf n p) {m : Nat} (h1 : 1 ≤ m) (hm : m < n) (ha : Dsc lt p m) (hl : lt (p.getD m 0) (p.getD (m - 1) 0) = true) : Dsc lt p (m + 1) := fun i j hij hj => by
  rcases Nat.lt_or_ge j m with q | q
  · exact ha i j hij q
  · have : j = m := by omega
    subst this
    rcases Nat.eq_or_lt_of_le (show i ≤ j - 1 by omega) with rfl | q2
    · exact hl
    · exact X.trans _ _ _ (hp.lt_ hm) (hp.lt_ (by omega)) (hp.lt_ (by omega)) hl (ha i (j - 1) q2 (by omega))

variable (X : Strict n lt) (H : ∀ i j C, i < n → j < n → C (lt i j) s → cmp i j C s)
include X H

theorem asc_wp {p : Array Nat} (hp : PermOf n p) {Q : Nat → Shared → Prop} : ∀ (f m : Nat), 1 ≤ m → m + f ≤ n → Asc lt p m → (∀ m', m ≤ m' → m' ≤ m + f → Asc lt p m' → (m' = m + f ∨ lt (p.getD m' 0) (p.getD (m' - 1) 0) = true) → Q m' s) → (kas_asc p f m).kasWp cmp Q s
  | 0, m, h1, h2, ha, hQ => hQ m (Nat.le_refl _) (Nat.le_refl _) ha (.inl rfl)
  | f + 1, m, h1, h2, ha, hQ => by
    refine H _ _ _ (hp.lt_ (by omega)) (hp.lt_ (by omega)) ?_
    cases hl : lt (p.getD m 0) (p.getD (m - 1) 0) with
    | true =>
      simp only [if_true]
      exact hQ m (Nat.le_refl _) (by omega) ha (.inr hl)
    | false =>
      simp only [Bool.false_eq_true, if_false]
      refine asc_wp hp f (m + 1) (by omega) (by omega) (ha.snoc X hp h1 (by omega) hl) fun m' a b c d => hQ m' (by omega) (by omega) c ?_
      rcases d with d | d
      · exact .inl (by omega)
      · exact .inr d

theorem desc_wp {p : Array Nat} (hp : PermOf n p) {Q : Array Nat × Nat × Nat → Shared → Prop} : ∀ (f m : Nat), 1 ≤ m → m + f ≤ n → Dsc lt p m → (∀ m', m ≤ m' → m' ≤ m + f → Dsc lt p m' → Q (p, m', 0) s) → (kas_desc f p m 0).kasWp cmp Q s
  | 0, m, h1, h2, ha, hQ => hQ m (Nat.le_refl _) (Nat.le_refl _) ha
  | f + 1, m, h1, h2, ha, hQ => by
    refine H _ _ _ (hp.lt_ (by omega)) (hp.lt_ (by omega)) ?_
    cases hl : lt (p.getD m 0) (p.getD (m - 1) 0) with
    | true =>
      simp only [if_true, gt_iff_lt, Nat.lt_irrefl, if_false]
      exact desc_wp hp f (m + 1) (by omega) (by omega) (ha.snoc X hp h1 (by omega) hl) fun m' a b c => hQ m' (by omega) (by omega) c
    | false =>
      simp only [Bool.false_eq_true, if_false]
      refine H _ _ _ (hp.lt_ (by omega)) (hp.lt_ (by omega)) ?_
      have := X.total _ _ (hp.lt_ (show m < n by omega)) (hp.lt_ (show m - 1 < n by omega)) (fun e => by have := hp.inj (show m < n by omega) (show m - 1 < n by omega) e; omega) hl
      rw [this]
      simp only [if_true]
      exact hQ m (Nat.le_refl _) (by omega) ha

omit X H in
theorem rev_perm {p : Array Nat} (hp : PermOf n p) (i j : Nat) : PermOf n (kas_rev p i j) := (Array.Perm.toList (mirror_perm p i j _)).trans hp
omit X H in
theorem rev_asc {p : Array Nat} (hp : PermOf n p) {m : Nat} (hm : m ≤ n) (hd : Dsc lt p m) : Asc lt (kas_rev p 0 m) m := fun i j hij hj => by
  have g : ∀ k, k < m → (kas_rev p 0 m).getD k 0 = p.getD (m - 1 - k) 0 := fun k hk => by
    have e := getElem?_mirror_all (xs := p) (i := 0) (j := m) (by rw [hp.size]; exact hm) k
    rw [if_pos ⟨Nat.zero_le _, hk⟩, show 0 + m - 1 - k = m - 1 - k by omega] at e
    have h1 := (rev_perm hp 0 m).at (show k < n by omega)
    have h2 := hp.at (show m - 1 - k < n by omega)
    have e' : (kas_rev p 0 m)[k]? = p[m - 1 - k]? := e
    rw [h1, h2] at e'; exact Option.some.inj e'
  rw [g i (by omega), g j hj]
  exact hd (m - 1 - j) (m - 1 - i) (by omega) (by omega)

theorem descPart_wp {p : Array Nat} (hp : PermOf n p) (h2 : 2 ≤ n) (hl : lt (p.getD 1 0) (p.getD 0 0) = true) {Q : Nat × Array Nat → Shared → Prop}
    (hQ : ∀ m p', 1 ≤ m → m ≤ n → PermOf n p' → Asc lt p' m → Q (m, p') s) : (kas_descPart 1 n p).kasWp cmp Q s := by
  unfold kas_descPart
  rw [KasT.kasWp_bind]
  refine desc_wp X H hp (n - 2) 2 (by omega) (by omega) (fun i j hij hj => ?_) fun m h1 h3 hd => ?_
  · have : i = 0 := by omega
    have : j = 1 := by omega
    subst i; subst j; exact hl
  · simp only [gt_iff_lt, Nat.lt_irrefl, if_false]
    unfold kas_tail3
    rw [KasT.kasWp_bind]
    refine asc_wp X H (rev_perm hp 0 m) (n - m) m (by omega) (by omega) (rev_asc hp (by omega) hd) fun m' a b c d => ?_
    exact hQ m' _ (by omega) (by omega) (rev_perm hp 0 m) c

theorem count_wp {p : Array Nat} (hp : PermOf n p) (h2 : 2 ≤ n) {Q : Nat × Array Nat → Shared → Prop}
    (hQ : ∀ m p', 1 ≤ m → m ≤ n → PermOf n p' → Asc lt p' m → Q (m, p') s) : (kas_count n p).kasWp cmp Q s := by
  unfold kas_count
  rw [KasT.kasWp_bind]
  refine asc_wp X H hp (n - 1) 1 (Nat.le_refl _) (by omega) (fun i j hij hj => by omega) fun m h1 h3 ha hd => ?_
  by_cases e1 : (m == n) = true
  · rw [if_pos e1]; exact hQ m p h1 (by omega) hp ha
  · rw [if_neg e1]
    have hne : m ≠ n := fun q => e1 (by simp [q])
    by_cases e2 : m > 1
    · rw [if_pos e2]
      refine H _ _ _ (hp.lt_ (by omega)) (hp.lt_ (by omega)) ?_
      rw [ha 0 (m - 1) (by omega) (by omega)]
      simp only [if_true]
      exact hQ m p h1 (by omega) hp ha
    · rw [if_neg e2]
      have : m = 1 := by omega
      subst this
      refine descPart_wp X H hp h2 ?_ hQ
      rcases hd with hd | hd
      · omega
      · exact hd

theorem place_wp {p : Array Nat} (hp : PermOf n p) {k : Nat} (hk : k < n) (ha : Asc lt p k) {Q : Nat → Shared → Prop} : ∀ (f l r : Nat), l ≤ r → r ≤ k → r - l ≤ f →
    (∀ i, i < l → lt (p.getD i 0) (p.getD k 0) = true) → (∀ i, r ≤ i → i < k → lt (p.getD k 0) (p.getD i 0) = true) →
    (∀ l', l' ≤ k → (∀ i, i < l' → lt (p.getD i 0) (p.getD k 0) = true) → (∀ i, l' ≤ i → i < k → lt (p.getD k 0) (p.getD i 0) = true) → Q l' s) → (kas_place p k f l r).kasWp cmp Q s
  | 0, l, r, h1, h2, h3, h4, h5, hQ => by
    have : l = r := by omega
    subst this
    exact hQ l h2 h4 h5
  | f + 1, l, r, h1, h2, h3, h4, h5, hQ => by
    unfold kas_place
    by_cases hlr : l ≥ r
    · rw [if_pos hlr]
      have : l = r := by omega
      subst this
      exact hQ l h2 h4 h5
    · rw [if_neg hlr]
      refine H _ _ _ (hp.lt_ hk) (hp.lt_ (by omega)) ?_
      have hmk : (l + r) / 2 < k := by omega
      cases hl : lt (p.getD k 0) (p.getD ((l + r) / 2) 0) with
      | true =>
        simp only [if_true]
        refine place_wp hp hk ha f l ((l + r) / 2) (by omega) (by omega) (by omega) h4 (fun i hi hik => ?_) hQ
        rcases Nat.eq_or_lt_of_le hi with rfl | q
        · exact hl
        · exact X.trans _ _ _ (hp.lt_ hk) (hp.lt_ (by omega)) (hp.lt_ (by omega)) hl (ha _ i q hik)
      | false =>
        simp only [Bool.false_eq_true, if_false]
        have hmk2 := X.total _ _ (hp.lt_ hk) (hp.lt_ (show (l + r) / 2 < n by omega)) (fun e => by have := hp.inj hk (show (l + r) / 2 < n by omega) e; omega) hl
        refine place_wp hp hk ha f ((l + r) / 2 + 1) r (by omega) h2 (by omega) (fun i hi => ?_) h5 hQ
        rcases Nat.eq_or_lt_of_le (show i ≤ (l + r) / 2 by omega) with rfl | q
        · exact hmk2
        · exact X.trans _ _ _ (hp.lt_ (by omega)) (hp.lt_ (by omega)) (hp.lt_ hk) (ha i _ q (by omega)) hmk2

omit X H in
theorem bub_perm {p : Array Nat} (hp : PermOf n p) (k d : Nat) : PermOf n (bubble p k d) := (Array.Perm.toList (bubble_perm p k d)).trans hp
omit X H in
theorem bub_asc {p : Array Nat} (hp : PermOf n p) {k l : Nat} (hk : k < n) (hl : l ≤ k) (ha : Asc lt p k) (h4 : ∀ i, i < l → lt (p.getD i 0) (p.getD k 0) = true) (h5 : ∀ i, l ≤ i → i < k → lt (p.getD k 0) (p.getD i 0) = true) :
    Asc lt (bubble p k (k - l)) (k + 1) := fun i j hij hj => by
  have g : ∀ i, i < k + 1 → (bubble p k (k - l)).getD i 0 = if i = l then p.getD k 0 else if l < i then p.getD (i - 1) 0 else p.getD i 0 := fun i hi => by
    have e := getElem?_bubble (xs := p) (src := k) (by rw [hp.size]; exact hk) (k - l) (by omega) i
    rw [show k - (k - l) = l by omega, (bub_perm hp k (k - l)).at (by omega)] at e
    by_cases q1 : i = l
    · rw [if_pos q1] at e ⊢
      rw [hp.at hk] at e; exact Option.some.inj e
    · rw [if_neg q1] at e ⊢
      by_cases q2 : l < i
      · rw [if_pos ⟨q2, by omega⟩] at e
        rw [if_pos q2]
        rw [hp.at (by omega)] at e; exact Option.some.inj e
      · rw [if_neg (fun q => q2 q.1)] at e
        rw [if_neg q2]
        rw [hp.at (by omega)] at e; exact Option.some.inj e
  rw [g i (by omega), g j hj]
  by_cases q1 : i = l
  · rw [if_pos q1, if_neg (by omega), if_pos (by omega)]
    exact h5 _ (by omega) (by omega)
  · rw [if_neg q1]
    by_cases q2 : l < i
    · rw [if_pos q2, if_neg (by omega), if_pos (by omega)]
      exact ha _ _ (by omega) (by omega)
    · rw [if_neg q2]
      by_cases q3 : j = l
      · rw [if_pos q3]; exact h4 i (by omega)
      · rw [if_neg q3]
        by_cases q4 : l < j
        · rw [if_pos q4]
          by_cases q5 : i < j - 1
          · exact ha _ _ q5 (by omega)
          · omega
        · rw [if_neg q4]; exact ha _ _ hij (by omega)

theorem bin_wp {Q : Array Nat → Shared → Prop} (hQ : ∀ p, PermOf n p → Asc lt p n → Q p s) : ∀ (f k : Nat) (p : Array Nat), PermOf n p → k + f = n → Asc lt p k → (kas_bin f p k).kasWp cmp Q s
  | 0, k, p, hp, hk, ha => hQ p hp (by have : k = n := by omega
                                       rw [← this]; exact ha)
  | f + 1, k, p, hp, hk, ha => by
    unfold kas_bin
    rw [KasT.kasWp_bind]
    refine place_wp X H hp (by omega) ha k 0 k (Nat.zero_le _) (Nat.le_refl _) (by omega) (fun i hi => absurd hi (Nat.not_lt_zero _)) (fun i h1 h2 => by omega) fun l hl h4 h5 => ?_
    exact bin_wp hQ f (k + 1) _ (bub_perm hp k (k - l)) (by omega) (bub_asc hp (by omega) hl ha h4 h5)

theorem sort_wp (h2 : 2 ≤ n) {Q : Array Nat → Shared → Prop} (hQ : ∀ p, PermOf n p → Asc lt p n → Q p s) : (kas_sort n).kasWp cmp Q s := by
  unfold kas_sort
  rw [KasT.kasWp_bind]
  refine count_wp X H (p := List.toArray (List.range n)) (List.Perm.refl _) h2 fun m p h1 h3 hp ha => ?_
  dsimp only
  by_cases hlt : m < n
  · rw [if_pos hlt, show max m 1 = m by omega]
    exact bin_wp X H hQ (n - m) m p hp (by omega) ha
  · rw [if_neg hlt]
    have : m = n := by omega
    exact hQ p hp (this ▸ ha)
end
end Mine
end

section
open PySem PySem.W PyProof.Rows PySem.Calls
set_option Elab.async false
set_option autoImplicit false
set_option maxRecDepth 100000
set_option linter.unusedVariables false
namespace Mine

def klt (p q : Int × Int) : Bool := if p.1 = q.1 then decide (p.2 < q.2) else decide (p.1 < q.1)
theorem klt_trans {a b c : Int × Int} (h1 : klt a b = true) (h2 : klt b c = true) : klt a c = true := by
  unfold klt at *
  split at h1 <;> split at h2 <;> simp at h1 h2 <;> (split <;> simp) <;> omega
theorem klt_asym {a b : Int × Int} (h : klt a b = true) : klt b a = false := by
  unfold klt at *
  split at h <;> simp at h <;> (split <;> simp) <;> omega
theorem klt_total {a b : Int × Int} (hne : a ≠ b) (h : klt a b = false) : klt b a = true := by
  obtain ⟨a1, a2⟩ := a; obtain ⟨b1, b2⟩ := b
  unfold klt at *
  dsimp only at *
  by_cases e : a1 = b1
  · subst e
    have hne' : a2 ≠ b2 := fun e2 => hne (by rw [e2])
    rw [if_pos rfl] at h ⊢
    have h' : ¬ a2 < b2 := of_decide_eq_false h
    exact decide_eq_true (by omega)
  · rw [if_neg e] at h
    rw [if_neg (Ne.symm e)]
    have h' : ¬ a1 < b1 := of_decide_eq_false h
    exact decide_eq_true (by omega)

def KeyAt (h : Heap) (v : Value) (q : Int × Int) : Prop := ∃ b t1 t2 t3 n, v = .ref b ∧ h.get? b = some (tupObj [.int q.1 t1, .str (Str.ofString "!=") t2, .int q.2 t3] n)
theorem KeyAt.up {h h' : Heap} {v : Value} {q : Int × Int} (hk : ∀ b o, v = .ref b → h.get? b = some o → h'.get? b = some o) (x : KeyAt h v q) : KeyAt h' v q :=
  let ⟨b, t1, t2, t3, n, e, ho⟩ := x; ⟨b, t1, t2, t3, n, e, hk b _ e ho⟩

section
variable {prog : Program} {w : World} {A : Around} {E : Value → Shared → Prop} {s : Shared}

theorem key_lt {v u : Value} {p q : Int × Int} {Q : Bool → Shared → Prop} (hv : KeyAt s.heap v p) (hu : KeyAt s.heap u q) (h : Q (klt p q) s) : wpAny (model prog w) A (keyLt' (tuples' true) v u) Q E s := by
  obtain ⟨a, t1, t2, t3, n, rfl, ha⟩ := hv
  obtain ⟨b, u1, u2, u3, m, rfl, hb⟩ := hu
  refine kat_lt ha rfl hb rfl ?_
  refine kat_cons ?_
  refine wpAny_eqBool_int ?_
  refine kat_go (fun h1 => kat_yes ?_) (fun h1 => kat_no ?_)
  · have e1 : p.1 = q.1 := by simpa using h1
    refine kat_cons (SeqAt.EqAt.str_str _ _ _ _ prog w _ _ ?_)
    rw [beq_self_eq_true]
    refine kat_yes ?_
    refine kat_cons (wpAny_eqBool_int ?_)
    refine kat_go (fun h2 => kat_yes ?_) (fun h2 => kat_no ?_)
    · have e2 : p.2 = q.2 := by simpa using h2
      refine kat_nil ?_
      have : klt p q = false := by unfold klt; rw [if_pos e1, e2]; simp
      rw [this] at h
      exact h
    · refine kat_one _ _ (PyProof.Rows.lt_int ?_)
      have : klt p q = decide (p.2 < q.2) := by unfold klt; rw [if_pos e1]
      rw [this] at h; exact h
  · have e1 : p.1 ≠ q.1 := by simpa using h1
    refine oneLt_int ?_
    have : klt p q = decide (p.1 < q.1) := by unfold klt; rw [if_neg e1]
    rw [this] at h; exact h

theorem key_kind {vs : List Value} {kl : List (Int × Int)} {Q : SortKind → Shared → Prop} (hr : All2 (KeyAt s.heap) vs kl) (hne : 0 < kl.length) (h : Q (tuples' true) s) : wpAny (model prog w) A (keyKind' vs.toArray) Q E s := by
  obtain ⟨fs, t, hl, hi⟩ : ∃ fs, KatTups s.heap vs fs ∧ fs.length = kl.length ∧ ∀ v ∈ fs, ∃ i t, v = .int i t := by
    clear h hne
    induction hr with
    | nil => exact ⟨[], KatTups.nil, rfl, fun v hv => nomatch hv⟩
    | @cons v q vs kl h1 _ ih =>
      obtain ⟨fs, t, hl, hi⟩ := ih
      obtain ⟨b, t1, t2, t3, n, rfl, ho⟩ := h1
      refine ⟨.int q.1 t1 :: fs, KatTups.cons ho rfl rfl rfl t, by simp [hl], fun v hv => ?_⟩
      rcases List.mem_cons.mp hv with rfl | hv
      · exact ⟨_, _, rfl⟩
      · exact hi v hv
  exact kat_kind t (by omega) (T := .type "int") (fun v hv => by obtain ⟨i, t, rfl⟩ := hi v hv; exact Looks.of_pure rfl) (by decide) h

theorem all2_getD {α : Type} {R : Value → α → Prop} {vs : List Value} {l : List α} (h : All2 R vs l) (d : α) : ∀ {i : Nat}, i < l.length → R (vs.getD i .none) (l.getD i d) := fun {i} hi => by
  obtain ⟨v, hv, hr⟩ := h.get (List.getElem?_eq_getElem hi)
  have : vs.getD i .none = v := by simp [List.getD, hv]
  rw [this, List.getD, List.getElem?_eq_getElem hi]; exact hr

set_option maxHeartbeats 2000000 in
theorem list_sort_keys {a : Addr} {vs : List Value} {kl : List (Int × Int)} {n : Nat} {P : PySem.Fin → Shared → Prop} (ho : s.heap.get? a = some (seqObj "list" vs.toArray n)) (hr : All2 (KeyAt s.heap) vs kl) (hna : ∀ v ∈ vs, v ≠ .ref a) (hnd : kl.Nodup) (h64 : kl.length < 64)
    (h : ∀ (out : List Value) (kl' : List (Int × Int)) (h' : Heap), (∀ b o, b ≠ a → s.heap.get? b = some o → h'.get? b = some o) → (∃ m, h'.get? a = some (seqObj "list" out.toArray m)) → (∀ v ∈ out, v ∈ vs) → All2 (KeyAt s.heap) out kl' → kl'.Perm kl → kl'.Pairwise (fun p q => klt p q = true) → P (.done (.ret .none)) { s with heap := h' }) :
    wpAny (model prog w) A (Builtin.«list.sort» ⟨[.ref a], []⟩) P E s := by
  rw [list_sort_plain]
  have ha : a < s.heap.objs.size := Heap.lt_size ho
  have hvl : vs.length = kl.length := hr.length
  refine wpAny_bind (listItems_at ho rfl ?_)
  refine wpAny_bind (listUpdate_at ho rfl ?_ (by rw [List.size_toArray, sizeLine_eq]; omega) (Nat.zero_le _))
  obtain ⟨e1, ho1⟩ : ∃ e1, (s.heap.update a (Obj.mapSeq fun _ => #[])).get? a = some (seqObj "list" #[] e1) := ⟨_, get?_update_seq ho (fun _ => #[])⟩
  refine wpAny_bind (seqEpoch_at ho1 rfl ?_)
  refine wpAny_bind (wpAny_newTuple ?_ (by show vs.length ≤ _; rw [sizeLine_eq]; omega))
  refine wpAny_bind (wpAny_newList ?_ (Nat.zero_le _))
  refine wpAny_holding ?_
  have oth : ∀ b o, b ≠ a → s.heap.get? b = some o → (((s.heap.update a (Obj.mapSeq fun _ => #[])).push (seqObj "tuple" vs.toArray 0)).push (seqObj "list" #[] 0)).get? b = some o := fun b o hb e =>
    Heap.get?_push_of_some _ (Heap.get?_push_of_some _ (by rw [Heap.get?_update_ne _ _ _ _ hb]; exact e))
  have ho6 : (((s.heap.update a (Obj.mapSeq fun _ => #[])).push (seqObj "tuple" vs.toArray 0)).push (seqObj "list" #[] 0)).get? a = some (seqObj "list" #[] e1) :=
    Heap.get?_push_of_some _ (Heap.get?_push_of_some _ ho1)
  show wpAny (model prog w) A _ P E { s with heap := ((s.heap.update a (Obj.mapSeq fun _ => #[])).push (seqObj "tuple" vs.toArray 0)).push (seqObj "list" #[] 0) }
  generalize hh6 : ((s.heap.update a (Obj.mapSeq fun _ => #[])).push (seqObj "tuple" vs.toArray 0)).push (seqObj "list" #[] 0) = h6 at *
  have upK : ∀ v q, v ∈ vs → KeyAt s.heap v q → KeyAt h6 v q := fun v q hv x => x.up fun b o e ho => oth b o (fun eb => hna v hv (by rw [e, eb])) ho
  have hr6 : All2 (KeyAt h6) vs kl := by
    have gen : ∀ {l : List Value} {m : List (Int × Int)}, (∀ v ∈ l, v ∈ vs) → All2 (KeyAt s.heap) l m → All2 (KeyAt h6) l m := by
      intro l
      induction l with
      | nil => intro m _ x; cases x; exact .nil
      | cons v l ih => intro m hl x; cases x with | cons h1 h2 => exact .cons (upK _ _ (hl v (by simp)) h1) (ih (fun u hu => hl u (List.mem_cons_of_mem _ hu)) h2)
    exact gen (fun _ h => h) hr
  have hsz : vs.toArray.size = vs.length := by simp
  -- the end
  have fin : ∀ (st' : SortSt) (out : List Value) (kl' : List (Int × Int)), (arrOf st').map (·.2) = out.toArray → failedOf st' = none → (∀ v ∈ out, v ∈ vs) → All2 (KeyAt s.heap) out kl' → kl'.Perm kl → kl'.Pairwise (fun p q => klt p q = true) →
      wpAny (model prog w) A (do
        let sorted := (arrOf st').map (·.2)
        let touched := (← seqEpoch a) != e1
        Builtin.List.listUpdate (.ref a) fun _ => sorted
        if let some e := failedOf st' then rule "list.sort.comparison-raised"; throw e
        if touched then rule "list.sort.modified"; raiseError "ValueError" "list modified during sort"
        ret .none) P E { s with heap := h6 } := fun st' out kl' hout hfail hsub hA hp hs => by
    have hol : out.length = kl.length := by rw [hA.length, hp.length_eq]
    refine wpAny_bind (seqEpoch_at ho6 rfl ?_)
    refine wpAny_bind (listUpdate_at ho6 rfl ?_ (Nat.zero_le _) (by show ((arrOf st').map (·.2)).size ≤ _; rw [hout, List.size_toArray, sizeLine_eq]; omega))
    rw [hfail]
    simp only [bne_self_eq_false, Bool.false_eq_true, if_false]
    refine wpAny_pure (h out kl' _ (fun b o hb e => ?_) ?_ hsub hA hp hs)
    · rw [Heap.get?_update_ne _ _ _ _ hb]; exact oth b o hb e
    · rw [hout]; exact ⟨_, get?_update_seq ho6 fun _ => out.toArray⟩
  dsimp only
  by_cases h2 : vs.toArray.size < 2
  · rw [if_pos h2, if_pos h2]
    refine wpAny_bind (wpAny_pure ?_)
    rw [StateT.run_pure]
    refine wpAny_bind (wpAny_pure ?_)
    refine fin _ vs kl ?_ rfl (fun _ h => h) hr (List.Perm.refl _) ?_
    · show (vs.toArray.zip vs.toArray).map (·.2) = vs.toArray
      apply Array.toList_inj.mp
      simp [List.map_snd_zip]
    · match kl, hvl, h2 with
      | [], _, _ => exact .nil
      | [_], _, _ => exact List.pairwise_singleton _ _
      | _ :: _ :: _, hvl, h2 => rw [hsz, hvl] at h2; simp at h2; omega
  · rw [if_neg h2, if_neg h2]
    rw [hsz] at h2
    refine wpAny_bind (key_kind (s := { s with heap := h6 }) hr6 (by omega) ?_)
    have X : Strict vs.length (fun i j => klt (kl.getD i (0, 0)) (kl.getD j (0, 0))) := by
      refine ⟨fun i j k hi hj hk h1 h2 => klt_trans h1 h2, fun i j hi hj h1 => klt_asym h1, fun i j hi hj hne h1 => klt_total (fun e => hne ?_) h1⟩
      rw [hvl] at hi hj
      refine (List.getElem?_inj hi hnd).mp ?_
      rw [List.getElem?_eq_getElem hi, List.getElem?_eq_getElem hj]
      simpa [List.getD, hi, hj] using e
    have run := kat_run (prog := prog) (w := w) (A := A) (E := E) (κ := tuples' true) (ks := vs) (vs := vs) (s := { s with heap := h6 })
      (Q := fun st' s' => s' = { s with heap := h6 } ∧ failedOf st' = none ∧ ∃ p : Array Nat, PermOf vs.length p ∧ Asc (fun i j => klt (kl.getD i (0, 0)) (kl.getD j (0, 0))) p vs.length ∧ arrOf st' = p.map (kas_item (vs.toArray.zip vs.toArray)))
      (G := fun p s' => s' = { s with heap := h6 } ∧ PermOf vs.length p ∧ Asc (fun i j => klt (kl.getD i (0, 0)) (kl.getD j (0, 0))) p vs.length)
      rfl (by omega) (by omega) (fun p st' s' _ a2 a3 ⟨g1, g2, g3⟩ => ⟨g1, a3, p, g2, g3, a2⟩)
      (sort_wp X (fun i j C hi hj hC => key_lt (s := { s with heap := h6 }) (all2_getD hr6 (0, 0) (by omega)) (all2_getD hr6 (0, 0) (by omega)) hC) (by omega) fun p hp ha => ⟨rfl, hp, ha⟩)
    refine wpAny_bind (wpAny_mono run ?_ fun _ _ e => e)
    rintro ⟨⟨⟩, st'⟩ s' ⟨rfl, hf, p, hp, hasc, harr⟩
    have hps := hp.size
    refine fin st' (p.toList.map fun i => vs.getD i Value.none) (p.toList.map fun i => kl.getD i (0, 0)) (kat_snds rfl harr) hf ?_ ?_ ?_ ?_
    · intro v hv
      obtain ⟨i, hi, rfl⟩ := List.mem_map.mp hv
      have hil : i < vs.length := List.mem_range.mp (hp.mem_iff.mp hi)
      simp [List.getD, hil]
    · have gen : ∀ l : List Nat, (∀ i ∈ l, i < vs.length) → All2 (KeyAt s.heap) (l.map fun i => vs.getD i Value.none) (l.map fun i => kl.getD i (0, 0)) := by
        intro l
        induction l with
        | nil => intro _; exact .nil
        | cons i l ih => intro hl; exact .cons (all2_getD hr (0, 0) (by have := hl i (by simp); omega)) (ih fun j hj => hl j (List.mem_cons_of_mem _ hj))
      exact gen p.toList fun i hi => List.mem_range.mp (hp.mem_iff.mp hi)
    · have h1 := hp.map fun i => kl.getD i (0, 0)
      refine h1.trans (List.Perm.of_eq ?_)
      apply List.ext_getElem?
      intro i
      rw [List.getElem?_map]
      rcases Nat.lt_or_ge i kl.length with hi | hi
      · rw [List.getElem?_range (by omega), List.getElem?_eq_getElem hi]; simp [List.getD, hi]
      · rw [List.getElem?_eq_none (by simp; omega), List.getElem?_eq_none hi]; rfl
    · rw [List.pairwise_map, List.pairwise_iff_getElem]
      intro i j hi hj hij
      have hi' : i < p.size := by simpa using hi
      have hj' : j < p.size := by simpa using hj
      have := hasc i j hij (by omega)
      simpa [Array.getD, hi', hj'] using this
end
end Mine
end

section
open PySem PySem.W PyProof.Rows PySem.Calls
set_option Elab.async false
set_option autoImplicit false
set_option maxRecDepth 100000
set_option linter.unusedVariables false
namespace Mine
def SortedK (l : List (Int × Int)) : Prop := l.Pairwise (fun p q => klt p q = true)

section
variable {prog : Program} {Γ : Pm} {g : PMap} {own : List Res} {s : Shared} {A : Around} {E : Value → Shared → Prop}
theorem St.same {s' : Shared} (S : St Γ g own s) (h : SameBase s s') : St Γ g own s' := S.kept h.1 h.2.1 h.2.2

theorem q_sorted {x : Value} {C : List Value → Prop} {R : List Value → Prop} {Q : Value → Shared → Prop} (S : St Γ g own s) (hz : ∀ ys, C ys → ys.length ≤ 1000)
    (hcol : ∀ (Q' : List Value → Shared → Prop), (∀ ys s', SameBase s s' → C ys → Q' ys s') → wpAny (model prog Γ.w) A.in1 (collect x) Q' E s)
    (hsort : ∀ ys a s₂ (P : PySem.Fin → Shared → Prop), C ys → St Γ g (rObj a (seqObj "list" ys.toArray 0) :: own) s₂ →
      (∀ (out : List Value) h', (∀ b o, b ≠ a → s₂.heap.get? b = some o → h'.get? b = some o) → (∃ m, h'.get? a = some (seqObj "list" out.toArray m)) → R out → P (.done (.ret .none)) { s₂ with heap := h' }) →
      wpAny (model prog Γ.w) A.in1.in1 (Builtin.«list.sort» ⟨[.ref a], []⟩) P E s₂)
    (h : ∀ a out m g' s', Le g g' → g' a = some (lstObj out m) → R out → St Γ g' own s' → Q (.ref a) s') :
    wpAny (model prog Γ.w) A (call (.builtin "sorted") [x]) Q E s := by
  refine Calls.call_function_entry kind_sorted plain_sorted entry_sorted (args_sorted1 _) ?_
  unfold Builtin.«sorted»
  refine wpAny_bind (m := checkCount "sorted" 1 1 _) (wpAny_pure ?_)
  refine wpAny_bind (hcol _ fun ys s₁ hsb hC => ?_)
  refine wpAny_bind (wpAny_newList ?_ (by have := hz ys hC; show ys.toArray.size ≤ _; rw [List.size_toArray, sizeLine_eq]; omega))
  have S₂ := (S.same hsb).alloc (seqObj "list" ys.toArray 0)
  show wpAny _ _ _ _ _ { s₁ with heap := s₁.heap.push (seqObj "list" ys.toArray 0) }
  refine wpAny_bind (wpAny_holding (wpAny_call_entry slot_list_sort ⟨_, S₂.load (i := 0) rfl, rfl⟩ entry_list_sort ?_ (args_list_sort _)))
  refine hsort ys _ _ _ hC S₂ fun out h' hk ⟨m, hm⟩ hR => ⟨_, rfl, ?_⟩
  refine wpAny_pure ⟨_, rfl, ?_⟩
  have S₃ := S₂.set (s' := { s₁ with heap := h' }) 0 (rObj s₁.heap.objs.size (seqObj "list" out.toArray m)) rfl (fun _ q => q) (fun b o hb e => hk b o hb e) hm rfl rfl
  obtain ⟨hl, S₄⟩ := St.rest S₃
  exact h _ out m _ _ hl ins_self hR S₄

theorem keyAt_of {h : Heap} {v : Value} {q : Int × Int} (hk : ∀ b o, g b = some o → h.get? b = some o) (x : rKey.at' g v q) : KeyAt h v q :=
  let ⟨b, t1, t2, t3, n, e, hb⟩ := x; ⟨b, t1, t2, t3, n, e, hk _ _ hb⟩
theorem KeyAt.uniq {h : Heap} {v : Value} {p q : Int × Int} (x : KeyAt h v p) (y : KeyAt h v q) : p = q := by
  obtain ⟨b, t1, t2, t3, n, e, hb⟩ := x
  obtain ⟨c, u1, u2, u3, m, e', hc⟩ := y
  rw [e] at e'; cases e'
  rw [hb] at hc
  obtain ⟨p1, p2⟩ := p; obtain ⟨q1, q2⟩ := q
  injection hc with hc
  injection hc with _ _ hc _
  injection hc with hc _
  simp at hc
  obtain ⟨⟨h1, _⟩, _, h2, _⟩ := hc
  rw [h1, h2]
theorem keys_back {h : Heap} {vs out : List Value} {kl kl' : List (Int × Int)} (hk : ∀ b o, g b = some o → h.get? b = some o) (hr : All2 (rKey.at' g) vs kl) (hsub : ∀ v ∈ out, v ∈ vs) (hA : All2 (KeyAt h) out kl') : All2 (rKey.at' g) out kl' := by
  induction hA with
  | nil => exact .nil
  | @cons v q out kl' h1 _ ih =>
    refine .cons ?_ (ih fun u hu => hsub u (List.mem_cons_of_mem _ hu))
    obtain ⟨i, hi⟩ := List.getElem?_of_mem (hsub v (by simp))
    obtain ⟨q', hq', hv⟩ := hr.get' hi
    rw [h1.uniq (keyAt_of hk hv)]; exact hv

theorem not_own_of {v : Value} {q : Int × Int} {i : Nat} {a : Addr} {o : Obj} (S : St Γ g own s) (hi : own[i]? = some (rObj a o)) (hv : rKey.at' g v q) : v ≠ .ref a := by
  obtain ⟨b, t1, t2, t3, n, rfl, hb⟩ := hv
  intro e; cases e
  have := S.off i _ hi a rfl
  rw [hb] at this; cases this

theorem sorted_keys {x : Value} {vs : List Value} {kl : List (Int × Int)} {Q : Value → Shared → Prop} (S : St Γ g own s) (hr : All2 (rKey.at' g) vs kl) (hnd : kl.Nodup) (h64 : kl.length < 64)
    (hcol : ∀ (Q' : List Value → Shared → Prop), (∀ ys s', SameBase s s' → ys.Perm vs → Q' ys s') → wpAny (model prog Γ.w) A.in1 (collect x) Q' E s)
    (h : ∀ v kl' g' s', Le g g' → (rLst rKey).at' g' v kl' → kl'.Perm kl → SortedK kl' → St Γ g' own s' → Q v s') :
    wpAny (model prog Γ.w) A (call (.builtin "sorted") [x]) Q E s := by
  have hvl := hr.length
  refine q_sorted (C := fun ys => ys.Perm vs) (R := fun out => ∃ kl', All2 (rKey.at' g) out kl' ∧ kl'.Perm kl ∧ SortedK kl') S (fun ys hp => by rw [hp.length_eq]; omega) hcol (fun ys a s₂ P hp S₂ hP => ?_) fun a out m g' s' hl ha ⟨kl', h1, h2, h3⟩ S' => ?_
  · obtain ⟨kl1, hk1, hr1⟩ := All2.perm hp hr
    refine list_sort_keys (S₂.load (i := 0) rfl) (hr1.imp fun v q hv => keyAt_of S₂.keep hv) (fun v hv => ?_) (hk1.nodup_iff.mpr hnd) (by rw [hk1.length_eq]; exact h64) fun out kl' h' hk hm hsub hA hp' hs => hP out h' hk hm ⟨kl', ?_, hp'.trans hk1, hs⟩
    · obtain ⟨i, hi⟩ := List.getElem?_of_mem hv
      obtain ⟨q, _, hq⟩ := hr1.get' hi
      exact not_own_of (i := 0) S₂ rfl hq
    · exact keys_back S₂.keep hr1 hsub hA
  · exact h _ kl' g' s' hl ⟨a, out, m, rfl, ha, h1.imp fun _ _ q => rKey.mono hl q⟩ h2 h3 S'

theorem q_sortedSetK {a : Addr} {vs : List Value} {kl : List (Int × Int)} {Q : Value → Shared → Prop} (S : St Γ g (rSetV Γ.w a vs :: own) s) (hA : Room A 3) (hr : All2 (rKey.at' g) vs kl) (hnd : kl.Nodup) (h64 : kl.length < 64)
    (h : ∀ v kl' g' s', Le g g' → (rLst rKey).at' g' v kl' → kl'.Perm kl → SortedK kl' → St Γ g' own s' → Q v s') :
    wpAny (model prog Γ.w) A (call (.builtin "sorted") [.ref a]) Q E s :=
  sorted_keys S hr hnd h64 (fun Q' hq => collect_set hA.1 (S.holds 0 _ rfl) fun ys s' hp hsb => hq ys s' hsb hp) fun v kl' g' s' a b c d e => h v kl' g' s' a b c d e.drop

theorem q_sortedSetI {a : Addr} {vs : List Value} {kl : List Int} {Q : Value → Shared → Prop} (S : St Γ g (rSetV Γ.w a vs :: own) s) (hA : Room A 3) (hr : All2 (rInt.at' g) vs kl) (h64 : kl.length < 64)
    (h : ∀ v kl' g' s', Le g g' → (rLst rInt).at' g' v kl' → kl'.Perm kl → St Γ g' own s' → Q v s') :
    wpAny (model prog Γ.w) A (call (.builtin "sorted") [.ref a]) Q E s := by
  have hvl := hr.length
  refine q_sorted (C := fun ys => ys.Perm vs) (R := fun out => ∃ kl', All2 (rInt.at' g) out kl' ∧ kl'.Perm kl) S (fun ys hp => by rw [hp.length_eq]; omega)
    (fun Q' hq => collect_set hA.1 (S.holds 0 _ rfl) fun ys s' hp hsb => hq ys s' hsb hp) (fun ys a s₂ P hp S₂ hP => ?_) fun a out m g' s' hl ha ⟨kl', h1, h2⟩ S' => ?_
  · obtain ⟨kl1, hk1, hr1⟩ := All2.perm hp hr
    refine list_sort_tree (S₂.load (i := 0) rfl) (intsAre hr1) (by rw [hr1.length, hk1.length_eq]; exact h64) fun out ns' h1 h2 h3 => ?_
    refine hP out.toList (sortedHeap s₂.heap a ys out) (fun b o hb e => ?_) ?_ ⟨ns', ?_, h2.trans hk1⟩
    · show (sortedHeap s₂.heap a ys out).get? b = some o
      unfold sortedHeap
      rw [Heap.get?_update_ne _ _ _ _ hb]
      exact Heap.get?_push_of_some _ (Heap.get?_push_of_some _ (by rw [Heap.get?_update_ne _ _ _ _ hb]; exact e))
    · unfold sortedHeap
      have ho := S₂.load (i := 0) rfl
      have h6 : (((s₂.heap.update a (Obj.mapSeq fun _ => #[])).push (seqObj "tuple" ys.toArray 0)).push (seqObj "list" #[] 0)).get? a = some (seqObj "list" #[] _) :=
        Heap.get?_push_of_some _ (Heap.get?_push_of_some _ (get?_update_seq ho fun _ => #[]))
      exact ⟨_, by simpa using get?_update_seq h6 fun _ => out⟩
    · clear hP
      have gen : ∀ {l : List Value} {m : List Int}, IntsAre l m → All2 (rInt.at' g) l m := by
        intro l m hh
        induction hh with
        | nil => exact .nil
        | cons n t _ ih => exact .cons ⟨t, rfl⟩ ih
      exact gen h1
  · exact h _ kl' g' s' hl ⟨a, out, m, rfl, ha, h1.imp fun _ _ q => rInt.mono hl q⟩ h2 S'.drop
end
end Mine
end

section
open PySem PySem.W PyProof.Rows PySem.Calls
set_option Elab.async false
set_option autoImplicit false
set_option maxRecDepth 100000
set_option linter.unusedVariables false
namespace Mine

abbrev NKV := (Int × Int) × Addr
def triOf (x : NKV) : List (Int ⊕ Str) × Addr × Value := (kk x.1, x.2, .bool true)
inductive NotedR (prog : Program) (w : World) (kvs : List NKV) (o : Obj) (es : Array DictEntry) (ep : Nat) : Prop
  | mk (x : o.ExactDict) (d : o.data = .dict es ep) (e : es.toList = (kvs.map triOf).map (entryOfKey (tk prog w)))
inductive NotedIs (prog : Program) (w : World) (d : Addr) (kvs : List NKV) (h : Heap) : Prop
  | mk (hd : (d == sysModules) = false) (o : Obj) (es : Array DictEntry) (ep : Nat) (ho : h.get? d = some o) (r : NotedR prog w kvs o es ep)
def rNoted (prog : Program) (w : World) (d : Addr) (kvs : List NKV) : Res where
  fp := fun b => b = d
  P := fun h => NotedIs prog w d kvs h
  loc := fun _ _ hk ⟨hd, o, es, ep, ho, r⟩ => ⟨hd, o, es, ep, hk d o rfl ho, r⟩
  dom := fun _ ⟨hd, o, es, ep, ho, r⟩ b hb => by subst hb; exact ⟨o, ho⟩
structure NotedOk (g : PMap) (kvs : List NKV) : Prop where
  key : ∀ x ∈ kvs, rKey.at' g (.ref x.2) x.1
  nd : (kvs.map (·.1)).Nodup
theorem NotedOk.mono {g g' : PMap} {kvs : List NKV} (h : Le g g') (x : NotedOk g kvs) : NotedOk g' kvs := ⟨fun y hy => rKey.mono h (x.key y hy), x.nd⟩
theorem NotedOk.nil (g : PMap) : NotedOk g [] := ⟨fun _ h => (nomatch h), List.nodup_nil⟩

section
variable {prog : Program} {Γ : Pm} {g : PMap} {own : List Res} {s : Shared} {A : Around} {E : Value → Shared → Prop} {env : Env}

theorem keyRef {h : Heap} {b : Addr} {p : Int × Int} (hk : ∀ a o, g a = some o → h.get? a = some o) (hv : rKey.at' g (.ref b) p) : IsKey prog Γ.w h p b := by
  obtain ⟨b', e, hb⟩ := key_of (prog := prog) (w := Γ.w) hk hv
  cases e; exact hb

theorem noted_dict {i : Nat} {d : Addr} {kvs : List NKV} (S : St Γ g own s) (hi : own[i]? = some (rNoted prog Γ.w d kvs)) (ok : NotedOk g kvs) : s.heap.DictOfH (tk prog Γ.w) d (kvs.map triOf) := by
  obtain ⟨hd, o, es, ep, ho, hc, hdat, he⟩ := S.holds i _ hi
  refine ⟨o, es, ep, ho, hc, hdat, he, fun x hx => ?_, ?_⟩
  · obtain ⟨y, hy, rfl⟩ := List.mem_map.mp hx
    exact keyRef S.keep (ok.key y hy)
  · have : (kvs.map triOf).map (·.1) = (kvs.map (·.1)).map kk := by rw [List.map_map, List.map_map]; rfl
    rw [this]
    unfold List.Nodup
    rw [List.pairwise_map]
    exact ok.nd.imp fun h e => h (kk_inj e)

theorem stored_noted {kvs : List NKV} {p : Int × Int} {b : Addr} : (p ∈ kvs.map (·.1) ∧ storedH (kvs.map triOf) (kk p) b (.bool true) = kvs.map triOf) ∨
    (p ∉ kvs.map (·.1) ∧ storedH (kvs.map triOf) (kk p) b (.bool true) = (kvs ++ [(p, b)]).map triOf) := by
  by_cases hp : p ∈ kvs.map (·.1)
  · left
    refine ⟨hp, ?_⟩
    have hput : (kvs.map triOf).map (putAt (kk p) (.bool true)) = kvs.map triOf := by
      rw [List.map_map]
      refine List.map_congr_left fun x _ => ?_
      show putAt (kk p) (.bool true) (triOf x) = triOf x
      unfold putAt triOf
      split
      · rfl
      · rfl
    unfold storedH
    split
    · exact hput
    · rename_i hno
      exfalso
      obtain ⟨x, hx, rfl⟩ := List.mem_map.mp hp
      have : atKey (kvs.map triOf) (kk x.1) ≠ none := by
        unfold atKey
        intro hn
        rw [Option.map_eq_none_iff, List.find?_eq_none] at hn
        exact hn _ (List.mem_map_of_mem hx) (by simp [triOf])
      exact hno (Option.isSome_iff_ne_none.mpr this)
  · right
    refine ⟨hp, ?_⟩
    have hn : atKey (kvs.map triOf) (kk p) = none := by
      unfold atKey
      rw [Option.map_eq_none_iff, List.find?_eq_none]
      intro x hx
      obtain ⟨y, hy, rfl⟩ := List.mem_map.mp hx
      simp only [decide_eq_true_eq]
      intro e
      exact hp (List.mem_map.mpr ⟨y, hy, kk_inj e⟩)
    rw [storedH_new hn, List.map_append]; rfl

theorem noted_after {i : Nat} {d b : Addr} {kvs : List NKV} {p : Int × Int} {h' : Heap} {tks : Nat} (S : St Γ g own s) (hi : own[i]? = some (rNoted prog Γ.w d kvs)) (ok : NotedOk g kvs) (hb : rKey.at' g (.ref b) p)
    (hD : h'.DictOfH (tk prog Γ.w) d (storedH (kvs.map triOf) (kk p) b (.bool true))) (hs : Heap.SameBut d s.heap h') :
    ∃ kvs', NotedOk g kvs' ∧ kvs'.length ≤ kvs.length + 1 ∧ (∀ q, q ∈ kvs'.map (·.1) ↔ q = p ∨ q ∈ kvs.map (·.1)) ∧ St Γ g (own.set i (rNoted prog Γ.w d kvs')) { s with heap := h', toks := tks } := by
  obtain ⟨hd, _⟩ := S.holds i _ hi
  obtain ⟨o, es, ep, ho, hc, hdat, he, _, _⟩ := hD
  have mk : ∀ kvs', storedH (kvs.map triOf) (kk p) b (.bool true) = kvs'.map triOf → St Γ g (own.set i (rNoted prog Γ.w d kvs')) { s with heap := h', toks := tks } := fun kvs' e =>
    S.set i (rNoted prog Γ.w d kvs') hi (fun _ q => q) (fun c oc hcne x => by rw [hs.2 c (fun q => hcne q)]; exact x) ⟨hd, o, es, ep, ho, hc, hdat, by rw [← e]; exact he⟩ rfl rfl
  rcases stored_noted (kvs := kvs) (p := p) (b := b) with ⟨hp, e⟩ | ⟨hp, e⟩
  · exact ⟨kvs, ok, Nat.le_succ _, fun q => ⟨.inr, fun q1 => q1.elim (fun q2 => q2 ▸ hp) id⟩, mk kvs e⟩
  · refine ⟨kvs ++ [(p, b)], ⟨fun x hx => ?_, ?_⟩, by simp, fun q => ?_, mk _ e⟩
    · rcases List.mem_append.mp hx with hx | hx
      · exact ok.key x hx
      · rw [List.mem_singleton.mp hx]; exact hb
    · rw [List.map_append, List.nodup_append]
      exact ⟨ok.nd, by simp, fun a ha c hc => by simp at hc; subst hc; rintro rfl; exact hp ha⟩
    · rw [List.map_append, List.mem_append]; simp; exact Or.comm

theorem q_notedSet {i : Nat} {d : Addr} {v : Value} {kvs : List NKV} {p : Int × Int} {Q : Unit → Shared → Prop} {n : Nat} (S : St Γ g own s) (hA : Room A (n + 1)) (hi : own[i]? = some (rNoted prog Γ.w d kvs)) (ok : NotedOk g kvs) (hv : rKey.at' g v p) (hlen : kvs.length ≤ 1000)
    (h : ∀ kvs' s', NotedOk g kvs' → kvs'.length ≤ kvs.length + 1 → (∀ q, q ∈ kvs'.map (·.1) ↔ q = p ∨ q ∈ kvs.map (·.1)) → St Γ g (own.set i (rNoted prog Γ.w d kvs')) s' → Q () s') :
    wpAny (model prog Γ.w) A (setItem (.ref d) v (.bool true)) Q E s := by
  have hv' := hv
  obtain ⟨b, _, _, _, _, rfl, _⟩ := hv'
  refine wpAny_setItem_heap (knd := tk prog Γ.w) (by show A.units + 1 < cLine; have := hA.units; omega) (keyRef S.keep hv) (noted_dict S hi ok) (fun h' hD hs => ?_) (by rw [List.length_map, sizeLine_eq]; omega)
  obtain ⟨kvs', a1, a2, a3, a4⟩ := noted_after (tks := s.toks + (tk prog Γ.w).draws (kk p)) S hi ok hv hD hs
  exact h kvs' _ a1 a2 a3 a4

theorem notSys (S : St Γ g own s) : (s.heap.objs.size == sysModules) = false := by
  have h1 := S.lookup (f := 35) rfl
  have h2 := Heap.lt_size h1
  rw [beq_eq_false_iff_ne]
  intro e
  have : (35 : Nat) < s.heap.objs.size := h2
  rw [e] at this
  exact absurd this (by decide)

theorem St.newNoted (S : St Γ g own s) : St Γ g (rNoted prog Γ.w s.heap.objs.size [] :: own) { s with heap := s.heap.push { cls := .type "dict", data := .dict #[] } } :=
  S.cons (fun b o e => Heap.get?_push_of_some _ e) rfl rfl ⟨notSys S, _, #[], 0, Heap.get?_push_size _ rfl, ⟨rfl, rfl, rfl⟩, rfl, rfl⟩ fun b hb => Nat.le_of_eq (Eq.symm hb)

theorem q_dictEmpty {pos : Pos} {Q : Value → Shared → Prop} (S : St Γ g own s) (h : ∀ d s', St Γ g (rNoted prog Γ.w d [] :: own) s' → Q (.ref d) s') : wpAny (model prog Γ.w) A (eval (.Dict [] [] pos) env) Q E s :=
  wpAny_Dict_empty (h _ _ S.newNoted)

theorem q_dictOne {kx vx : Expr} {pos : Pos} {Q : Value → Shared → Prop} {n : Nat} (S : St Γ g own s) (hA : Room A (n + 1))
    (hk : ∀ d s', St Γ g (rNoted prog Γ.w d [] :: own) s' → wpAny (model prog Γ.w) A (eval kx env) (fun kv s₁ => ∃ g' p, Le g g' ∧ rKey.at' g' kv p ∧ St Γ g' (rNoted prog Γ.w d [] :: own) s₁ ∧
      wpAny (model prog Γ.w) A (eval vx env) (fun vv s₂ => vv = .bool true ∧ s₂ = s₁ ∧ ∀ kvs s₃, NotedOk g' kvs → kvs.length ≤ 1 → (∀ q, q ∈ kvs.map (·.1) ↔ q = p) → St Γ g' (rNoted prog Γ.w d kvs :: own) s₃ → Q (.ref d) s₃) E s₁) E s') :
    wpAny (model prog Γ.w) A (eval (.Dict [some kx] [vx] pos) env) Q E s := by
  refine wpAny_Dict_any rfl rfl (by simp) (by simp) ?_
  refine evalPairs_cons ?_
  refine wpAny_mono (hk _ _ S.newNoted) (fun kv s₁ hk1 => ?_) fun _ _ e => e
  obtain ⟨g', p, hl, hkey, S₁, hk2⟩ := hk1
  refine wpAny_bind (wpAny_mono hk2 (fun vv s₂ hk3 => ?_) fun _ _ e => e)
  obtain ⟨rfl, rfl, hq⟩ := hk3
  refine wpAny_bind (wpAny_standAt (wpAny_pure ?_))
  refine evalPairs_nil ?_
  unfold storeAll
  rw [List.forIn_cons]
  have hkey' := hkey
  obtain ⟨b, _, _, _, _, rfl, _⟩ := hkey'
  refine wpAny_bind (wpAny_bind ?_)
  refine wpAny_dictSet_heap (knd := tk prog Γ.w) (by show A.units < cLine; have := hA.units; omega) (keyRef S₁.keep hkey) (noted_dict (i := 0) S₁ rfl (NotedOk.nil g')) (fun h' hD hs => ?_) (Nat.zero_le _)
  obtain ⟨kvs', a1, a2, a3, a4⟩ := noted_after (i := 0) (tks := s₂.toks + (tk prog Γ.w).draws (kk p)) S₁ rfl (NotedOk.nil g') hkey hD hs
  refine wpAny_pure ?_
  dsimp only
  rw [List.forIn_nil]
  exact wpAny_pure (hq kvs' _ a1 a2 (fun q => by rw [a3 q]; simp) a4)

theorem noted_at {i : Nat} {d : Addr} {kvs : List NKV} (S : St Γ g own s) (hi : own[i]? = some (rNoted prog Γ.w d kvs)) : (d == sysModules) = false ∧ ∃ es ep, DAt s.heap d es ep ∧ es.toList.map (·.key) = kvs.map (fun x => .ref x.2) ∧ (∀ e ∈ es, e.val = .bool true) ∧ es.size = kvs.length := by
  obtain ⟨hd, o, es, ep, ho, hc, hdat, he⟩ := S.holds i _ hi
  refine ⟨hd, es, ep, ⟨o, ho, hc, hdat⟩, ?_, fun e hm => ?_, ?_⟩
  · rw [he, List.map_map, List.map_map]; rfl
  · have : e ∈ es.toList := Array.mem_toList_iff.mpr hm
    rw [he, List.map_map] at this
    obtain ⟨x, _, rfl⟩ := List.mem_map.mp this
    rfl
  · have := congrArg List.length he; simpa using this

theorem q_sortedNoted {i : Nat} {d : Addr} {kvs : List NKV} {Q : Value → Shared → Prop} (S : St Γ g own s) (hA : Room A 3) (hi : own[i]? = some (rNoted prog Γ.w d kvs)) (ok : NotedOk g kvs) (h64 : kvs.length < 64)
    (h : ∀ v kl' g' s', Le g g' → (rLst rKey).at' g' v kl' → kl'.Perm (kvs.map (·.1)) → SortedK kl' → St Γ g' own s' → Q v s') :
    wpAny (model prog Γ.w) A (call (.builtin "sorted") [.ref d]) Q E s := by
  obtain ⟨hd, es, ep, hat, hkeys, _, hsz⟩ := noted_at S hi
  have hr : All2 (rKey.at' g) (kvs.map fun x => Value.ref x.2) (kvs.map (·.1)) := by
    have gen : ∀ l : List NKV, (∀ x ∈ l, rKey.at' g (.ref x.2) x.1) → All2 (rKey.at' g) (l.map fun x => Value.ref x.2) (l.map (·.1)) := by
      intro l
      induction l with
      | nil => intro _; exact .nil
      | cons x l ih => intro hl; exact .cons (hl x (by simp)) (ih fun y hy => hl y (List.mem_cons_of_mem _ hy))
    exact gen kvs ok.key
  refine sorted_keys S hr ok.nd (by simpa using h64) (fun Q' hq => ?_) h
  refine collect_dict (A := A.in1) hA.1 hd hat (by omega) fun s' hsb => ?_
  rw [hkeys]; exact hq _ s' hsb (List.Perm.refl _)
end
end Mine
end

section
open PySem PySem.W PyProof.Rows PySem.Calls
set_option Elab.async false
set_option autoImplicit false
set_option maxRecDepth 100000
set_option linter.unusedVariables false
namespace Mine

structure Reg (g : PMap) (x : Addr) (ms : Nat) (moves : List (List Int)) (scope : List Int) : Prop where
  ex : ∃ dx od tl vm vs, g x = some (instObj 166 dx) ∧ g dx = some od ∧ lookIn "letters" od = some (some (.int ms tl)) ∧ lookIn "rows" od = some (some vm) ∧ lookIn "scope" od = some (some vs) ∧ lookIn "note_dead" od = some none ∧
    (rTup (rTup rInt)).at' g vm moves ∧ (rTup rInt).at' g vs scope
theorem Reg.mono {g g' : PMap} {x : Addr} {ms : Nat} {moves : List (List Int)} {scope : List Int} (h : Le g g') (R : Reg g x ms moves scope) : Reg g' x ms moves scope := by
  obtain ⟨dx, od, tl, vm, vs, a, b, c, d, e, f, i, j⟩ := R.ex
  exact ⟨dx, od, tl, vm, vs, h _ _ a, h _ _ b, c, d, e, f, (rTup (rTup rInt)).mono h i, (rTup rInt).mono h j⟩

def badOf (moves : List (List Int)) (alive : List (List Bool)) (k : Nat) (q a x : Int) : Prop := x = mv moves q a ∧ x ≠ 0 ∧ aliveAt alive (k + 1) x = false
def goodOf (moves : List (List Int)) (alive : List (List Bool)) (scope : List Int) (k : Nat) (q a : Int) (p : Int × Int) : Prop := mv moves q a ≠ 0 ∧ aliveAt alive (k + 1) (mv moves q a) = true ∧ p = (scope.getD k 0, a)
def nextOf (moves : List (List Int)) (alive : List (List Bool)) (ms k : Nat) (T : Int → Prop) (x : Int) : Prop := ∃ q a, T q ∧ (1 ≤ a ∧ a ≤ (ms : Int)) ∧ badOf moves alive k q a x
def noteOf (moves : List (List Int)) (alive : List (List Bool)) (scope : List Int) (ms k : Nat) (T : Int → Prop) (p : Int × Int) : Prop := ∃ q a, T q ∧ (1 ≤ a ∧ a ≤ (ms : Int)) ∧ goodOf moves alive scope k q a p
def layerOf (moves : List (List Int)) (alive : List (List Bool)) (ms spot : Nat) (T : Int → Prop) : Nat → Int → Prop
  | 0 => T
  | n + 1 => nextOf moves alive ms (spot + n) (layerOf moves alive ms spot T n)

inductive JDead1 (prog : Program) (w : World) (L x d : Addr) (va : Value) (own : List Res) (i0 spot ms : Nat) (moves : List (List Int)) (alive : List (List Bool)) (scope : List Int) (U : List (Int × Int)) (some0 : List Int) (kvs : List NKV) (n : Nat) (g' : PMap) (own' : List Res) : Prop
  | mk (m : Str → Option Value) (kvs1 : List NKV) (vso : Value) (so : List Int) (f1 : own' = rVars L [] m :: own.set i0 (rNoted prog w d kvs1)) (f2 : m "self" = some (.ref x)) (f3 : m "alive" = some va) (f4 : m "noted" = some (.ref d)) (f5 : m "some" = some vso) (f6 : (rLst rInt).at' g' vso so) (f7 : so.length ≤ 3) (f8 : (∀ q, q ∈ so ↔ layerOf moves alive ms spot (· ∈ some0) n q)) (f9 : NotedOk g' kvs1) (f10 : (∀ q ∈ kvs1.map (·.1), q ∈ U)) (f11 : (∀ q, q ∈ kvs1.map (·.1) ↔ q ∈ kvs.map (·.1) ∨ ∃ n', n' < n ∧ noteOf moves alive scope ms (spot + n') (layerOf moves alive ms spot (· ∈ some0) n') q))
inductive JDead2 (prog : Program) (w : World) (L x d : Addr) (va : Value) (own : List Res) (i0 spot ms : Nat) (moves : List (List Int)) (alive : List (List Bool)) (scope : List Int) (U : List (Int × Int)) (al I1 : Addr) (n kk0 : Nat) (tk : Tok) (kept : List (List Int)) (so : List Int) (kvs1 : List NKV) (i : Nat) (g' : PMap) (own' : List Res) : Prop
  | mk (m : Str → Option Value) (out : List Value) (l : List Int) (kvs2 : List NKV) (f1 : own' = rVars L [] m :: rAcc al out :: rRIter I1 spot kept.length (n + 1) :: own.set i0 (rNoted prog w d kvs2)) (f2 : m "self" = some (.ref x)) (f3 : m "alive" = some va) (f4 : m "noted" = some (.ref d)) (f5 : m "k" = some (.int kk0 tk)) (f6 : m "late" = some (.ref al)) (f7 : All2 (rInt.at' g') out l) (f8 : l.length ≤ 3 * i) (f9 : (∀ y, y ∈ l ↔ ∃ q a, q ∈ so.take i ∧ (1 ≤ a ∧ a ≤ (ms : Int)) ∧ badOf moves alive kk0 q a y)) (f10 : NotedOk g' kvs2) (f11 : (∀ q ∈ kvs2.map (·.1), q ∈ U)) (f12 : (∀ p, p ∈ kvs2.map (·.1) ↔ p ∈ kvs1.map (·.1) ∨ ∃ q a, q ∈ so.take i ∧ (1 ≤ a ∧ a ≤ (ms : Int)) ∧ goodOf moves alive scope kk0 q a p))
inductive JDead3 (prog : Program) (w : World) (L x d : Addr) (va : Value) (own : List Res) (i0 spot ms : Nat) (moves : List (List Int)) (alive : List (List Bool)) (scope : List Int) (U : List (Int × Int)) (al I1 : Addr) (n kk0 : Nat) (tk : Tok) (kept : List (List Int)) (so : List Int) (kvs1 : List NKV) (R2 : Nat → Res) (i : Nat) (q : Int) (tq : Tok) (j : Nat) (g' : PMap) (own' : List Res) : Prop
  | mk (m : Str → Option Value) (out : List Value) (l : List Int) (kvs3 : List NKV) (f1 : own' = rVars L [] m :: R2 (i + 1) :: rAcc al out :: rRIter I1 spot kept.length (n + 1) :: own.set i0 (rNoted prog w d kvs3)) (f2 : m "self" = some (.ref x)) (f3 : m "alive" = some va) (f4 : m "noted" = some (.ref d)) (f5 : m "k" = some (.int kk0 tk)) (f6 : m "late" = some (.ref al)) (f7 : m "state" = some (.int q tq)) (f8 : All2 (rInt.at' g') out l) (f9 : l.length ≤ 3 * i + j) (f10 : (∀ y, y ∈ l ↔ (∃ q a, q ∈ so.take i ∧ (1 ≤ a ∧ a ≤ (ms : Int)) ∧ badOf moves alive kk0 q a y) ∨ ∃ a, a ∈ (rangeL 1 (ms + 1)).take j ∧ badOf moves alive kk0 q a y)) (f11 : NotedOk g' kvs3) (f12 : (∀ q ∈ kvs3.map (·.1), q ∈ U)) (f13 : (∀ p, p ∈ kvs3.map (·.1) ↔ (p ∈ kvs1.map (·.1) ∨ ∃ q a, q ∈ so.take i ∧ (1 ≤ a ∧ a ≤ (ms : Int)) ∧ goodOf moves alive scope kk0 q a p) ∨ ∃ a, a ∈ (rangeL 1 (ms + 1)).take j ∧ goodOf moves alive scope kk0 q a p))

section
variable {prog : Program} {Γ : Pm} {g : PMap} {own : List Res} {s : Shared} {A : Around} {E : Value → Shared → Prop}

theorem q_attr {x dx : Addr} {od : Obj} {name : Str} {v : Value} {ex : Bool} {Q : Value → Shared → Prop} (S : St Γ g own s) (hx : g x = some (instObj 166 dx)) (hd : g dx = some od) (hl : lookIn name od = some (some v)) (hh : handedIn v = true)
    (h : ∀ s', St Γ g own s' → Q v s') (hc : findIn (heapK Γ.w.params) (.ref 166) name = some none := by rfl) : wpAny (model prog Γ.w) A (getAttr (.ref x) name ex) Q E s := by
  have X := S.ge.X
  have I : InstAt s.heap x (instObj 166 dx) 166 (some od) := ⟨S.keep _ _ hx, rfl, rfl, S.keep _ _ hd⟩
  refine get_value X I (by rfl) ?_ hh (h _ (S.toks _))
  obtain ⟨cd, hcd, hdict⟩ : ∃ cd, clsIn (heapK Γ.w.params) 166 = some cd ∧ cd.hasDict = true := ⟨_, by rfl, by rfl⟩
  unfold findObj
  rw [hcd, Option.bind_some, hc, Option.bind_some]
  show ((PySem.W.ownOf cd (some od) name).bind fun own => _) = _
  have : PySem.W.ownOf cd (some od) name = some (some v) := by unfold PySem.W.ownOf; rw [if_pos hdict]; exact hl
  rw [this]; rfl

theorem q_method {x dx : Addr} {od : Obj} {name : Str} {f : Addr} {pl : Sem Bool} {Q : Value × List Value → Shared → Prop} (S : St Γ g own s) (hx : g x = some (instObj 166 dx)) (hd : g dx = some od) (hl : lookIn name od = some none)
    (hf : findIn (heapK Γ.w.params) (.ref 166) name = some (some (.ref f))) (ht : typeIn (heapK Γ.w.params) (.ref f) = some (.type "function")) (h : Q (.ref f, [.ref x]) s) :
    wpAny (model prog Γ.w) A (getMethod (.ref x) name pl) Q E s := by
  have X := S.ge.X
  have I : InstAt s.heap x (instObj 166 dx) 166 (some od) := ⟨S.keep _ _ hx, rfl, rfl, S.keep _ _ hd⟩
  refine method_fn X I (by rfl) (by rfl) hf ht ?_ h
  show (lookIn name od).map (·.isSome) = some false
  rw [hl]; rfl

theorem q_keyTuple {k a : Int} {t1 t2 t3 : Tok} {Q : Value → Shared → Prop} (S : St Γ g own s) (h : ∀ v g' s', Le g g' → rKey.at' g' v (k, a) → St Γ g' own s' → Q v s') :
    wpAny (model prog Γ.w) A (newTuple [.int k t1, .str (Str.ofString "!=") t2, .int a t3]) Q E s :=
  q_newTuple S (by simp) fun ad g' s' hl ha S' => h _ g' s' hl ⟨ad, t1, t2, t3, 0, rfl, ha⟩ S'

set_option maxHeartbeats 8000000 in
theorem dead_spec {moves : List (List Int)} {ns ms : Nat} {x d : Addr} {vk va vsome : Value} {ts : Tok} {kept : List (List Int)} {alive : List (List Bool)} {some0 : List Int} {scope : List Int} {spot i0 : Nat} {kvs : List NKV} {U : List (Int × Int)} {Q : Value → Shared → Prop}
    (S : St Γ g own s) (hi : own[i0]? = some (rNoted prog Γ.w d kvs)) (ok : NotedOk g kvs) (hA : Room A 20) (hR : Reg g x ms moves scope) (hk : (rLst (rLst rInt)).at' g vk kept) (hal : (rLst (rLst rBool)).at' g va alive) (hso : (rLst rInt).at' g vsome some0)
    (W : WF moves ns ms) (hsp : spot ≤ kept.length) (hk3 : kept.length ≤ 3) (hsc : scope.length = kept.length) (ha1 : alive.length = kept.length + 1) (ha2 : ∀ r ∈ alive, r.length = ns + 1) (hs1 : ∀ q ∈ some0, 1 ≤ q ∧ q ≤ (ns : Int)) (hs3 : some0.length ≤ 3)
    (hU : ∀ q ∈ kvs.map (·.1), q ∈ U) (hU2 : ∀ (k : Nat) (a : Int), k < kept.length → 1 ≤ a → a ≤ (ms : Int) → (scope.getD k 0, a) ∈ U) (hU3 : U.length ≤ 60)
    (h : ∀ g' kvs' s', Le g g' → NotedOk g' kvs' → (∀ q ∈ kvs'.map (·.1), q ∈ U) →
      (∀ q, q ∈ kvs'.map (·.1) ↔ q ∈ kvs.map (·.1) ∨ ∃ n, spot + n < kept.length ∧ noteOf moves alive scope ms (spot + n) (layerOf moves alive ms spot (· ∈ some0) n) q) → St Γ g' (own.set i0 (rNoted prog Γ.w d kvs')) s' → Q .none s') :
    wpAny (model prog Γ.w) A (call (.ref 114) [.ref x, vk, va, .int spot ts, vsome, .ref d]) Q E s := by
  refine call_fn (fun _ => []) (n := 19) S hA (by rfl) (by rfl) (by rfl) (by rfl) (by rfl) (fun _ => rfl) fun L A s hA S => ?_
  have hm1 := W.m1
  have hm3 := W.m3
  have hn1 := W.n1
  have hn3 := W.n3
  refine wpAny_execs_cons ?_
  refine for_rule (l := rangeL spot kept.length) (T := rInt) fun Kh hKh => ?_
  refine Call_ ?_
  refine ev_builtin S (by rfl) (by boot_fast) (by decide) ?_
  refine PyProof.Rows.callWith_type1 ?_
  refine args_cons ?_
  refine ev_local (i := 0) S rfl (by rfl) ?_
  refine args_cons ?_
  refine Call_ ?_
  refine ev_builtin S (by rfl) (by boot_fast) (by decide) ?_
  refine PyProof.Rows.callWith_builtin1 ?_
  refine args_cons ?_
  refine ev_local (i := 0) S rfl (by rfl) ?_
  refine args_nil ?_
  refine q_len S hk (by omega) fun t s S => ?_
  refine args_nil ?_
  refine q_rng2 S (by omega) (by omega) fun I1 s S => ?_
  obtain ⟨dx, od, tl, vm, vs, hx, hdx, la1, la2, la3, la4, hmv, hsv⟩ := hR.ex
  obtain ⟨vma, vm1, vm2, rfl, _, _⟩ := id hmv
  obtain ⟨vsa, vs1, vs2, rfl, _, _⟩ := id hsv
  have hTr : ∀ n (q : Int), layerOf moves alive ms spot (· ∈ some0) n q → 1 ≤ q ∧ q ≤ (ns : Int) := by
    intro n
    induction n with
    | zero => exact fun q hq => hs1 q hq
    | succ n ih =>
      rintro q ⟨q0, a, hq0, ha, rfl, hne, _⟩
      obtain ⟨_, _, _, h1, h2⟩ := W.at (q := q0) (a := a) (ih q0 hq0) ha
      omega
  refine hKh _ _ _ _ (rRIter I1 spot kept.length) (Iter.range hA.1) S (fun n g' own' => JDead1 prog Γ.w L x d va own i0 spot ms moves alive scope U some0 kvs n g' own') ⟨_, kvs, vsome, some0, by rw [set_self hi], by rfl, by rfl, by rfl, by rfl, hso, hs3, fun q => Iff.rfl, ok, hU, fun q => by simp⟩ ?_ ?_
  · rintro n k v g₀ g₁ _ s hkk hl ⟨m, kvs1, vso, so, rfl, e1, e2, e3, e4, hso1, hso3, hsoT, ok1, hU1, hkeys⟩ hl' ⟨tk, rfl⟩ S K E' hK hB hR
    obtain ⟨hk1, hk2⟩ := rangeL_get hkk
    obtain ⟨kk0, hkk0⟩ : ∃ j : Nat, j = spot + n := ⟨_, rfl⟩
    have hkz : k = (kk0 : Int) := by omega
    subst hkz
    have hkl : kk0 < kept.length := by omega
    have hle0 := hl.trans hl'
    refine wpAny_assign_Name (st_local (i := 0) S rfl fun s S => ?_)
    refine wpAny_execs_cons (wpAny_Assign_Name ?_)
    refine List_ (args_nil ?_)
    refine q_newList S (by decide) fun al s S => ?_
    have S := S.swap
    refine st_local (i := 0) S rfl fun s S => ?_
    have hnd0 : (own.set i0 (rNoted prog Γ.w d kvs1))[i0]? = some (rNoted prog Γ.w d kvs1) := by
      obtain ⟨hlt, _⟩ := List.getElem?_eq_some_iff.mp hi
      simp [hlt]
    -- the states
    refine wpAny_execs_cons ?_
    refine for_rule (l := so) (T := rInt) fun Kh hKh => ?_
    refine ev_local (i := 0) S rfl (upd_ne (by decide) (upd_ne (by decide) e4)) ?_
    refine q_lstIter S hA.1 ((rLst rInt).mono hl' hso1) fun it R2 s I2 S => ?_
    refine hKh _ _ _ _ R2 (I2 _) S (fun i g' own' => JDead2 prog Γ.w L x d va own i0 spot ms moves alive scope U al I1 n kk0 tk kept so kvs1 i g' own') ⟨_, [], [], kvs1, rfl, upd_ne (by decide) (upd_ne (by decide) e1), upd_ne (by decide) (upd_ne (by decide) e2), upd_ne (by decide) (upd_ne (by decide) e3), upd_ne (by decide) upd_self, upd_self, .nil, Nat.le_refl _, fun y => by simp, ok1.mono hl', hU1, fun p => by simp⟩ ?_ ?_
    · rintro i q v g₂ g₃ _ s hqi hl2 ⟨m, out, l, kvs2, rfl, f1, f2, f3, f4, f5, hout, hlen, hlate, ok2, hU2', hkeys2⟩ hl3 ⟨tq, rfl⟩ S K E' hK hB hR
      have hqso := List.mem_of_getElem? hqi
      have hqr := hTr n q ((hsoT q).mp hqso)
      have hil : i < so.length := (List.getElem?_eq_some_iff.mp hqi).1
      refine wpAny_assign_Name (st_local (i := 0) S rfl fun s S => ?_)
      refine wpAny_execs_cons ?_
      refine for_rule (l := rangeL 1 (ms + 1)) (T := rInt) fun Kh hKh => ?_
      refine Call_ ?_
      refine ev_builtin S (by rfl) (by boot_fast) (by decide) ?_
      refine PyProof.Rows.callWith_type1 ?_
      refine args_cons ?_
      refine ev_int S fun t s S => ?_
      refine args_cons ?_
      refine wpAny_BinOp ?_
      refine Attribute_any_ ?_
      refine ev_local (i := 0) S rfl (upd_ne (by decide) f1) ?_
      have hle1 := hle0.trans (hl2.trans hl3)
      refine q_attr S (hle1 _ _ hx) (hle1 _ _ hdx) la1 rfl fun s S => ?_
      refine ev_int S fun t s S => ?_
      refine q_add S fun t s S => ?_
      refine args_nil ?_
      refine q_rng2 S (by decide) (by omega) fun I3 s S => ?_
      refine hKh _ _ _ _ (rRIter I3 1 (ms + 1)) (Iter.range hA.1) S (fun j g' own' => JDead3 prog Γ.w L x d va own i0 spot ms moves alive scope U al I1 n kk0 tk kept so kvs1 R2 i q tq j g' own') ⟨_, out, l, kvs2, rfl, upd_ne (by decide) f1, upd_ne (by decide) f2, upd_ne (by decide) f3, upd_ne (by decide) f4, upd_ne (by decide) f5, upd_self, hout.imp fun _ _ q => rInt.mono hl3 q, by omega, fun y => by rw [hlate y]; simp, ok2.mono hl3, hU2', fun p => by rw [hkeys2 p]; simp⟩ ?_ ?_
      · rintro j a v g₄ g₅ _ s haj hl4 ⟨m, out, l, kvs3, rfl, p1, p2, p3, p4, p5, p6, hout3, hlen3, hlate3, ok3, hU3', hkeys3⟩ hl5 ⟨ta, rfl⟩ S K E' hK hB hR
        have har := mem_rangeL.mp (List.mem_of_getElem? haj)
        have har' : 1 ≤ a ∧ a ≤ (ms : Int) := by omega
        have hjl := (rangeL_get haj).2
        obtain ⟨row, hr1, hr2, hr3, hr4⟩ := W.at (q := q) (a := a) hqr har'
        have hle2 := hle1.trans (hl4.trans hl5)
        refine wpAny_assign_Name (st_local (i := 0) S rfl fun s S => ?_)
        refine wpAny_execs_cons (wpAny_Assign_Name ?_)
        refine Subscript_ ?_
        refine Subscript_ ?_
        refine Attribute_any_ ?_
        refine ev_local (i := 0) S rfl (upd_ne (by decide) p1) ?_
        refine q_attr S (hle2 _ _ hx) (hle2 _ _ hdx) la2 rfl fun s S => ?_
        refine wpAny_BinOp ?_
        refine ev_local (i := 0) S rfl (upd_ne (by decide) p6) ?_
        refine ev_int S fun t s S => ?_
        refine q_sub S fun t s S => ?_
        refine q_itemT S ((rTup (rTup rInt)).mono hle2 hmv) (by omega) (by omega) hr1 fun v hv => ?_
        refine wpAny_BinOp ?_
        refine ev_local (i := 0) S rfl upd_self ?_
        refine ev_int S fun t s S => ?_
        refine q_sub S fun t s S => ?_
        refine q_itemT S hv (by omega) (by omega) hr2 fun v hv => ?_
        obtain ⟨tg, rfl⟩ := hv
        refine st_local (i := 0) S rfl fun s S => ?_
        generalize hgoal : mv moves q a = goal at *
        have same : ∀ (C : Prop) (y : Int), ((C ∨ ∃ b, b ∈ (rangeL 1 (ms + 1)).take j ∧ badOf moves alive kk0 q b y) ∨ badOf moves alive kk0 q a y) ↔ (C ∨ ∃ b, b ∈ (rangeL 1 (ms + 1)).take (j + 1) ∧ badOf moves alive kk0 q b y) := by
          intro C y
          rw [take_succ' haj]
          constructor
          · rintro ((h1 | ⟨b, hb, h2⟩) | h2)
            · exact .inl h1
            · exact .inr ⟨b, List.mem_append_left _ hb, h2⟩
            · exact .inr ⟨a, List.mem_append_right _ (List.mem_singleton.mpr rfl), h2⟩
          · rintro (h1 | ⟨b, hb, h2⟩)
            · exact .inl (.inl h1)
            · rcases List.mem_append.mp hb with hb | hb
              · exact .inl (.inr ⟨b, hb, h2⟩)
              · rw [List.mem_singleton.mp hb] at h2; exact .inr h2
        have sameG : ∀ (C : Prop) (y : Int × Int), ((C ∨ ∃ b, b ∈ (rangeL 1 (ms + 1)).take j ∧ goodOf moves alive scope kk0 q b y) ∨ goodOf moves alive scope kk0 q a y) ↔ (C ∨ ∃ b, b ∈ (rangeL 1 (ms + 1)).take (j + 1) ∧ goodOf moves alive scope kk0 q b y) := by
          intro C y
          rw [take_succ' haj]
          constructor
          · rintro ((h1 | ⟨b, hb, h2⟩) | h2)
            · exact .inl h1
            · exact .inr ⟨b, List.mem_append_left _ hb, h2⟩
            · exact .inr ⟨a, List.mem_append_right _ (List.mem_singleton.mpr rfl), h2⟩
          · rintro (h1 | ⟨b, hb, h2⟩)
            · exact .inl (.inl h1)
            · rcases List.mem_append.mp hb with hb | hb
              · exact .inl (.inr ⟨b, hb, h2⟩)
              · rw [List.mem_singleton.mp hb] at h2; exact .inr h2
        have hidx : (alive.getD (kk0 + 1) []).length = ns + 1 := ha2 _ (List.mem_of_getElem? (getD_of (by omega)))
        refine wpAny_execs_cons (wpAny_If ?_)
        refine isTrue_and ?_
        refine wpAny_isTrue_Compare1 ?_
        refine ev_local (i := 0) S rfl upd_self ?_
        refine ev_int S fun t s S => ?_
        refine PyProof.Rows.ne_int ?_
        refine wpAny_truthy_bool ?_
        by_cases hg0 : goal = 0
        · subst hg0
          rw [if_neg (by decide)]
          rw [if_neg (by decide)]
          refine wpAny_execs_cons (wpAny_If ?_)
          refine wpAny_isTrue_Compare1 ?_
          refine ev_local (i := 0) S rfl upd_self ?_
          refine ev_int S fun t s S => ?_
          refine PyProof.Rows.ne_int ?_
          refine wpAny_truthy_bool ?_
          rw [if_neg (by decide)]
          refine wpAny_execs_nil (wpAny_execs_nil (wpAny_execs_nil ((hK _ (rVars L [] _ :: R2 (i + 1) :: rAcc al _ :: rRIter I1 spot kept.length (n + 1) :: own.set i0 (rNoted prog Γ.w d kvs3)) _ (Le.refl _) ?_ S).1)))
          refine ⟨_, out, l, kvs3, rfl, upd_ne (by decide) (upd_ne (by decide) p1), upd_ne (by decide) (upd_ne (by decide) p2), upd_ne (by decide) (upd_ne (by decide) p3), upd_ne (by decide) (upd_ne (by decide) p4), upd_ne (by decide) (upd_ne (by decide) p5), upd_ne (by decide) (upd_ne (by decide) p6),
            hout3.imp fun _ _ q => rInt.mono hl5 q, by omega, fun y => ?_, ok3.mono hl5, hU3', fun p => ?_⟩
          · refine (hlate3 y).trans ((or_iff_left ?_).symm.trans (same _ y))
            rintro ⟨h1, h2, _⟩; exact h2 (h1.trans hgoal)
          · refine (hkeys3 p).trans ((or_iff_left ?_).symm.trans (sameG _ p))
            rintro ⟨h1, _⟩; exact h1 hgoal
        · rw [if_pos (by simp [hg0])]
          refine isTrue_and ?_
          refine isTrue_not ?_
          refine isTrue_plain ?_
          refine Subscript_ ?_
          refine Subscript_ ?_
          refine ev_local (i := 0) S rfl (upd_ne (by decide) (upd_ne (by decide) p2)) ?_
          refine wpAny_BinOp ?_
          refine ev_local (i := 0) S rfl (upd_ne (by decide) (upd_ne (by decide) p4)) ?_
          refine ev_int S fun t s S => ?_
          refine q_add S fun t s S => ?_
          refine q_item (x := alive.getD (kk0 + 1) []) S ((rLst (rLst rBool)).mono hle2 hal) (by omega) (by omega) ?_ fun v hv => ?_
          · rw [show ((kk0 : Int) + 1).toNat = kk0 + 1 by omega]; exact getD_of (by omega)
          refine ev_local (i := 0) S rfl upd_self ?_
          refine q_item (x := aliveAt alive (kk0 + 1) goal) S hv (by omega) (by omega) (getD_of (by omega)) fun v8 hv8 => ?_
          cases (show v8 = _ from hv8)
          refine wpAny_truthy_bool ?_
          by_cases hb : aliveAt alive (kk0 + 1) goal = true
          · rw [hb]
            rw [if_neg (by decide)]
            rw [if_neg (by decide)]
            refine wpAny_execs_cons (wpAny_If ?_)
            refine wpAny_isTrue_Compare1 ?_
            refine ev_local (i := 0) S rfl upd_self ?_
            refine ev_int S fun t s S => ?_
            refine PyProof.Rows.ne_int ?_
            refine wpAny_truthy_bool ?_
            rw [if_pos (by simp [hg0])]
            refine wpAny_execs_cons (wpAny_Assign_Subscript ?_)
            refine ev_bool ?_
            refine ev_local (i := 0) S rfl (upd_ne (by decide) (upd_ne (by decide) p3)) ?_
            refine Tuple_ ?_
            refine args_cons ?_
            refine Subscript_ ?_
            refine Attribute_any_ ?_
            refine ev_local (i := 0) S rfl (upd_ne (by decide) (upd_ne (by decide) p1)) ?_
            refine q_attr S (hle2 _ _ hx) (hle2 _ _ hdx) la3 rfl fun s S => ?_
            refine ev_local (i := 0) S rfl (upd_ne (by decide) (upd_ne (by decide) p4)) ?_
            refine q_itemT (x := scope.getD kk0 0) S ((rTup rInt).mono hle2 hsv) (by omega) (by omega) (by rw [Int.toNat_natCast]; exact getD_of (by omega)) fun v9 hv9 => ?_
            obtain ⟨t9, rfl⟩ := hv9
            refine args_cons ?_
            refine ev_str S fun t s S => ?_
            refine args_cons ?_
            refine ev_local (i := 0) S rfl (upd_ne (by decide) upd_self) ?_
            refine args_nil ?_
            refine q_keyTuple S fun vk g6 s hl6 hkv S => ?_
            have hi3 : ((rVars L [] (upd (upd m "a" (.int a ta)) "goal" (.int goal tg)) :: rRIter I3 1 (ms + 1) (j + 1) :: R2 (i + 1) :: rAcc al out :: rRIter I1 spot kept.length (n + 1) :: own.set i0 (rNoted prog Γ.w d kvs3)))[i0 + 5]? = some (rNoted prog Γ.w d kvs3) := by
              obtain ⟨hlt, _⟩ := List.getElem?_eq_some_iff.mp hi
              simp [hlt]
            have hlen3' : kvs3.length ≤ 60 := by
              have := List.Nodup.length_le_of_subset ok3.nd (fun q hq => hU3' q hq)
              rw [List.length_map] at this; omega
            refine q_notedSet (n := 1) S hA.le hi3 (ok3.mono (hl5.trans hl6)) hkv (by omega) fun kvs4 s ok4 _ hmem4 S => ?_
            have hset : ((rVars L [] (upd (upd m "a" (.int a ta)) "goal" (.int goal tg)) :: rRIter I3 1 (ms + 1) (j + 1) :: R2 (i + 1) :: rAcc al out :: rRIter I1 spot kept.length (n + 1) :: own.set i0 (rNoted prog Γ.w d kvs3))).set (i0 + 5) (rNoted prog Γ.w d kvs4) =
                rVars L [] (upd (upd m "a" (.int a ta)) "goal" (.int goal tg)) :: rRIter I3 1 (ms + 1) (j + 1) :: R2 (i + 1) :: rAcc al out :: rRIter I1 spot kept.length (n + 1) :: own.set i0 (rNoted prog Γ.w d kvs4) := by
              simp [List.set_set]
            have S' : St Γ g6 (rVars L [] (upd (upd m "a" (.int a ta)) "goal" (.int goal tg)) :: rRIter I3 1 (ms + 1) (j + 1) :: R2 (i + 1) :: rAcc al out :: rRIter I1 spot kept.length (n + 1) :: own.set i0 (rNoted prog Γ.w d kvs4)) s := hset ▸ S
            refine wpAny_execs_nil (wpAny_execs_nil (wpAny_execs_nil ((hK _ (rVars L [] _ :: R2 (i + 1) :: rAcc al _ :: rRIter I1 spot kept.length (n + 1) :: own.set i0 (rNoted prog Γ.w d kvs4)) _ hl6 ?_ S').1)))
            refine ⟨_, out, l, kvs4, rfl, upd_ne (by decide) (upd_ne (by decide) p1), upd_ne (by decide) (upd_ne (by decide) p2), upd_ne (by decide) (upd_ne (by decide) p3), upd_ne (by decide) (upd_ne (by decide) p4), upd_ne (by decide) (upd_ne (by decide) p5), upd_ne (by decide) (upd_ne (by decide) p6),
              hout3.imp fun _ _ q => rInt.mono (hl5.trans hl6) q, by omega, fun y => ?_, ok4, fun p hp => ?_, fun p => ?_⟩
            · refine (hlate3 y).trans ((or_iff_left ?_).symm.trans (same _ y))
              rintro ⟨h1, _, h2⟩; rw [h1, hgoal, hb] at h2; cases h2
            · rcases (hmem4 p).mp hp with rfl | hp
              · exact hU2 kk0 a hkl har'.1 har'.2
              · exact hU3' p hp
            · refine (hmem4 p).trans (Iff.trans ?_ (sameG _ p))
              rw [hkeys3 p]
              constructor
              · rintro (h1 | h1)
                · exact .inr ⟨by rw [hgoal]; exact hg0, by rw [hgoal]; exact hb, h1⟩
                · exact .inl h1
              · rintro (h1 | ⟨_, _, h1⟩)
                · exact .inr h1
                · exact .inl h1
          · have hb' : aliveAt alive (kk0 + 1) goal = false := by simpa using hb
            rw [hb']
            rw [if_pos (by decide)]
            refine isTrue_and_nil ?_
            rw [if_pos rfl]
            refine wpAny_execs_cons (q_appendStmt ?_)
            refine ev_local (i := 0) S rfl (upd_ne (by decide) (upd_ne (by decide) p5)) ?_
            refine ⟨al, rfl, ⟨_, S.holds 3 _ rfl⟩, ?_⟩
            refine ev_local (i := 0) S rfl upd_self ?_
            have hol := hout3.length
            refine q_append (i := 3) S rfl (by omega) fun s S => ?_
            refine ⟨rfl, wpAny_execs_nil (wpAny_execs_nil ((hK _ (rVars L [] _ :: R2 (i + 1) :: rAcc al _ :: rRIter I1 spot kept.length (n + 1) :: own.set i0 (rNoted prog Γ.w d kvs3)) _ (Le.refl _) ?_ S).1))⟩
            refine ⟨_, _, l ++ [goal], kvs3, rfl, upd_ne (by decide) (upd_ne (by decide) p1), upd_ne (by decide) (upd_ne (by decide) p2), upd_ne (by decide) (upd_ne (by decide) p3), upd_ne (by decide) (upd_ne (by decide) p4), upd_ne (by decide) (upd_ne (by decide) p5), upd_ne (by decide) (upd_ne (by decide) p6),
              (hout3.imp fun _ _ q => rInt.mono hl5 q).snoc ⟨_, rfl⟩, by simp; omega, fun y => ?_, ok3.mono hl5, hU3', fun p => ?_⟩
            · rw [List.mem_append, List.mem_singleton]
              refine Iff.trans ?_ (same _ y)
              rw [hlate3 y]
              constructor
              · rintro (h1 | rfl)
                · exact .inl h1
                · exact .inr ⟨hgoal.symm, hg0, hb'⟩
              · rintro (h1 | ⟨h1, _⟩)
                · exact .inl h1
                · exact .inr (h1.trans hgoal)
            · refine (hkeys3 p).trans ((or_iff_left ?_).symm.trans (sameG _ p))
              rintro ⟨_, h2, _⟩; rw [hgoal] at h2; exact hb h2
      · rintro g₄ _ s hl4 ⟨m, out, l, kvs3, rfl, p1, p2, p3, p4, p5, p6, hout3, hlen3, hlate3, ok3, hU3', hkeys3⟩ S
        have hrl : (rangeL 1 ((ms : Int) + 1)).length = ms := by rw [rangeL_length]; omega
        rw [List.take_length] at hlate3 hkeys3
        have ex1 : ∀ (F : Int → Int → Prop) (G : Int → Prop), (∀ a, G a ↔ F q a) → (((∃ q a, q ∈ so.take i ∧ (1 ≤ a ∧ a ≤ (ms : Int)) ∧ F q a) ∨ ∃ a, a ∈ rangeL 1 ((ms : Int) + 1) ∧ G a) ↔ ∃ q a, q ∈ so.take (i + 1) ∧ (1 ≤ a ∧ a ≤ (ms : Int)) ∧ F q a) := by
          intro F G hFG
          rw [take_succ' hqi]
          constructor
          · rintro (⟨q', a, h1, h2, h3⟩ | ⟨a, h1, h2⟩)
            · exact ⟨q', a, List.mem_append_left _ h1, h2, h3⟩
            · have := mem_rangeL.mp h1
              exact ⟨q, a, List.mem_append_right _ (List.mem_singleton.mpr rfl), by omega, (hFG a).mp h2⟩
          · rintro ⟨q', a, h1, h2, h3⟩
            rcases List.mem_append.mp h1 with h1 | h1
            · exact .inl ⟨q', a, h1, h2, h3⟩
            · rw [List.mem_singleton.mp h1] at h3
              exact .inr ⟨a, mem_rangeL.mpr (by omega), (hFG a).mpr h3⟩
        refine wpAny_execs_nil ((hK _ (rVars L [] _ :: rAcc al _ :: rRIter I1 spot kept.length (n + 1) :: own.set i0 (rNoted prog Γ.w d kvs3)) _ hl4 ?_ S).1)
        refine ⟨_, out, l, kvs3, rfl, p1, p2, p3, p4, p5, hout3, by omega, fun y => ?_, ok3, hU3', fun p => ?_⟩
        · exact (hlate3 y).trans (ex1 (fun q a => badOf moves alive kk0 q a y) _ fun a => Iff.rfl)
        · rw [hkeys3 p, or_assoc]
          exact or_congr_right (ex1 (fun q a => goodOf moves alive scope kk0 q a p) _ fun a => Iff.rfl)
    · rintro g₂ _ s hl2 ⟨m, out, l, kvs2, rfl, f1, f2, f3, f4, f5, hout, hlen, hlate, ok2, hU2', hkeys2⟩ S
      rw [List.take_length] at hlate hkeys2
      have hlr : ∀ y ∈ l, y ∈ ([1, 2, 3] : List Int) := fun y hy => by
        obtain ⟨q, a, hq, ha, rfl, hne, _⟩ := (hlate y).mp hy
        obtain ⟨_, _, _, h1, h2⟩ := W.at (q := q) (a := a) (hTr n q ((hsoT q).mp hq)) ha
        have : mv moves q a = 1 ∨ mv moves q a = 2 ∨ mv moves q a = 3 := by omega
        simpa using this
      have S := S.swap
      obtain ⟨nl, hle5, S⟩ := S.accRest
      refine wpAny_execs_cons (wpAny_Assign_Name ?_)
      refine Call_ ?_
      refine ev_builtin S (by rfl) (by boot_fast) (by decide) ?_
      refine PyProof.Rows.callWith_builtin1 ?_
      refine args_cons ?_
      refine Call_ ?_
      refine ev_builtin S (by rfl) (by boot_fast) (by decide) ?_
      refine PyProof.Rows.callWith_type1 ?_
      refine args_cons ?_
      refine ev_local (i := 0) S rfl f5 ?_
      refine args_nil ?_
      refine q_set_intsL (U := [1, 2, 3]) S hA.le ⟨al, out, nl, rfl, ins_self, hout.imp fun _ _ q => rInt.mono hle5 q⟩ hlr (by decide) fun sa vs kl s hvs hnd hmem S => ?_
      have hkl3 : kl.length ≤ 3 := by
        have := List.Nodup.length_le_of_subset (l₂ := [1, 2, 3]) hnd (fun q hq => hlr q ((hmem q).mp hq))
        simpa using this
      refine args_nil ?_
      refine q_sortedSetI S hA.le hvs (by omega) fun v6 kl' g6 s hl6 hv6 hperm S => ?_
      refine st_local (i := 0) S rfl fun s S => ?_
      refine wpAny_execs_nil ((hK _ (rVars L [] _ :: own.set i0 (rNoted prog Γ.w d kvs2)) _ (hl2.trans (hle5.trans hl6)) ?_ S).1)
      refine ⟨_, kvs2, v6, kl', rfl, upd_ne (by decide) f1, upd_ne (by decide) f2, upd_ne (by decide) f3, upd_self, hv6, by rw [hperm.length_eq]; exact hkl3, fun y => ?_, ok2.mono (hle5.trans hl6), hU2', fun p => ?_⟩
      · rw [hperm.mem_iff, hmem y, hlate y]
        show _ ↔ nextOf moves alive ms (spot + n) (layerOf moves alive ms spot (· ∈ some0) n) y
        rw [← hkk0]
        constructor
        · rintro ⟨q, a, h1, h2, h3⟩; exact ⟨q, a, (hsoT q).mp h1, h2, h3⟩
        · rintro ⟨q, a, h1, h2, h3⟩; exact ⟨q, a, (hsoT q).mpr h1, h2, h3⟩
      · rw [hkeys2 p, hkeys p]
        constructor
        · rintro ((h1 | ⟨n', h1, h2⟩) | ⟨q, a, h1, h2, h3⟩)
          · exact .inl h1
          · exact .inr ⟨n', by omega, h2⟩
          · exact .inr ⟨n, by omega, q, a, (hsoT q).mp h1, h2, by rw [← hkk0]; exact h3⟩
        · rintro (h1 | ⟨n', h1, h2⟩)
          · exact .inl (.inl h1)
          · rcases Nat.lt_or_ge n' n with h3 | h3
            · exact .inl (.inr ⟨n', h3, h2⟩)
            · have : n' = n := by omega
              subst this
              obtain ⟨q, a, h4, h5, h6⟩ := h2
              exact .inr ⟨q, a, (hsoT q).mpr h4, h5, by rw [hkk0]; exact h6⟩
  · rintro g₁ _ s hl ⟨m, kvs1, vso, so, rfl, e1, e2, e3, e4, hso1, hso3, hsoT, ok1, hU1, hkeys⟩ S
    refine wpAny_execs_nil ?_
    have hrl : (rangeL spot kept.length).length = kept.length - spot := by rw [rangeL_length]; omega
    rw [hrl] at hkeys
    refine h g₁ kvs1 s hl ok1 hU1 (fun q => ?_) S.drop
    rw [hkeys q]
    refine or_congr_right ⟨fun ⟨n, h1, h2⟩ => ⟨n, by omega, h2⟩, fun ⟨n, h1, h2⟩ => ⟨n, by omega, h2⟩⟩
end
end Mine
end

section
open PySem PySem.W PyProof.Rows PySem.Calls Builtin.ObjectAttr
set_option Elab.async false
set_option autoImplicit false
set_option maxRecDepth 100000
set_option linter.unusedVariables false
namespace Mine

section
variable {prog : Program} {Γ : Pm} {g : PMap} {own : List Res} {s : Shared} {A : Around} {E : Value → Shared → Prop} {env : Env}

/-- self.name = v -/
theorem q_setAttr {i j : Nat} {x dx : Addr} {od : Obj} {name : Str} {v : Value} {Q : Unit → Shared → Prop} (S : St Γ g own s) (hi : own[i]? = some (rObj x (instObj 166 dx))) (hj : own[j]? = some (rObj dx od))
    (od' : Tok → Obj) (he : ∀ t, Obj.putName name (PyData.keyHash Γ.w.params name) (.str name t) v od = od' t) (hsz : ∀ t, ∃ es n, (od' t).data = .dict es n ∧ es.size ≤ 1000) (hl : (lookIn name od).isSome = true)
    (h : ∀ t s', St Γ g (own.set j (rObj dx (od' t))) s' → Q () s') (ht : takerIn (heapK Γ.w.params) 166 name = some none := by rfl) :
    wpAny (model prog Γ.w) A (setAttr (.ref x) name v) Q E s := by
  have X := S.ge.X
  have I : InstAt s.heap x (instObj 166 dx) 166 (some od) := ⟨S.load hi, rfl, rfl, S.load hj⟩
  refine set_plain X I (by rfl) ?_
  have X' : (heapK Γ.w.params).In ({ s with toks := s.toks + 1 } : Shared).heap := X
  refine osa_open (s := { s with toks := s.toks + 1 }) X' I (by rfl) ht fun b => ?_
  obtain ⟨cd, hc, hd'⟩ : ∃ cd, clsIn (heapK Γ.w.params) 166 = some cd ∧ cd.hasDict = true := ⟨_, by rfl, by rfl⟩
  have D := S.load hj
  refine wpAny_bind (wpAny_pure (wpAny_bind (wpAny_bind (wpAny_loadPart (S.load hi) (wpAny_bind (Looks.here (s := { s with toks := s.toks + 1 }) (looks_clsIn X' hc) ?_))))))
  rw [hd']
  refine wpAny_pure (a := some dx) (wpAny_bind (wpAny_pure (wpAny_bind ?_)))
  unfold nsSet
  refine wpAny_bind (wpAny_bind (wpAny_askSetting (wpAny_pure (wpAny_bind (wpAny_mkText (wpAny_bind (wpAny_loadPart D ?_)))))))
  unfold lookIn at hl
  split at hl
  · rename_i es₀ n₀ q
    rw [q]
    dsimp only
    have c : (!es₀.any (·.key.isStr name) && es₀.any (·.refKey)) = false := by
      rw [← Array.any_toList, ← Array.any_toList]
      split at hl
      · rename_i en he
        rw [List.any_eq_true.mpr ⟨en, List.mem_of_find?_eq_some he, List.find?_some he⟩]; rfl
      · split at hl
        · cases hl
        · rename_i z; rw [Bool.not_eq_true] at z; rw [z, Bool.and_false]
    rw [aRefKeyMayBeTheName_at, c]
    have e1 := he (s.toks + 1)
    obtain ⟨es', n', q1, q2⟩ := hsz (s.toks + 1)
    have hput : (s.heap.update dx (Obj.putName name (PyData.keyHash Γ.w.params name) (.str name (s.toks + 1)) v)).get? dx = some (od' (s.toks + 1)) := by
      have := Heap.get?_update_self (Obj.putName name (PyData.keyHash Γ.w.params name) (.str name (s.toks + 1)) v) D (by
        rw [e1]
        generalize od' (s.toks + 1) = ob at q1
        obtain ⟨c1, d1, dt1, sl1⟩ := ob
        cases q1; rfl)
      rw [e1] at this; exact this
    refine wpAny_updatePart D ?_
    refine wpAny_bind (wpAny_lookBehind hput (by rw [q1]; exact pastItsLine_dict (by rw [sizeLine_eq]; omega)) ?_)
    refine wpAny_pure (h (s.toks + 1) _ (S.set j (rObj dx (od' (s.toks + 1))) hj (fun _ q => q) (fun b o hb e => (Heap.SameBut.update s.heap dx _).extBut b o hb e) hput rfl rfl))
  · cases hl

abbrev dobj (es : List DictEntry) (n : Nat) : Obj := { cls := .type "dict", data := .dict es.toArray n }
theorem room_make {n : Nat} {rest : List Value} (h : Room A (n + 3)) : Room (A.under (.builtin "type.__call__" ⟨.ref 166 :: rest, []⟩)) n := by
  refine ⟨h.1, ?_, ?_⟩
  · have := h.2.1
    show A.depth + Code.weight (.builtin "type.__call__" ⟨.ref 166 :: rest, []⟩) + n ≤ 900
    have e : Code.weight (.builtin "type.__call__" ⟨.ref 166 :: rest, []⟩) = 1 := by kernel_rfl
    omega
  · have := h.2.2
    show A.units + Code.cUnits (.builtin "type.__call__" ⟨.ref 166 :: rest, []⟩) + _ ≤ 9800
    have e : Code.cUnits (.builtin "type.__call__" ⟨.ref 166 :: rest, []⟩) = 1 := by kernel_rfl
    omega
end
end Mine
end

section
open PySem PySem.W PyProof.Rows PySem.Calls Builtin.ObjectAttr
set_option Elab.async false
set_option autoImplicit false
set_option maxRecDepth 100000
set_option linter.unusedVariables false
namespace Mine

section
variable {prog : Program} {Γ : Pm} {g : PMap} {own : List Res} {s : Shared} {A : Around} {E : Value → Shared → Prop} {env : Env}
theorem code_fn0 {n : Nat} {f : Addr} {oc : Value} {od : Option Addr} {osl : Array (Option Value)} {name qual : Str} {params : Arguments} {body : List Stmt} {scope : Scope} {dV kV doc pm cdv ct : Value} {an : Option Addr}
    {args : List Value} {binds : List (Str × Value)} {Q : Value → Shared → Prop}
    (S : St Γ g own s) (hA : Room A (n + 1)) (ho : (heapK Γ.w.params).lookup f = some ⟨oc, od, .func (fnOf name qual params body scope dV kV doc pm an cdv ct), osl⟩)
    (hcd : codeIn (heapK Γ.w.params) cdv qual = true)
    (hbind : bindArgs (fnOf name qual params body scope dV kV doc pm an cdv ct) ⟨args, []⟩ = pure binds)
    (hkind : (binds.all fun y => scope.names.lookup y.1 == some .local || scope.names.lookup y.1 == some .cell) = true)
    (hcs : ((cellsFrom 0 scope.names []).map (·.1)).all (fun x => scope.names.lookup x == some .cell) = true)
    (h : ∀ L s', St Γ g (rVars L (cellsFrom (L + 1) scope.names []) (bindV binds fun _ => none) :: own) s' →
      wpAny (model prog Γ.w) (A.deeper (envOfC qual scope L f cdv)) (execs body (envOfC qual scope L f cdv)) (fun fl s' => Q (match fl with | .ret v => v | _ => .none) s') (fun _ _ => False) s')
    (hco : scope.isCoroutine = false := by rfl) (hgen : scope.isGenerator = false := by rfl) (hk : scope.kind = .function := by rfl) :
    codeAny (model prog Γ.w) A (.call (.ref f) ⟨args, []⟩) (fun r s' => match r with | .ok (.ret v) => Q v s' | .ok _ => False | .error e => E e s') s := by
  refine (codeAny_call_function (fd := fnOf name qual params body scope dV kV doc pm an cdv ct) hA.lim (S.lookup ho) rfl hco hgen rfl (codeRec_of S.ge.X hcd) ?_)
  rw [hbind]
  refine wpAny_pure (wpAny_newFunctionEnv_cells hk (kindsX hkind _) fun env' he s' x => ?_)
  subst he
  obtain ⟨h₁, tk, rfl, hkp⟩ := x.done
  refine ⟨S.ge.nolimit.keeps hkp, codeAny_func ?_⟩
  have hcell : ∀ y c, (cellsFrom (s.heap.objs.size + 1) scope.names []).lookup y = some c → scope.names.lookup y = some .cell := fun y c hy => by
    have hm : y ∈ (cellsFrom (s.heap.objs.size + 1) scope.names []).map (·.1) := List.mem_map.mpr ⟨_, lookup_mem_map hy, rfl⟩
    rw [cellsFrom_names scope.names _ 0 [] [] rfl] at hm
    simpa using List.all_eq_true.mp hcs y hm
  have hS : St Γ g (rVars s.heap.objs.size (cellsFrom (s.heap.objs.size + 1) scope.names []) (bindV binds fun _ => none) :: own) { s with heap := h₁, toks := tk } := by
    refine S.cons hkp rfl rfl ⟨⟨_, x.toInCall.ns, fun y v hy hc => ?_⟩, fun y c hy => ⟨_, x.cell y c hy, fun v hv => ?_⟩, fun y z c hy hz => ?_, fun y c hy => ?_⟩ fun a ha => ?_
    · rcases bindV_mem hy with e | ⟨p, hp, rfl⟩
      · cases e
      · rcases kindsX hkind (s.heap.objs.size + 1) p hp with hl | ⟨_, hc'⟩
        · exact (bindL_eq (kindOf := fun y => scope.names.lookup y) hl binds _ (fun _ => none) rfl).trans hy
        · rw [hc] at hc'; cases hc'
    · have hne : scope.names.lookup y ≠ some .local := by rw [hcell y c hy]; simp
      exact (bindC_eq (kindOf := fun y => scope.names.lookup y) hne binds _ (fun _ => none) rfl).trans hv
    · exact name_of_addr' x.apart (lookup_mem_map hy) (lookup_mem_map hz)
    · exact Nat.ne_of_gt (x.above y c (lookup_mem_map hy))
    · rcases ha with rfl | ⟨y, hy⟩
      · exact Nat.le_refl _
      · exact Nat.le_of_lt (x.above y a (lookup_mem_map hy))
  refine wpAny_mono (h _ _ hS) (fun fl s' hq => ?_) fun _ _ e => e.elim
  exact hq

theorem code_fn (cs : Nat → List (Str × Addr)) {n : Nat} {f : Addr} {oc : Value} {od : Option Addr} {osl : Array (Option Value)} {name qual : Str} {params : Arguments} {body : List Stmt} {scope : Scope} {dV kV doc pm cdv ct : Value} {an : Option Addr}
    {args : List Value} {binds : List (Str × Value)} {Q : Value → Shared → Prop}
    (S : St Γ g own s) (hA : Room A (n + 1)) (ho : (heapK Γ.w.params).lookup f = some ⟨oc, od, .func (fnOf name qual params body scope dV kV doc pm an cdv ct), osl⟩)
    (hcd : codeIn (heapK Γ.w.params) cdv qual = true)
    (hbind : bindArgs (fnOf name qual params body scope dV kV doc pm an cdv ct) ⟨args, []⟩ = pure binds)
    (hkind : (binds.all fun y => scope.names.lookup y.1 == some .local || scope.names.lookup y.1 == some .cell) = true)
    (hcs : ((cellsFrom 0 scope.names []).map (·.1)).all (fun x => scope.names.lookup x == some .cell) = true)
    (hcsE : ∀ n, cellsFrom n scope.names [] = cs n)
    (h : ∀ L A' s', Room A' n → St Γ g (rVars L (cs (L + 1)) (bindV binds fun _ => none) :: own) s' →
      wpAny (model prog Γ.w) A' (execs body (envOfC qual scope L f cdv)) (fun fl s' => Q (match fl with | .ret v => v | _ => .none) s') (fun _ _ => False) s')
    (hco : scope.isCoroutine = false := by rfl) (hgen : scope.isGenerator = false := by rfl) (hk : scope.kind = .function := by rfl) :
    codeAny (model prog Γ.w) A (.call (.ref f) ⟨args, []⟩) (fun r s' => match r with | .ok (.ret v) => Q v s' | .ok _ => False | .error e => E e s') s :=
  code_fn0 S hA ho hcd hbind hkind hcs (fun L s' S' => h L _ s' (hA.deeper _) (by rw [← hcsE]; exact S')) hco hgen hk

abbrev nh (Γ : Pm) (n : Str) : Int := PyData.keyHash Γ.w.params n

set_option maxHeartbeats 4000000 in
theorem base_init {x dx : Addr} {vs : Value} {scope : List Int} {str : Str} {ts : Tok} {Q : Value → Shared → Prop} (S : St Γ g (rObj x (instObj 166 dx) :: rObj dx (dobj [] 0) :: own) s) (hA : Room A 6) (hs : (rTup rInt).at' g vs scope)
    (h : ∀ t1 t2 t3 tn s', St Γ g (rObj x (instObj 166 dx) :: rObj dx (dobj [⟨nh Γ "number", .str "number" t1, .int (-1) tn⟩, ⟨nh Γ "scope", .str "scope" t2, vs⟩, ⟨nh Γ "strength", .str "strength" t3, .str str ts⟩] 3) :: own) s' → Q .none s') :
    codeAny (model prog Γ.w) A (.call (.ref 35) ⟨[.ref x, vs, .str str ts], []⟩) (fun r s' => match r with | .ok (.ret v) => Q v s' | .ok _ => False | .error e => E e s') s := by
  refine code_fn (fun _ => []) (n := 5) S hA (by rfl) (by rfl) (by rfl) (by rfl) (by rfl) (fun _ => rfl) fun L A s hA S => ?_
  obtain ⟨va, v1, v2, rfl, hg, hr⟩ := id hs
  refine wpAny_execs_cons (plainObj_wpAny_Assign_Attribute ?_)
  refine UnaryOp_ ?_
  refine ev_int S fun t s S => ?_
  refine q_neg S fun tn s S => ?_
  refine ev_local (i := 0) S rfl (by rfl) ?_
  refine q_setAttr (i := 1) (j := 2) S rfl rfl (fun t => dobj [⟨nh Γ "number", .str "number" t, .int (-1) tn⟩] 1) (fun _ => rfl) (fun _ => ⟨_, _, rfl, by simp⟩) rfl (fun t1 s S => ?_) (by rfl)
  refine wpAny_execs_cons (plainObj_wpAny_Assign_Attribute ?_)
  refine Call_ ?_
  refine ev_builtin S (by rfl) (by boot_fast) (by decide) ?_
  refine PyProof.Rows.callWith_type1 ?_
  refine args_cons ?_
  refine ev_local (i := 0) S rfl (by rfl) ?_
  refine args_nil ?_
  refine call_tuple_same (isTup_of S hg) ?_
  refine ev_local (i := 0) S rfl (by rfl) ?_
  refine q_setAttr (i := 1) (j := 2) S rfl rfl (fun t => dobj [⟨nh Γ "number", .str "number" t1, .int (-1) tn⟩, ⟨nh Γ "scope", .str "scope" t, .ref va⟩] 2) (fun _ => rfl) (fun _ => ⟨_, _, rfl, by simp⟩) rfl (fun t2 s S => ?_) (by rfl)
  refine wpAny_execs_cons (plainObj_wpAny_Assign_Attribute ?_)
  refine ev_local (i := 0) S rfl (by rfl) ?_
  refine ev_local (i := 0) S rfl (by rfl) ?_
  refine q_setAttr (i := 1) (j := 2) S rfl rfl (fun t => dobj [⟨nh Γ "number", .str "number" t1, .int (-1) tn⟩, ⟨nh Γ "scope", .str "scope" t2, .ref va⟩, ⟨nh Γ "strength", .str "strength" t, .str str ts⟩] 3) (fun _ => rfl) (fun _ => ⟨_, _, rfl, by simp⟩) rfl (fun t3 s S => ?_) (by rfl)
  refine wpAny_execs_nil ?_
  exact h t1 t2 t3 tn s S.drop
end
end Mine
end

section
open PySem PySem.W PyProof.Rows PySem.Calls Builtin.ObjectAttr
set_option Elab.async false
set_option autoImplicit false
set_option maxRecDepth 100000
set_option linter.unusedVariables false
namespace Mine

section
variable {prog : Program} {Γ : Pm} {g : PMap} {own : List Res} {s : Shared} {A : Around} {E : Value → Shared → Prop} {env : Env}

theorem St.perm {own' : List Res} (S : St Γ g own s) (h : own'.Perm own) : St Γ g own' s where
  base := S.base
  keep := S.keep
  holds := fun i r hi => by
    obtain ⟨j, hj⟩ := List.getElem?_of_mem (h.mem_iff.mp (List.mem_of_getElem? hi))
    exact S.holds j r hj
  off := fun i r hi => by
    obtain ⟨j, hj⟩ := List.getElem?_of_mem (h.mem_iff.mp (List.mem_of_getElem? hi))
    exact S.off j r hj
  disj := fun i j r r' hne hi hj a ha ha' => by
    have P : own.Pairwise (fun r r' => ∀ a, r.fp a → ¬ r'.fp a) := by
      rw [List.pairwise_iff_getElem]
      intro i j h1 h2 hij
      exact S.disj i j _ _ (by omega) (List.getElem?_eq_getElem h1) (List.getElem?_eq_getElem h2)
    have P' := (h.pairwise_iff (fun {x y} hxy a hy hx => hxy a hx hy)).mpr P
    rw [List.pairwise_iff_getElem] at P'
    obtain ⟨i1, i2⟩ := List.getElem?_eq_some_iff.mp hi
    obtain ⟨j1, j2⟩ := List.getElem?_eq_some_iff.mp hj
    rcases Nat.lt_or_ge i j with q | q
    · have := P' i j i1 j1 q a
      rw [i2, j2] at this; exact this ha ha'
    · have := P' j i j1 i1 (by omega) a
      rw [i2, j2] at this; exact this ha' ha
  gens := S.gens
  os := S.os

theorem boot_super : bootBuiltins "super" = some (.type "super") := by first | rfl | kernel_rfl | decide +kernel

def fileOk (prog : Program) : Prop := ((prog.main.file : Str) == Str.ofString "/claim/cut.py") = true ∧ (prog.main.scope.names.lookup ("super" : Str)).isSome = false

theorem enter_super {n : Nat} {f cc : Addr} {oc : Value} {od : Option Addr} {osl : Array (Option Value)} {name qual : Str} {params : Arguments} {body : List Stmt} {scope : Scope} {dV kV doc pm cdv ct : Value} {an : Option Addr}
    {args : List Value} {binds : List (Str × Value)} {R : Result → Shared → Prop}
    (S : St Γ g own s) (hA : Room A (n + 1)) (ho : (heapK Γ.w.params).lookup f = some ⟨oc, od, .func (ksFn name qual params body scope dV kV doc pm an cdv ct cc), osl⟩)
    (hcd : codeIn (heapK Γ.w.params) cdv qual = true)
    (hbind : bindArgs (ksFn name qual params body scope dV kV doc pm an cdv ct cc) ⟨args, []⟩ = pure binds)
    (hloc : (binds.all fun y => scope.names.lookup y.1 == some .local) = true) (hcell : ∀ x ∈ scope.names, x.2 ≠ .cell)
    (h : ∀ L A' s', Room A' n → St Γ g (rVars L [] (fun x => binds.reverse.lookup x) :: own) s' →
      PySem.wpAt (model prog Γ.w) A' (.func body (ksEnv qual scope L f cdv cc)) (execs body (ksEnv qual scope L f cdv cc)) (fun fl s' => R (.ok (.ret (match fl with | .ret v => v | _ => .none))) s') (fun _ _ => False) s')
    (hco : scope.isCoroutine = false := by rfl) (hgen : scope.isGenerator = false := by rfl) (hk : scope.kind = .function := by rfl) :
    codeAny (model prog Γ.w) A (.call (.ref f) ⟨args, []⟩) R s := by
  refine ks_codeAny_call_defAt (fd := ksFn name qual params body scope dV kV doc pm an cdv ct cc) (body := body) (binds := binds) hA.lim (S.lookup ho) rfl S.ge.nolimit (codeRec_of S.ge.X hcd) rfl (BindsTo.of_eq hbind) hcell
    (fun y hy => by simpa using List.all_eq_true.mp hloc y hy) (fun h₁ hns hk₁ => ?_) hco hgen hk
  have S' : St Γ g (rVars s.heap.objs.size [] (fun x => binds.reverse.lookup x) :: own) { s with heap := h₁, toks := s.toks + binds.length } := by
    refine S.cons hk₁ rfl rfl ⟨⟨_, hns, fun x v hx _ => hx⟩, fun x c hc => (by cases hc), fun x y c hc _ => (by cases hc), fun x c hc => (by cases hc)⟩ fun a ha => ?_
    rcases ha with rfl | ⟨y, hy⟩
    · exact Nat.le_refl _
    · cases hy
  exact ks_wpAt_mono (h _ _ _ (hA.deeper _) S') (fun _ _ q => q) fun _ _ e => e.elim

theorem cw_meth {q f : Addr} {self : Value} {e : Expr} {rest : List Expr} {pos : Pos} {Q : Value → Shared → Prop} (hf : fnIn (heapK Γ.w.params) f = true)
    (h : wpAny (model prog Γ.w) A (spliced (backTo pos (starEach (e :: rest) env))) (fun vs s₁ => MethP (heapK Γ.w.params) q f self s₁.heap ∧ wpAny (model prog Γ.w) A (call (.ref q) vs) Q E s₁) E s)
    (he : starEach (e :: rest) env = (false, eval e env) :: starEach rest env := by rfl) (hplain : (backTo pos (starEach rest env)).any (·.1) = false := by rfl) :
    wpAny (model prog Γ.w) A (callWith pos (.ref q) [] (backTo pos (starEach (e :: rest) env)) []) Q E s := by
  rw [he] at h ⊢
  exact callWith_of (by show ((false || (backTo pos (starEach rest env)).any (·.1)) || false) = false; rw [hplain]; rfl) (keeps_M hf) (evalArgs_plain h)

set_option maxHeartbeats 8000000 in
theorem reg_init (hprog : fileOk prog) {x dx : Addr} {moves : List (List Int)} {ms : Nat} {ns st : Int} {t1 t2 t3 : Tok} {sca : Addr} {vm vf : Value} {scope finals : List Int} {R : Result → Shared → Prop} (S : St Γ g (rObj x (instObj 166 dx) :: rObj dx (dobj [] 0) :: own) s) (hA : Room A 27) (hsc : (rTup rInt).at' g (.ref sca) scope)
    (hU : ∀ q ∈ scope, q ∈ ([7, 2, 5] : List Int)) (hlen : scope.length ≤ 1000)
    (h : ∀ od g' s', Le g g' → lookIn "letters" od = some (some (.int ms t2)) → lookIn "rows" od = some (some vm) → lookIn "scope" od = some (some (.ref sca)) → lookIn "note_dead" od = some none →
      St Γ g' (rObj x (instObj 166 dx) :: rObj dx od :: own) s' → R (.ok (.ret .none)) s') :
    codeAny (model prog Γ.w) A (.call (.ref 79) ⟨[.ref x, .ref sca, .int ns t1, .int ms t2, vm, .int st t3, vf], []⟩) R s := by
  refine enter_super (n := 26) S hA (by rfl) (by rfl) (by rfl) (by rfl) (by decide) fun L A s hA S => ?_
  refine ks_wpAt_execs_cons (ks_wpAt_Expr_any (ks_wpAt_MethodCall ?_))
  have X := S.ge.X
  have G := S.ge
  refine ks_wpAt_super_base (by rfl) (by rfl) (by rfl) rfl (S.lookup (f := 79) (by rfl)) rfl (by rfl) rfl (S.lookup (f := 78) (by rfl)) rfl (by rfl) hprog.1 hprog.2 ?_
  refine ks_loadName_global (by rfl) (by rfl) ?_
  refine loadGlobal_builtin (env := _) G.g (mg_none_of G.X G.g (by rfl)) G.b ((G.builtins _ (by decide)).trans boot_super) ⟨rfl, ?_⟩
  refine wpAny_loadName_free (by rfl) (by rfl) rfl ⟨_, S.lookup (f := 67) (by rfl), rfl⟩ ?_
  obtain ⟨ml, hn, hml⟩ := (S.holds 0 _ rfl).ns
  refine wpAny_loadName_local (by rfl) (by rfl) hn (hml _ _ (by rfl) rfl) ?_
  have hD := S.lookup (f := 166) (by rfl)
  obtain ⟨hh, gg, d, t, os⟩ := s
  refine ks_wpAny_isType_cls hD rfl ⟨rfl, ?_⟩
  refine ks_wpAny_call_super hD rfl (S.load (i := 1) rfl) rfl (fun c e => nomatch e) (looks_mroIn X (by rfl)) (fun h' e k => ?_)
  have S1 : St Γ g (rObj hh.objs.size (ks_superObj 166 x 166) :: rVars L [] _ :: rObj x (instObj 166 dx) :: rObj dx (dobj [] 0) :: own) ⟨h', gg, d, t, os⟩ := S.cons k rfl rfl e fun b hb => Nat.le_of_eq (Eq.symm hb)
  clear S
  have X1 := S1.ge.X
  have hxC : x ≠ 166 := fun q => by
    have := S1.off 2 _ rfl x rfl
    rw [q, S1.lookupG (f := 166) (by rfl)] at this; cases this
  refine ks_wpAny_getMethod_super (S1.load (i := 0) rfl) (looks_opaque X1 (by rfl)) (l₀ := [.ref 166, .ref 59, .type "object"]) ((looks_clsIn X1 (by rfl)).andThen .now) rfl X1 (f := 35) (by rfl) (S1.lookup (f := 35) (by rfl)) rfl hxC (by decide) ?_
  have S2 : St Γ g _ _ := (S1.alloc (methodObj (.ref 35) (.ref x))).toks (t + 1)
  generalize hq : h'.objs.size = q at *
  dsimp only at S2
  obtain ⟨sc1, sc2, hsg, _⟩ : ∃ vs n, g sca = some (tupObj vs n) ∧ True := by
    obtain ⟨a, vs, n, e, hg, _⟩ := hsc
    cases e; exact ⟨vs, n, hg, trivial⟩
  refine cw_meth (f := 35) (self := .ref x) (by rfl) ?_
  generalize hst : ({ heap := h'.push (methodObj (.ref 35) (.ref x)), gens := gg, drawn := d, toks := t + 1, os := os } : Shared) = s at *
  refine args_cons ?_
  refine Call_ ?_
  refine ev_builtin S2 (by rfl) (by boot_fast) (by decide) ?_
  refine PyProof.Rows.callWith_type1 ?_
  refine args_cons ?_
  refine ev_local (i := 2) S2 rfl (by rfl) ?_
  refine args_nil ?_
  refine call_tuple_same (isTup_of S2 hsg) ?_
  refine args_cons ?_
  refine ev_str S2 fun ts s S2 => ?_
  refine args_nil ⟨⟨S2.load (i := 0) rfl, S2.ge.X⟩, ?_⟩
  refine wpAny_call (method_call (S2.load (i := 0) rfl) ?_)
  have S3 := S2.drop.drop.perm (own' := rObj x (instObj 166 dx) :: rObj dx (dobj [] 0) :: rVars L [] _ :: own) ((List.Perm.swap _ _ _).trans (List.Perm.cons _ (List.Perm.swap _ _ _))).symm
  refine base_init S3 hA.le hsc fun u1 u2 u3 tn s S => ?_
  have S := S.perm (own' := rVars L [] _ :: rObj x (instObj 166 dx) :: rObj dx _ :: own) ((List.Perm.swap _ _ _).trans (List.Perm.cons _ (List.Perm.swap _ _ _)))
  refine wpAt_of_wpAny ?_
  refine wpAny_execs_cons (plainObj_wpAny_Assign_Attribute ?_)
  refine ev_local (i := 0) S rfl (by rfl) ?_
  refine ev_local (i := 0) S rfl (by rfl) ?_
  refine q_setAttr (i := 1) (j := 2) S rfl rfl (fun t => dobj [⟨nh Γ "number", .str "number" u1, .int (-1) tn⟩, ⟨nh Γ "scope", .str "scope" u2, .ref sca⟩, ⟨nh Γ "strength", .str "strength" u3, .str (Str.ofString "values") ts⟩, ⟨nh Γ "states", .str "states" t, .int ns t1⟩] 4) (fun _ => rfl) (fun _ => ⟨_, _, rfl, by simp⟩) rfl (fun u4 s S => ?_) (by rfl)
  refine wpAny_execs_cons (plainObj_wpAny_Assign_Attribute ?_)
  refine ev_local (i := 0) S rfl (by rfl) ?_
  refine ev_local (i := 0) S rfl (by rfl) ?_
  refine q_setAttr (i := 1) (j := 2) S rfl rfl (fun t => dobj [⟨nh Γ "number", .str "number" u1, .int (-1) tn⟩, ⟨nh Γ "scope", .str "scope" u2, .ref sca⟩, ⟨nh Γ "strength", .str "strength" u3, .str (Str.ofString "values") ts⟩, ⟨nh Γ "states", .str "states" u4, .int ns t1⟩, ⟨nh Γ "letters", .str "letters" t, .int ms t2⟩] 5) (fun _ => rfl) (fun _ => ⟨_, _, rfl, by simp⟩) rfl (fun u5 s S => ?_) (by rfl)
  refine wpAny_execs_cons (plainObj_wpAny_Assign_Attribute ?_)
  refine ev_local (i := 0) S rfl (by rfl) ?_
  refine ev_local (i := 0) S rfl (by rfl) ?_
  refine q_setAttr (i := 1) (j := 2) S rfl rfl (fun t => dobj [⟨nh Γ "number", .str "number" u1, .int (-1) tn⟩, ⟨nh Γ "scope", .str "scope" u2, .ref sca⟩, ⟨nh Γ "strength", .str "strength" u3, .str (Str.ofString "values") ts⟩, ⟨nh Γ "states", .str "states" u4, .int ns t1⟩, ⟨nh Γ "letters", .str "letters" u5, .int ms t2⟩, ⟨nh Γ "rows", .str "rows" t, vm⟩] 6) (fun _ => rfl) (fun _ => ⟨_, _, rfl, by simp⟩) rfl (fun u6 s S => ?_) (by rfl)
  refine wpAny_execs_cons (plainObj_wpAny_Assign_Attribute ?_)
  refine ev_local (i := 0) S rfl (by rfl) ?_
  refine ev_local (i := 0) S rfl (by rfl) ?_
  refine q_setAttr (i := 1) (j := 2) S rfl rfl (fun t => dobj [⟨nh Γ "number", .str "number" u1, .int (-1) tn⟩, ⟨nh Γ "scope", .str "scope" u2, .ref sca⟩, ⟨nh Γ "strength", .str "strength" u3, .str (Str.ofString "values") ts⟩, ⟨nh Γ "states", .str "states" u4, .int ns t1⟩, ⟨nh Γ "letters", .str "letters" u5, .int ms t2⟩, ⟨nh Γ "rows", .str "rows" u6, vm⟩, ⟨nh Γ "start", .str "start" t, .int st t3⟩] 7) (fun _ => rfl) (fun _ => ⟨_, _, rfl, by simp⟩) rfl (fun u7 s S => ?_) (by rfl)
  refine wpAny_execs_cons (plainObj_wpAny_Assign_Attribute ?_)
  refine ev_local (i := 0) S rfl (by rfl) ?_
  refine ev_local (i := 0) S rfl (by rfl) ?_
  refine q_setAttr (i := 1) (j := 2) S rfl rfl (fun t => dobj [⟨nh Γ "number", .str "number" u1, .int (-1) tn⟩, ⟨nh Γ "scope", .str "scope" u2, .ref sca⟩, ⟨nh Γ "strength", .str "strength" u3, .str (Str.ofString "values") ts⟩, ⟨nh Γ "states", .str "states" u4, .int ns t1⟩, ⟨nh Γ "letters", .str "letters" u5, .int ms t2⟩, ⟨nh Γ "rows", .str "rows" u6, vm⟩, ⟨nh Γ "start", .str "start" u7, .int st t3⟩, ⟨nh Γ "finals", .str "finals" t, vf⟩] 8) (fun _ => rfl) (fun _ => ⟨_, _, rfl, by simp⟩) rfl (fun u8 s S => ?_) (by rfl)
  refine wpAny_execs_cons (plainObj_wpAny_Assign_Attribute ?_)
  refine wpAny_Compare1 ?_
  refine Call_ ?_
  refine ev_builtin S (by rfl) (by boot_fast) (by decide) ?_
  refine PyProof.Rows.callWith_builtin1 ?_
  refine args_cons ?_
  refine Call_ ?_
  refine ev_builtin S (by rfl) (by boot_fast) (by decide) ?_
  refine PyProof.Rows.callWith_builtin1 ?_
  refine args_cons ?_
  refine Call_ ?_
  refine ev_builtin S (by rfl) (by boot_fast) (by decide) ?_
  refine PyProof.Rows.callWith_type1 ?_
  refine args_cons ?_
  refine ev_local (i := 0) S rfl (by rfl) ?_
  refine args_nil ?_
  refine q_set_intsT (U := [7, 2, 5]) S hA.le hsc hU (by decide) fun sa vs kl s hvs hnd hmem S => ?_
  have hkl3 : kl.length ≤ 3 := by
    have := List.Nodup.length_le_of_subset (l₂ := [7, 2, 5]) hnd (fun q hq => hU q ((hmem q).mp hq))
    simpa using this
  refine args_nil ?_
  refine q_sortedSetI S hA.le hvs (by omega) fun v6 kl' g6 s hl6 hv6 hperm S => ?_
  refine args_nil ?_
  refine q_len S hv6 (by rw [hperm.length_eq]; omega) fun t s S => ?_
  refine Call_ ?_
  refine ev_builtin S (by rfl) (by boot_fast) (by decide) ?_
  refine PyProof.Rows.callWith_builtin1 ?_
  refine args_cons ?_
  refine ev_local (i := 0) S rfl (by rfl) ?_
  refine args_nil ?_
  refine q_lenT S ((rTup rInt).mono hl6 hsc) (by omega) fun t s S => ?_
  refine PyProof.Rows.lt_int ?_
  generalize decide (((kl'.length : Nat) : Int) < ((scope.length : Nat) : Int)) = bt
  refine ev_local (i := 0) S rfl (by rfl) ?_
  refine q_setAttr (i := 1) (j := 2) S rfl rfl (fun t => dobj [⟨nh Γ "number", .str "number" u1, .int (-1) tn⟩, ⟨nh Γ "scope", .str "scope" u2, .ref sca⟩, ⟨nh Γ "strength", .str "strength" u3, .str (Str.ofString "values") ts⟩, ⟨nh Γ "states", .str "states" u4, .int ns t1⟩, ⟨nh Γ "letters", .str "letters" u5, .int ms t2⟩, ⟨nh Γ "rows", .str "rows" u6, vm⟩, ⟨nh Γ "start", .str "start" u7, .int st t3⟩, ⟨nh Γ "finals", .str "finals" u8, vf⟩, ⟨nh Γ "has_twins", .str "has_twins" t, .bool bt⟩] 9) (fun _ => rfl) (fun _ => ⟨_, _, rfl, by simp⟩) rfl (fun u9 s S => ?_) (by rfl)
  refine wpAny_execs_nil ?_
  exact h _ g6 s hl6 rfl rfl rfl rfl S.drop
end
end Mine
end

section
open PySem PySem.W PyProof.Rows PySem.Calls Builtin.ObjectAttr
set_option Elab.async false
set_option autoImplicit false
set_option maxRecDepth 100000
set_option linter.unusedVariables false
namespace Mine

section
variable {prog : Program} {Γ : Pm} {g : PMap} {own : List Res} {s : Shared} {A : Around} {E : Value → Shared → Prop} {env : Env}

theorem make_spec (hprog : fileOk prog) {moves : List (List Int)} {ms : Nat} {ns st : Int} {t1 t2 t3 : Tok} {vs vm vf : Value} {scope : List Int} {Q : Value → Shared → Prop} (S : St Γ g own s) (hA : Room A 30) (hsc : (rTup rInt).at' g vs scope) (hm : (rTup (rTup rInt)).at' g vm moves)
    (hU : ∀ q ∈ scope, q ∈ ([7, 2, 5] : List Int)) (hlen : scope.length ≤ 1000)
    (h : ∀ x g' s', Le g g' → Reg g' x ms moves scope → St Γ g' own s' → Q (.ref x) s') :
    wpAny (model prog Γ.w) A (call (.ref 166) [vs, .int ns t1, .int ms t2, vm, .int st t3, vf]) Q E s := by
  obtain ⟨sca, v1, v2, rfl, hg, hr⟩ := id hsc
  obtain ⟨hh, gg, d, t, os⟩ := s
  have X := S.ge.X
  refine wpAny_call (make_core (makes_of X (by rfl)) (looks_findIn X (r := some (.ref 79)) (by rfl)) (fun self => bind_fn X self (by rfl)) (.inl rfl) ?_)
  have S0 := S.alloc emptyDict
  have S1 := S0.alloc (instObj 166 hh.objs.size)
  dsimp only at S1
  rw [Heap.size_push] at S1
  generalize hst : ({ heap := (hh.push emptyDict).push (instObj 166 hh.objs.size), gens := gg, drawn := d, toks := t, os := os } : Shared) = s1 at *
  generalize hx : hh.objs.size + 1 = x at *
  generalize hdx : hh.objs.size = dx at *
  refine reg_init (moves := moves) (finals := []) hprog S1 (room_make hA) hsc hU hlen fun od g' s' hl e1 e2 e3 e4 S2 => ?_
  obtain ⟨hl2, S3⟩ := S2.rest
  obtain ⟨hl3, S4⟩ := S3.rest
  have hn1 : g' x = none := S2.off 0 _ rfl x rfl
  have hne : x ≠ dx := by rw [← hx]; exact Nat.succ_ne_self _
  refine ⟨rfl, h x _ s' (hl.trans (hl2.trans hl3)) ⟨dx, od, t2, vm, .ref sca, ?_, ?_, e1, e2, e3, e4, ?_, ?_⟩ S4⟩
  · exact hl3 _ _ (by unfold PMap.ins; rw [if_pos rfl])
  · unfold PMap.ins; rw [if_pos rfl]
  · exact (rTup (rTup rInt)).mono (hl.trans (hl2.trans hl3)) hm
  · exact (rTup rInt).mono (hl.trans (hl2.trans hl3)) hsc
end
end Mine
end

section
open PySem PySem.W PyProof.Rows PySem.Calls
set_option Elab.async false
set_option autoImplicit false
set_option maxRecDepth 100000
set_option linter.unusedVariables false
namespace Mine

structure LawFn (p : Params) where
  body : List Stmt
  scope : Scope
  ok : ∃ oc od osl name qual params dV kV doc pm an cdv ct, (heapK p).lookup 209 = some ⟨oc, od, .func (fnOf name qual params body scope dV kV doc pm an cdv ct), osl⟩
noncomputable def lawX (p : Params) : LawFn p := ⟨_, _, _, _, _, _, _, _, _, _, _, _, _, _, _, by rfl⟩
noncomputable def lawTail (p : Params) (n : Nat) : List Stmt := (lawX p).body.drop n
noncomputable abbrev lawEnv (p : Params) (L : Addr) : Env := envOfC (Str.ofString "law") (lawX p).scope L 209 (.ref 208)
abbrev lawCs (n : Nat) : List (Str × Addr) := [("spot", n + 8), ("alive", n + 7), ("kept", n + 6), ("finals", n + 5), ("mask", n + 4), ("moves", n + 3), ("letters", n + 2), ("states", n + 1), ("tape", n)]

section
variable {prog : Program} {Γ : Pm} {g : PMap} {own : List Res} {s : Shared} {A : Around} {E : Value → Shared → Prop} {env : Env}

set_option maxHeartbeats 4000000 in
theorem law_call {script : List Int} {v : Value} {n : Nat} {Q : Value → Shared → Prop} (S : St Γ g own s) (hA : Room A (n + 1))
    (h : ∀ L A' s', Room A' n → St Γ g (rVars L (lawCs (L + 1)) (bindV [("script", v)] fun _ => none) :: own) s' →
      wpAny (model prog Γ.w) A' (execs (lawTail Γ.w.params 0) (lawEnv Γ.w.params L)) (fun fl s' => Q (match fl with | .ret v => v | _ => .none) s') (fun _ _ => False) s') :
    wpAny (model prog Γ.w) A (call (.ref 209) [v]) Q E s := by
  refine call_fn lawCs S hA (by rfl) (by rfl) (by rfl) (by rfl) (by rfl) (fun _ => rfl) fun L A' s' hA' S' => ?_
  exact h L A' s' hA' S'

theorem q_slice {value slice : Expr} {l : List Int} {v : Value} {y : Int} {t : Tok} {Q : Value → Shared → Prop} (S : St Γ g own s) (hv : (rLst rInt).at' g v l) (hy : 0 ≤ y) (hl : l.length ≤ 100000)
    (h : ∀ r g' s', Le g g' → (rLst rInt).at' g' r (l.take y.toNat) → St Γ g' own s' → Q r s')
    (hs : ∀ a, subscripted slice false (.ref a) (.ref s.heap.objs.size) = operate [.ref s.heap.objs.size, .ref a] (getItem (.ref a) (.ref s.heap.objs.size)) := by intro _; with_unfolding_all rfl)
    (ht : ∀ a r, letTemporaryGo value (.ref a) r = pure () := by intro _ _; with_unfolding_all rfl) :
    wpAny (model prog Γ.w) A (subscriptTail value slice v (.ref s.heap.objs.size)) Q E { s with heap := s.heap.push { cls := .type "slice", data := .fields #[.none, .int y t, .none] } } := by
  obtain ⟨a, vs, n, rfl, hg, hr⟩ := hv
  have hi := intsAre hr
  have hL : s.heap.IsList a vs.toArray := isList_of S hg
  refine subscriptTail_ops (Heap.IsList.typeIs (s := { s with heap := s.heap.push { cls := .type "slice", data := .fields #[.none, .int y t, .none] } }) (hL.push _)) list_getitem_lookup
    (wpAny_getItem_list_slice (hL.push _) (Heap.IsSliceOf.new ..) .none (.int ..) .none (by simp) ?_ ?_) (hs a) (ht a)
  · have S1 : St Γ g own { s with heap := s.heap.push { cls := .type "slice", data := .fields #[.none, .int y t, .none] } } := S.kept (fun _ _ e => Heap.get?_push_of_some _ e) rfl rfl
    have S2 := S1.alloc { cls := .type "list", data := .seq (slicePick vs.toArray none (some y) none) }
    obtain ⟨hle, S3⟩ := S2.rest
    refine h _ _ _ hle ⟨_, (slicePick vs.toArray none (some y) none).toList, 0, rfl, ?_, ?_⟩ S3
    · exact ins_self
    · have := slice_ints_uptoW hi hy
      generalize (slicePick vs.toArray none (some y) none).toList = us at this
      clear h S2 S3 S1 hle hL
      generalize l.take y.toNat = l2 at this
      induction this with
      | nil => exact .nil
      | cons n t _ ih => exact .cons ⟨t, rfl⟩ ih
  · rw [sizeLine_eq]; have := hr.length; simp; omega

theorem q_unpack2 {u w : Value} {a : Addr} {n k : Nat} {e1 e2 : Expr} {pos : Pos} {Q : Unit → Shared → Prop} (S : St Γ g own s) (hh : A.handled = none) (hg : g a = some (tupObj [u, w] n))
    (hE : assignEach [e1, e2] env = [(false, assign e1 env), (false, assign e2 env)])
    (h : ∀ s', St Γ g own s' → wpAny (model prog Γ.w) A (assign e1 env u) (fun _ s => wpAny (model prog Γ.w) A (assign e2 env w) Q E s) E s') :
    wpAny (model prog Γ.w) A (assign (.Tuple [e1, e2] k pos) env (.ref a)) Q E s :=
  q_assign2 (Ra := ⟨fun _ v x => v = x, fun _ h => h⟩) (Rb := ⟨fun _ v x => v = x, fun _ h => h⟩) (p := (u, w)) S hh ⟨a, u, w, n, rfl, hg, rfl, rfl⟩ hE fun _ _ s' e1 e2 S' => by
    have e1 : _ = _ := e1
    have e2 : _ = _ := e2
    subst e1 e2; exact h s' S'
theorem q_unpack3 {u w x : Value} {a : Addr} {n k : Nat} {e1 e2 e3 : Expr} {pos : Pos} {Q : Unit → Shared → Prop} (S : St Γ g own s) (hh : A.handled = none) (hg : g a = some (tupObj [u, w, x] n))
    (hE : assignEach [e1, e2, e3] env = [(false, assign e1 env), (false, assign e2 env), (false, assign e3 env)])
    (h : ∀ s', St Γ g own s' → wpAny (model prog Γ.w) A (assign e1 env u) (fun _ s => wpAny (model prog Γ.w) A (assign e2 env w) (fun _ s => wpAny (model prog Γ.w) A (assign e3 env x) Q E s) E s) E s') :
    wpAny (model prog Γ.w) A (assign (.Tuple [e1, e2, e3] k pos) env (.ref a)) Q E s := by
  refine assign_Tuple_tuple hh (isTup_of S hg) (by rw [hE]; rfl) (by rw [hE]; rfl) fun h' hx => ?_
  rw [hE]
  have S' : St Γ g own { s with heap := h' } := S.kept (fun b o e => hx b o (Nat.ne_of_lt (Heap.lt_size e)) e) rfl rfl
  exact assignInOrder_cons (wpAny_mono (h _ S') (fun _ _ q => assignInOrder_cons (wpAny_mono q (fun _ _ q => assignInOrder_cons (wpAny_mono q (fun _ _ q => assignInOrder_nil q) fun _ _ e => e)) fun _ _ e => e)) fun _ _ e => e)

theorem q_tupleOf {α : Type} {T : Rep α} {v : Value} {l : List α} {Q : Value → Shared → Prop} (S : St Γ g own s) (hv : (rLst T).at' g v l) (hz : l.length ≤ 100000)
    (h : ∀ r g' s', Le g g' → (rTup T).at' g' r l → St Γ g' own s' → Q r s') : wpAny (model prog Γ.w) A (call (.type "tuple") [v]) Q E s := by
  obtain ⟨a, vs, n, rfl, hg, hr⟩ := hv
  refine call_tuple_list (isList_of S hg) (fun h' hk => ?_) (by rw [sizeLine_eq]; have := hr.length; simp; omega)
  have S1 : St Γ g own { s with heap := h' } := S.kept hk rfl rfl
  have S2 := S1.alloc { cls := .type "tuple", data := .seq vs.toArray }
  obtain ⟨hle, S3⟩ := S2.rest
  exact h _ _ _ hle ⟨_, vs, 0, rfl, ins_self, hr.imp fun _ _ q => T.mono hle q⟩ S3
theorem q_listOf {α : Type} {T : Rep α} {v : Value} {l : List α} {Q : Value → Shared → Prop} (S : St Γ g own s) (hv : (rLst T).at' g v l) (hz : l.length ≤ 100000)
    (h : ∀ r g' s', Le g g' → (rLst T).at' g' r l → St Γ g' own s' → Q r s') : wpAny (model prog Γ.w) A (call (.type "list") [v]) Q E s := by
  obtain ⟨a, vs, n, rfl, hg, hr⟩ := hv
  refine call_list_seq a (.inl rfl) (S.keep _ _ hg) rfl rfl (fun h' c' hk hnew => ?_) (by rw [sizeLine_eq]; have := hr.length; simp; omega)
  have S1 : St Γ g (rObj s.heap.objs.size (lstObj vs c') :: own) { s with heap := h' } :=
    S.cons hk rfl rfl hnew fun b hb => Nat.le_of_eq (Eq.symm hb)
  obtain ⟨hle, S3⟩ := S1.rest
  exact h _ _ _ hle ⟨_, vs, c', rfl, ins_self, hr.imp fun _ _ q => T.mono hle q⟩ S3
end
end Mine
end

section
open PySem PySem.W PyProof.Rows PySem.Calls
set_option Elab.async false
set_option autoImplicit false
set_option maxRecDepth 100000
set_option linter.unusedVariables false
namespace Mine

section
variable {prog : Program} {Γ : Pm} {g : PMap} {own : List Res} {s : Shared} {A : Around} {E : Value → Shared → Prop} {env : Env}

theorem q_tapeDict {x : Expr} {kp1 kp2 kp3 pos : Pos} {k1 k2 k3 : Nat} {Q : Value → Shared → Prop} (S : St Γ g own s)
    (hk : ∀ d s₀, St Γ g (rSDict prog Γ.w d [] :: own) s₀ → wpAny (model prog Γ.w) A (eval x env) (fun cl s₁ => ∃ g' own', Le g g' ∧ St Γ g' (rSDict prog Γ.w d [] :: own') s₁ ∧
      ∀ s₂, St Γ g' (rTape prog Γ.w d cl 0 :: own') s₂ → Q (.ref d) s₂) E s₀) :
    wpAny (model prog Γ.w) A (eval (.Dict [some (.Constant (.str "cells") k1 kp1), some (.Constant (.str "spot") k2 kp2)] [x, .Constant (.int 0) k3 kp3] pos) env) Q E s := by
  refine wpAny_Dict_walk (knd := strKind prog Γ.w) rfl rfl (by simp) (by simp) ?_
  have S0 : St Γ g (rSDict prog Γ.w s.heap.objs.size [] :: own) { s with heap := s.heap.push { cls := .type "dict", data := .dict #[] } } :=
    S.cons (fun b o e => Heap.get?_push_of_some _ e) rfl rfl (Heap.DictOf.new ..) fun b hb => Nat.le_of_eq (Eq.symm hb)
  generalize hd : s.heap.objs.size = d at *
  generalize ({ s with heap := s.heap.push { cls := .type "dict", data := .dict #[] } } : Shared) = s1 at *
  refine pairTrees_cons_walk ?_
  refine ev_str S0 fun t1 s1 S1 => ?_
  refine wpAny_mono (hk d s1 S1) (fun cl s2 hq => ?_) fun _ _ e => e
  obtain ⟨g', own', hle, S2, hfin⟩ := hq
  refine pairTrees_cons_walk ?_
  refine ev_str S2 fun t2 s3 S3 => ?_
  refine ev_int S3 fun t3 s4 S4 => ?_
  refine pairTrees_nil_walk ?_
  refine ⟨[("cells", cl), ("spot", .int 0 t3)], ⟨strKind_is .., rfl, strKind_is .., rfl, trivial⟩, S4.holds 0 _ rfl, fun h' hm hs => ?_⟩
  refine hfin _ ?_
  have S5 := S4.set (s' := { s4 with heap := h', toks := s4.toks + 2 }) 0 (rTape prog Γ.w d cl 0) rfl (fun _ ha => ha) (fun b o hb e => hs.extBut b o hb e) ⟨t3, hm⟩ rfl rfl
  exact S5

set_option maxHeartbeats 4000000 in
theorem law_s0 {script : List Int} {v : Value} {n : Nat} {L : Addr} {m : Str → Option Value} {Q : Flow → Shared → Prop} (S : St Γ g (rVars L (lawCs (L + 1)) m :: own) s) (hA : Room A (n + 10)) (hv : (rLst rInt).at' g v script) (hm : m "script" = some v) (hlen : script.length ≤ 1000)
    (h : ∀ tp cl g' s', Le g g' → (rLst rInt).at' g' cl (script.take 60) → St Γ g' (rVars L (lawCs (L + 1)) (upd m "tape" (.ref tp)) :: rTape prog Γ.w tp cl 0 :: own) s' →
      wpAny (model prog Γ.w) A (execs (lawTail Γ.w.params 1) (lawEnv Γ.w.params L)) Q E s') :
    wpAny (model prog Γ.w) A (execs (lawTail Γ.w.params 0) (lawEnv Γ.w.params L)) Q E s := by
  show wpAny _ _ (execs (_ :: lawTail Γ.w.params 1) _) _ _ _
  refine wpAny_execs_cons (wpAny_Assign_Name ?_)
  refine q_tapeDict S fun d s S => ?_
  refine comp_map (T := rInt) (U := rInt) (l := script.take 60) (fun x => some x) (cl := []) (by rfl) (by decide) (by decide) fun Kh hKh => ?_
  refine Subscript_ ?_
  refine ev_local (i := 1) S rfl hm ?_
  refine wpAny_Slice ?_
  refine wpAny_pure ?_
  refine evalPart_some_step ?_
  refine ev_int S fun t s S => ?_
  refine wpAny_pure ?_
  refine q_slice S hv (by decide) (by omega) fun r g' s hle hr S => ?_
  refine q_lstIter S hA.1 hr fun it R s I S => ?_
  refine hKh _ _ _ _ R (I _) (by rw [List.length_take]; omega) S ?_ ?_
  · rintro x v' D m' g₂ s hmem hl2 ⟨tx, rfl⟩ X Y S K K0 E' hK hK0
    refine wpAny_assign_Name (st_local (i := 0) S rfl fun s S => ?_)
    refine tests_nil ?_
    rw [if_pos rfl]
    refine Call_ ?_
    refine ev_builtin S (by rfl) (by boot_fast) (by decide) ?_
    refine PyProof.Rows.callWith_type1 ?_
    refine args_cons ?_
    refine ev_local (i := 0) S rfl upd_self ?_
    refine args_nil ?_
    refine call_int_int ?_
    exact hK _ _ _ _ _ (Le.refl _) rfl ⟨_, rfl⟩ S
  · rintro g₂ cl s hl2 hcl S
    rw [List.filterMap_some] at hcl
    refine ⟨g₂, _, hle.trans hl2, S, fun s S => ?_⟩
    have S := S.swap
    refine st_cell (i := 0) S rfl rfl fun s S => ?_
    exact h d cl g₂ s (hle.trans hl2) hcl S
end
end Mine
end

section
open PySem PySem.W PyProof.Rows PySem.Calls
set_option Elab.async false
set_option autoImplicit false
set_option maxRecDepth 100000
set_option linter.unusedVariables false
namespace Mine

theorem takeVal_range (cells : List Int) (k : Nat) {wide : Int} (hw : 0 < wide) : 0 ≤ takeVal cells k wide ∧ takeVal cells k wide < wide := by
  unfold takeVal
  split <;> exact ⟨Int.fmod_nonneg_of_pos _ hw, Int.fmod_lt_of_pos _ hw⟩

/-- what is known of the tape -/
structure Tape (g : PMap) (cl : Value) (cells : List Int) : Prop where
  at' : (rLst rInt).at' g cl cells
  len : cells.length ≤ 60
theorem Tape.mono {g g' : PMap} {cl : Value} {cells : List Int} (h : Le g g') (T : Tape g cl cells) : Tape g' cl cells := ⟨(rLst rInt).mono h T.at', T.len⟩

section
variable {prog : Program} {Γ : Pm} {g : PMap} {own : List Res} {s : Shared} {A : Around} {E : Value → Shared → Prop} {env : Env}

theorem q_take {i k : Nat} {tp : Addr} {cl : Value} {cells : List Int} {wide : Int} {u : Tok} {Q : Value → Shared → Prop}
    (S : St Γ g own s) (hA : Room A 5) (hi : own[i]? = some (rTape prog Γ.w tp cl k)) (T : Tape g cl cells) (hk : k ≤ 10000) (hw : 0 < wide)
    (h : ∀ x t s', 0 ≤ x → x < wide → St Γ g (own.set i (rTape prog Γ.w tp cl (k + 1))) s' → Q (.int x t) s') :
    wpAny (model prog Γ.w) A (call (.ref 175) [.ref tp, .int wide u]) Q E s :=
  take_spec S hA hi T.at' T.len hk (by omega) fun t s' S' => h _ t s' (takeVal_range _ _ hw).1 (takeVal_range _ _ hw).2 S'

set_option maxHeartbeats 4000000 in
theorem law_s1 {n k : Nat} {L tp : Addr} {cl : Value} {cells : List Int} {m : Str → Option Value} {Q : Flow → Shared → Prop} (S : St Γ g (rVars L (lawCs (L + 1)) m :: rTape prog Γ.w tp cl k :: own) s) (hA : Room A (n + 10)) (T : Tape g cl cells) (hk : k ≤ 5000) (hm : m "tape" = some (.ref tp))
    (h : ∀ (ns ms : Nat) t1 t2 g' s', 1 ≤ ns → ns ≤ 3 → 1 ≤ ms → ms ≤ 3 → Le g g' → St Γ g' (rVars L (lawCs (L + 1)) (upd (upd m "states" (.int ns t1)) "letters" (.int ms t2)) :: rTape prog Γ.w tp cl (k + 2) :: own) s' →
      wpAny (model prog Γ.w) A (execs (lawTail Γ.w.params 2) (lawEnv Γ.w.params L)) Q E s') :
    wpAny (model prog Γ.w) A (execs (lawTail Γ.w.params 1) (lawEnv Γ.w.params L)) Q E s := by
  show wpAny _ _ (execs (_ :: lawTail Γ.w.params 2) _) _ _ _
  refine wpAny_execs_cons (Assign_Tuple ?_)
  refine Tuple_ ?_
  refine args_cons ?_
  refine wpAny_BinOp ?_
  refine ev_int S fun t0 s S => ?_
  refine Call_ ?_
  refine ev_global S (by rfl) ?_
  refine cw_fn S (by rfl) rfl ?_
  refine args_cons ?_
  refine ev_cell (i := 0) S rfl hm rfl ?_
  refine args_cons ?_
  refine ev_int S fun t s S => ?_
  refine args_nil ⟨S.ge, ?_⟩
  refine q_take (i := 1) S hA.le rfl T (by omega) (by decide) fun x1 t s hx1 hx1' S => ?_
  refine q_add S fun t1 s S => ?_
  refine args_cons ?_
  refine wpAny_BinOp ?_
  refine ev_int S fun t0 s S => ?_
  refine Call_ ?_
  refine ev_global S (by rfl) ?_
  refine cw_fn S (by rfl) rfl ?_
  refine args_cons ?_
  refine ev_cell (i := 0) S rfl hm rfl ?_
  refine args_cons ?_
  refine ev_int S fun t s S => ?_
  refine args_nil ⟨S.ge, ?_⟩
  refine q_take (i := 1) S hA.le rfl T (by omega) (by decide) fun x2 t s hx2 hx2' S => ?_
  refine q_add S fun t2 s S => ?_
  refine args_nil ?_
  refine q_newTuple S (by simp) fun a g' s hl hg S => ?_
  refine q_unpack2 S hA.1 hg (by rfl) fun s S => ?_
  refine wpAny_assign_Name (st_cell (i := 0) S rfl rfl fun s S => ?_)
  refine wpAny_assign_Name (st_cell (i := 0) S rfl rfl fun s S => ?_)
  obtain ⟨ns, hns⟩ : ∃ ns : Nat, (1 : Int) + x1 = ns := ⟨(1 + x1).toNat, by omega⟩
  obtain ⟨ms, hms⟩ : ∃ ms : Nat, (1 : Int) + x2 = ms := ⟨(1 + x2).toNat, by omega⟩
  refine h ns ms t1 t2 g' s (by omega) (by omega) (by omega) (by omega) hl ?_
  rw [← hns, ← hms]; exact S
end
end Mine
end

section
open PySem PySem.W PyProof.Rows PySem.Calls
set_option Elab.async false
set_option autoImplicit false
set_option maxRecDepth 100000
set_option linter.unusedVariables false
namespace Mine

inductive JLaw2 (prog : Program) (w : World) (m : Str → Option Value) (L tp : Addr) (cl : Value) (k ns ms : Nat) (own : List Res) (i : Nat) (g' : PMap) (own' : List Res) (out : List Value) : Prop
  | mk (rows : List (List Int)) (k' : Nat) (f1 : own' = rVars L (lawCs (L + 1)) m :: rTape prog w tp cl k' :: own) (f2 : rows.length = i) (f3 : k' ≤ k + 3 * i) (f4 : All2 ((rTup rInt).at' g') out rows) (f5 : ∀ r ∈ rows, r.length = ms ∧ ∀ e ∈ r, 0 ≤ e ∧ e ≤ (ns : Int))
inductive JLaw2i (prog : Program) (w : World) (m md : Str → Option Value) (D L tp : Addr) (cl : Value) (X Y : Res) (k' ns : Nat) (own : List Res) (j : Nat) (g' : PMap) (own' : List Res) (out : List Value) : Prop
  | mk (row : List Int) (k'' : Nat) (f1 : own' = rVars D [] md :: X :: Y :: rVars L (lawCs (L + 1)) m :: rTape prog w tp cl k'' :: own) (f2 : row.length = j) (f3 : k'' ≤ k' + j) (f4 : All2 (rInt.at' g') out row) (f5 : ∀ e ∈ row, 0 ≤ e ∧ e ≤ (ns : Int))

section
variable {prog : Program} {Γ : Pm} {g : PMap} {own : List Res} {s : Shared} {A : Around} {E : Value → Shared → Prop} {env : Env}

set_option maxHeartbeats 4000000 in
theorem law_s2 {n k ns ms : Nat} {L tp : Addr} {cl : Value} {cells : List Int} {m : Str → Option Value} {t1 t2 : Tok} {Q : Flow → Shared → Prop} (S : St Γ g (rVars L (lawCs (L + 1)) m :: rTape prog Γ.w tp cl k :: own) s) (hA : Room A (n + 10)) (T : Tape g cl cells) (hk : k ≤ 1000)
    (hn1 : 1 ≤ ns) (hn3 : ns ≤ 3) (hm1 : 1 ≤ ms) (hm3 : ms ≤ 3) (e1 : m "tape" = some (.ref tp)) (e2 : m "states" = some (.int ns t1)) (e3 : m "letters" = some (.int ms t2))
    (h : ∀ moves vm k' g' s', WF moves ns ms → k' ≤ k + 9 → Le g g' → (rTup (rTup rInt)).at' g' vm moves → St Γ g' (rVars L (lawCs (L + 1)) (upd m "moves" vm) :: rTape prog Γ.w tp cl k' :: own) s' →
      wpAny (model prog Γ.w) A (execs (lawTail Γ.w.params 3) (lawEnv Γ.w.params L)) Q E s') :
    wpAny (model prog Γ.w) A (execs (lawTail Γ.w.params 2) (lawEnv Γ.w.params L)) Q E s := by
  show wpAny _ _ (execs (_ :: lawTail Γ.w.params 3) _) _ _ _
  refine wpAny_execs_cons (wpAny_Assign_Name ?_)
  refine Call_ ?_
  refine ev_builtin S (by rfl) (by boot_fast) (by decide) ?_
  refine PyProof.Rows.callWith_type1 ?_
  refine args_cons ?_
  refine comp_rule (T := rInt) (l := rangeL 0 ns) (cl := [("tape", L + 1), ("states", L + 1 + 1), ("letters", L + 1 + 2)]) (by rfl) (by decide) (by decide) fun Kh hKh => ?_
  refine Call_ ?_
  refine ev_builtin S (by rfl) (by boot_fast) (by decide) ?_
  refine PyProof.Rows.callWith_type1 ?_
  refine args_cons ?_
  refine ev_cell (i := 0) S rfl e2 rfl ?_
  refine args_nil ?_
  refine q_rng1 S (by omega) fun I s S => ?_
  refine hKh _ _ _ _ _ (Iter.range hA.1) (by rw [rangeL_length]; omega) S (fun i g' own' out => JLaw2 prog Γ.w m L tp cl k ns ms own i g' own' out) ⟨[], k, rfl, rfl, by omega, .nil, by simp⟩ ?_ ?_
  · rintro i x v out D m' g₀ g₁ _ s hx hl ⟨rows, k', rfl, hlen, hk', hout, hrows⟩ hl' ⟨tx, rfl⟩ X Y S K K0 E' hK hK0
    have hi : i < 3 := by have := (rangeL_get hx).2; omega
    refine wpAny_assign_Name (st_local (i := 0) S rfl fun s S => ?_)
    refine tests_nil ?_
    rw [if_pos rfl]
    refine Call_ ?_
    refine ev_builtin S (by rfl) (by boot_fast) (by decide) ?_
    refine PyProof.Rows.callWith_type1 ?_
    refine args_cons ?_
    refine comp_rule (T := rInt) (l := rangeL 0 ms) (cl := [("tape", L + 1), ("states", L + 1 + 1)]) (by rfl) (by decide) (by decide) fun Kh hKh => ?_
    refine Call_ ?_
    refine ev_builtin S (by rfl) (by boot_fast) (by decide) ?_
    refine PyProof.Rows.callWith_type1 ?_
    refine args_cons ?_
    refine ev_cell (i := 3) S rfl e3 rfl ?_
    refine args_nil ?_
    refine q_rng1 S (by omega) fun I s S => ?_
    have hl0 := hl.trans hl'
    refine hKh _ _ _ _ _ (Iter.range hA.1) (by rw [rangeL_length]; omega) S (fun j g' own' out => JLaw2i prog Γ.w m (upd m' "q" (.int x tx)) D L tp cl X Y k' ns own j g' own' out) ⟨[], k', rfl, rfl, by omega, .nil, by simp⟩ ?_ ?_
    · rintro j y v out2 D2 m2 g₂ g₃ _ s hy hl2 ⟨row, k'', rfl, hlen2, hk2, hout2, hrow⟩ hl3 ⟨ty, rfl⟩ X2 Y2 S K K0 E' hK hK0
      have hj : j < 3 := by have := (rangeL_get hy).2; omega
      refine wpAny_assign_Name (st_local (i := 0) S rfl fun s S => ?_)
      refine tests_nil ?_
      rw [if_pos rfl]
      refine Call_ ?_
      refine ev_global S (by rfl) ?_
      refine cw_fn S (by rfl) rfl ?_
      refine args_cons ?_
      refine ev_cell (i := 6) S rfl e1 rfl ?_
      refine args_cons ?_
      refine wpAny_BinOp ?_
      refine ev_cell (i := 6) S rfl e2 rfl ?_
      refine ev_int S fun t s S => ?_
      refine q_add S fun t s S => ?_
      refine args_nil ⟨S.ge, ?_⟩
      refine q_take (i := 7) S hA.le rfl ((T.mono hl0).mono (hl2.trans hl3)) (by omega) (by omega) fun z t s hz hz' S => ?_
      refine hK _ _ g₃ _ _ (Le.refl _) ⟨row ++ [z], k'' + 1, rfl, by simp [hlen2], by omega, (hout2.imp fun _ _ q => rInt.mono hl3 q).snoc ⟨t, rfl⟩, ?_⟩ S
      intro e he
      rcases List.mem_append.mp he with he | he
      · exact hrow e he
      · rw [List.mem_singleton.mp he]; omega
    · rintro g₂ g₃ _ out2 a nn s hl2 ⟨row, k'', rfl, hlen2, hk2, hout2, hrow⟩ hl3 hg S
      rw [rangeL_length] at hlen2 hk2
      refine args_nil ?_
      refine q_tupleOf (T := rInt) (l := row) S ⟨a, out2, nn, rfl, hg, hout2.imp fun _ _ q => rInt.mono hl3 q⟩ (by omega) fun r g₄ s hl4 hr S => ?_
      have hlf := (hl2.trans hl3).trans hl4
      refine hK _ _ g₄ _ _ hlf ⟨rows ++ [row], k'', rfl, by simp [hlen], by omega, (hout.imp fun _ _ q => (rTup rInt).mono (hl'.trans hlf) q).snoc hr, ?_⟩ S
      intro r' hr'
      rcases List.mem_append.mp hr' with he | he
      · exact hrows r' he
      · rw [List.mem_singleton.mp he]; exact ⟨by omega, hrow⟩
  · rintro g₂ g₃ _ out a nn s hl2 ⟨rows, k', rfl, hlen, hk', hout, hrows⟩ hl3 hg S
    rw [rangeL_length] at hlen hk'
    refine args_nil ?_
    refine q_tupleOf (T := rTup rInt) (l := rows) S ⟨a, out, nn, rfl, hg, hout.imp fun _ _ q => (rTup rInt).mono hl3 q⟩ (by omega) fun r g₄ s hl4 hr S => ?_
    refine st_cell (i := 0) S rfl rfl fun s S => ?_
    exact h rows r k' g₄ s ⟨hn1, hn3, hm1, hm3, by omega, hrows⟩ (by omega) ((hl2.trans hl3).trans hl4) hr S
end
end Mine
end

section
open PySem PySem.W PyProof.Rows PySem.Calls
set_option Elab.async false
set_option autoImplicit false
set_option maxRecDepth 100000
set_option linter.unusedVariables false
namespace Mine

theorem pow2_small {x : Int} (h0 : 0 ≤ x) (h3 : x ≤ 3) : (2 : Int) ^ x.toNat ≠ 0 ∧ ((2 : Int) ^ x.toNat).natAbs < 2 ^ 30 ∧ 0 < (2 : Int) ^ x.toNat := by
  have : x = 0 ∨ x = 1 ∨ x = 2 ∨ x = 3 := by omega
  rcases this with rfl | rfl | rfl | rfl <;> decide

section
variable {prog : Program} {Γ : Pm} {g : PMap} {own : List Res} {s : Shared} {A : Around} {E : Value → Shared → Prop} {env : Env}

set_option maxHeartbeats 4000000 in
theorem law_s3 {n k ns : Nat} {L tp : Addr} {cl : Value} {cells : List Int} {m : Str → Option Value} {t1 : Tok} {Q : Flow → Shared → Prop} (S : St Γ g (rVars L (lawCs (L + 1)) m :: rTape prog Γ.w tp cl k :: own) s) (hA : Room A (n + 10)) (T : Tape g cl cells) (hk : k ≤ 5000)
    (hn1 : 1 ≤ ns) (hn3 : ns ≤ 3) (e1 : m "tape" = some (.ref tp)) (e2 : m "states" = some (.int ns t1))
    (h : ∀ mk st t1 t2 g' s', Le g g' → St Γ g' (rVars L (lawCs (L + 1)) (upd (upd m "mask" (.int mk t1)) "start" (.int st t2)) :: rTape prog Γ.w tp cl (k + 2) :: own) s' →
      wpAny (model prog Γ.w) A (execs (lawTail Γ.w.params 4) (lawEnv Γ.w.params L)) Q E s') :
    wpAny (model prog Γ.w) A (execs (lawTail Γ.w.params 3) (lawEnv Γ.w.params L)) Q E s := by
  show wpAny _ _ (execs (_ :: lawTail Γ.w.params 4) _) _ _ _
  refine wpAny_execs_cons (Assign_Tuple ?_)
  refine Tuple_ ?_
  refine args_cons ?_
  refine Call_ ?_
  refine ev_global S (by rfl) ?_
  refine cw_fn S (by rfl) rfl ?_
  refine args_cons ?_
  refine ev_cell (i := 0) S rfl e1 rfl ?_
  refine args_cons ?_
  refine wpAny_BinOp ?_
  refine ev_int S fun t s S => ?_
  refine ev_cell (i := 0) S rfl e2 rfl ?_
  refine q_pow S (by omega) (by omega) (by decide) fun t s S => ?_
  refine args_nil ⟨S.ge, ?_⟩
  refine q_take (i := 1) S hA.le rfl T (by omega) (pow2_small (by omega) (by omega)).2.2 fun x1 t1 s hx1 hx1' S => ?_
  refine args_cons ?_
  refine wpAny_BinOp ?_
  refine ev_int S fun t0 s S => ?_
  refine Call_ ?_
  refine ev_global S (by rfl) ?_
  refine cw_fn S (by rfl) rfl ?_
  refine args_cons ?_
  refine ev_cell (i := 0) S rfl e1 rfl ?_
  refine args_cons ?_
  refine ev_cell (i := 0) S rfl e2 rfl ?_
  refine args_nil ⟨S.ge, ?_⟩
  refine q_take (i := 1) S hA.le rfl T (by omega) (by omega) fun x2 t s hx2 hx2' S => ?_
  refine q_add S fun t2 s S => ?_
  refine args_nil ?_
  refine q_newTuple S (by simp) fun a g' s hl hg S => ?_
  refine q_unpack2 S hA.1 hg (by rfl) fun s S => ?_
  refine wpAny_assign_Name (st_cell (i := 0) S rfl rfl fun s S => ?_)
  refine wpAny_assign_Name (st_local (i := 0) S rfl fun s S => ?_)
  exact h _ _ t1 t2 g' s hl S

/-- [e + 1 for e in range(top) if mask // 2 ** e % 2 == 1] -/
def bitsOf (mk : Int) (top : Nat) : List Int := (rangeL 0 top).filterMap fun q => if (mk.fdiv ((2 : Int) ^ q.toNat)).fmod 2 == 1 then some (q + 1) else none

set_option maxHeartbeats 4000000 in
theorem law_s4 {n k ns : Nat} {L tp : Addr} {cl : Value} {m : Str → Option Value} {mk : Int} {t1 t2 : Tok} {Q : Flow → Shared → Prop} (S : St Γ g (rVars L (lawCs (L + 1)) m :: own) s) (hA : Room A (n + 10))
    (hn1 : 1 ≤ ns) (hn3 : ns ≤ 3) (e1 : m "mask" = some (.int mk t2)) (e2 : m "states" = some (.int ns t1))
    (h : ∀ vf g' s', Le g g' → (rTup rInt).at' g' vf (bitsOf mk ns) → St Γ g' (rVars L (lawCs (L + 1)) (upd m "finals" vf) :: own) s' →
      wpAny (model prog Γ.w) A (execs (lawTail Γ.w.params 5) (lawEnv Γ.w.params L)) Q E s') :
    wpAny (model prog Γ.w) A (execs (lawTail Γ.w.params 4) (lawEnv Γ.w.params L)) Q E s := by
  show wpAny _ _ (execs (_ :: lawTail Γ.w.params 5) _) _ _ _
  refine wpAny_execs_cons (wpAny_Assign_Name ?_)
  refine Call_ ?_
  refine ev_builtin S (by rfl) (by boot_fast) (by decide) ?_
  refine PyProof.Rows.callWith_type1 ?_
  refine args_cons ?_
  refine comp_map (T := rInt) (U := rInt) (l := rangeL 0 ns) (fun q => if (mk.fdiv ((2 : Int) ^ q.toNat)).fmod 2 == 1 then some (q + 1) else none) (cl := [("mask", L + 1 + 4)]) (by rfl) (by decide) (by decide) fun Kh hKh => ?_
  refine Call_ ?_
  refine ev_builtin S (by rfl) (by boot_fast) (by decide) ?_
  refine PyProof.Rows.callWith_type1 ?_
  refine args_cons ?_
  refine ev_cell (i := 0) S rfl e2 rfl ?_
  refine args_nil ?_
  refine q_rng1 S (by omega) fun I s S => ?_
  refine hKh _ _ _ _ _ (Iter.range hA.1) (by rw [rangeL_length]; omega) S ?_ ?_
  · rintro x v D m' g₂ s hmem hl2 ⟨tx, rfl⟩ X Y S K K0 E' hK hK0
    have hx := mem_rangeL.mp hmem
    have hp := pow2_small (x := x) (by omega) (by omega)
    refine wpAny_assign_Name (st_local (i := 0) S rfl fun s S => ?_)
    refine tests_one ?_
    refine wpAny_isTrue_Compare1 ?_
    refine wpAny_BinOp ?_
    refine wpAny_BinOp ?_
    refine ev_cell (i := 3) S rfl e1 rfl ?_
    refine wpAny_BinOp ?_
    refine ev_int S fun t s S => ?_
    refine ev_local (i := 0) S rfl upd_self ?_
    refine q_pow S (by omega) (by omega) (by decide) fun t s S => ?_
    refine q_fdiv S hp.1 hp.2.1 fun t s S => ?_
    refine ev_int S fun t s S => ?_
    refine q_mod S (by decide) fun t s S => ?_
    refine ev_int S fun t s S => ?_
    refine PyProof.Rows.eq_int ?_
    refine wpAny_truthy_bool ?_
    cases hb : (mk.fdiv ((2 : Int) ^ x.toNat)).fmod 2 == 1
    · rw [if_neg (by decide)]
      exact hK0 _ _ _ (Le.refl _) (by rw [hb]; rfl) S
    · rw [if_pos rfl]
      refine wpAny_BinOp ?_
      refine ev_local (i := 0) S rfl upd_self ?_
      refine ev_int S fun t s S => ?_
      refine q_add S fun t s S => ?_
      exact hK _ _ _ _ _ (Le.refl _) (by rw [hb]; rfl) ⟨_, rfl⟩ S
  · rintro g₂ v s hl2 hv S
    refine args_nil ?_
    refine q_tupleOf S hv ?_ fun r g₃ s hl3 hr S => ?_
    · exact Nat.le_trans (List.length_filterMap_le _ _) (by rw [rangeL_length]; omega)
    refine st_cell (i := 0) S rfl rfl fun s S => ?_
    exact h r g₃ s (hl2.trans hl3) hr S
end
end Mine
end

section
open PySem PySem.W PyProof.Rows PySem.Calls
set_option Elab.async false
set_option autoImplicit false
set_option maxRecDepth 100000
set_option linter.unusedVariables false
namespace Mine

section
variable {prog : Program} {Γ : Pm} {g : PMap} {own : List Res} {s : Shared} {A : Around} {E : Value → Shared → Prop} {env : Env}

theorem perm_two {a b c d : Res} {own : List Res} : (c :: d :: b :: a :: own).Perm (a :: b :: c :: d :: own) := by
  refine (List.Perm.trans (List.perm_append_comm (l₁ := [c, d]) (l₂ := b :: a :: own)) ?_)
  refine (List.Perm.swap a b (own ++ [c, d])).trans ?_
  exact .cons a (.cons b List.perm_append_comm)

set_option maxHeartbeats 4000000 in
theorem law_s5 {n k : Nat} {L tp : Addr} {cl : Value} {cells : List Int} {m : Str → Option Value} {Q : Flow → Shared → Prop} (S : St Γ g (rVars L (lawCs (L + 1)) m :: rTape prog Γ.w tp cl k :: own) s) (hA : Room A (n + 10)) (T : Tape g cl cells) (hk : k ≤ 5000)
    (e1 : m "tape" = some (.ref tp))
    (h : ∀ (many : Nat) sc kp t1 g' s', many ≤ 3 → Le g g' → St Γ g' (rVars L (lawCs (L + 1)) (upd (upd (upd m "scope" (.ref sc)) "kept" (.ref kp)) "many" (.int many t1)) :: rTape prog Γ.w tp cl (k + 1) :: rAcc sc [] :: rAcc kp [] :: own) s' →
      wpAny (model prog Γ.w) A (execs (lawTail Γ.w.params 6) (lawEnv Γ.w.params L)) Q E s') :
    wpAny (model prog Γ.w) A (execs (lawTail Γ.w.params 5) (lawEnv Γ.w.params L)) Q E s := by
  show wpAny _ _ (execs (_ :: lawTail Γ.w.params 6) _) _ _ _
  refine wpAny_execs_cons (Assign_Tuple ?_)
  refine Tuple_ ?_
  refine args_cons ?_
  refine List_ ?_
  refine args_nil ?_
  refine q_newList S (by decide) fun sc s S => ?_
  refine args_cons ?_
  refine List_ ?_
  refine args_nil ?_
  refine q_newList S (by decide) fun kp s S => ?_
  refine args_cons ?_
  refine wpAny_BinOp ?_
  refine ev_int S fun t0 s S => ?_
  refine Call_ ?_
  refine ev_global S (by rfl) ?_
  refine cw_fn S (by rfl) rfl ?_
  refine args_cons ?_
  refine ev_cell (i := 2) S rfl e1 rfl ?_
  refine args_cons ?_
  refine ev_int S fun t s S => ?_
  refine args_nil ⟨S.ge, ?_⟩
  refine q_take (i := 3) S hA.le rfl T (by omega) (by omega) fun x2 t s hx2 hx2' S => ?_
  refine q_sub S fun t2 s S => ?_
  refine args_nil ?_
  refine q_newTuple S (by simp) fun a g' s hl hg S => ?_
  refine q_unpack3 S hA.1 hg (by rfl) fun s S => ?_
  refine wpAny_assign_Name (st_local (i := 2) S rfl fun s S => ?_)
  refine wpAny_assign_Name (st_cell (i := 2) S rfl rfl fun s S => ?_)
  refine wpAny_assign_Name (st_local (i := 2) S rfl fun s S => ?_)
  obtain ⟨many, hmany⟩ : ∃ ns : Nat, (3 : Int) - x2 = ns := ⟨(3 - x2).toNat, by omega⟩
  refine h many sc kp t2 g' s (by omega) hl ?_
  rw [← hmany]
  exact S.perm perm_two
end
end Mine
end

section
open PySem PySem.W PyProof.Rows PySem.Calls
set_option Elab.async false
set_option autoImplicit false
set_option maxRecDepth 100000
set_option linter.unusedVariables false
namespace Mine

/-- what the names of the law stand for -/
structure N1 (m : Str → Option Value) (tp : Addr) (ns ms many : Nat) (st : Int) (t1 t2 t3 t4 : Tok) (vm vf sc kp : Value) : Prop where
  tape : m "tape" = some (.ref tp)
  states : m "states" = some (.int ns t1)
  letters : m "letters" = some (.int ms t2)
  many : m "many" = some (.int many t3)
  start : m "start" = some (.int st t4)
  moves : m "moves" = some vm
  finals : m "finals" = some vf
  scope : m "scope" = some sc
  kept : m "kept" = some kp
theorem N1.up {m : Str → Option Value} {tp : Addr} {ns ms many : Nat} {st : Int} {t1 t2 t3 t4 : Tok} {vm vf sc kp v : Value} (h : N1 m tp ns ms many st t1 t2 t3 t4 vm vf sc kp) {x : Str}
    (hx : (["tape", "states", "letters", "many", "start", "moves", "finals", "scope", "kept"] : List Str).all (fun y => decide (y ≠ x)) = true := by decide) : N1 (upd m x v) tp ns ms many st t1 t2 t3 t4 vm vf sc kp := by
  simp only [List.all_cons, List.all_nil, Bool.and_true, Bool.and_eq_true, decide_eq_true_eq] at hx
  obtain ⟨h1, h2, h3, h4, h5, h6, h7, h8, h9⟩ := hx
  exact ⟨upd_ne h1 h.tape, upd_ne h2 h.states, upd_ne h3 h.letters, upd_ne h4 h.many, upd_ne h5 h.start, upd_ne h6 h.moves, upd_ne h7 h.finals, upd_ne h8 h.scope, upd_ne h9 h.kept⟩

section
variable {prog : Program} {Γ : Pm} {g : PMap} {own : List Res} {s : Shared} {A : Around} {E : Value → Shared → Prop} {env : Env}

theorem q_itemAcc {i : Nat} {a : Addr} {vs : List Value} {k : Int} {u : Tok} {r : Value} {value slice : Expr} {Q : Value → Shared → Prop} (S : St Γ g own s) (hi : own[i]? = some (rAcc a vs)) (h0 : 0 ≤ k) (hk : k < 2 ^ 62) (hx : vs[k.toNat]? = some r)
    (h : Q r s) (hs : subscripted slice false (.ref a) (.int k u) = operate [.ref a, .int k u] (getItem (.ref a) (.int k u)) := by with_unfolding_all rfl) :
    wpAny (model prog Γ.w) A (subscriptTail value slice (.ref a) (.int k u)) Q E s := by
  obtain ⟨n, ho⟩ := S.holds i _ hi
  have hL : s.heap.IsList a vs.toArray := ⟨_, ho, rfl, _, rfl⟩
  exact tail_any hL.typeIs PySem.slot_list_getitem.lookup (wpAny_getItem_list hL h0 (by omega) (by simpa using hx) h) hs

/-- the body of the first loop -/
noncomputable def loopBody (p : Params) (n : Nat) : List Stmt := match lawTail p n with | .For _ _ b _ _ :: _ => b | _ => []

set_option maxHeartbeats 4000000 in
theorem law_b6 {n k ns ms many i : Nat} {L tp : Addr} {cl : Value} {cells : List Int} {m : Str → Option Value} {st : Int} {t1 t2 t3 t4 tk : Tok} {vm vf : Value} {sc kp : Addr} {vsc vkp : List Value} {scope : List Int} {kept : List (List Int)} {Z : Res} {Q : Flow → Shared → Prop}
    (S : St Γ g (rVars L (lawCs (L + 1)) m :: Z :: rTape prog Γ.w tp cl k :: rAcc sc vsc :: rAcc kp vkp :: own) s) (hA : Room A (n + 10)) (T : Tape g cl cells) (hk : k ≤ 5000)
    (N : N1 m tp ns ms many st t1 t2 t3 t4 vm vf (.ref sc) (.ref kp)) (hm1 : 1 ≤ ms) (hm3 : ms ≤ 3) (hik : m "k" = some (.int i tk)) (hi : i < 3)
    (hsc : All2 (rInt.at' g) vsc scope) (hkp : All2 ((rLst rInt).at' g) vkp kept) (hl1 : scope.length = i) (hl2 : kept.length = i) (hs7 : ∀ q ∈ scope, q ∈ ([7, 2, 5] : List Int))
    (h : ∀ m' v1 v2 x lot k' g' s', N1 m' tp ns ms many st t1 t2 t3 t4 vm vf (.ref sc) (.ref kp) → Le g g' → k' ≤ k + 2 → rInt.at' g' v1 x → (rLst rInt).at' g' v2 lot → x ∈ ([7, 2, 5] : List Int) → (∃ mk, lot = bitsOf mk ms) →
      St Γ g' (rVars L (lawCs (L + 1)) m' :: Z :: rTape prog Γ.w tp cl k' :: rAcc sc (vsc ++ [v1]) :: rAcc kp (vkp ++ [v2]) :: own) s' → Q .next s') :
    wpAny (model prog Γ.w) A (execs (loopBody Γ.w.params 6) (lawEnv Γ.w.params L)) Q E s := by
  refine wpAny_execs_cons (wpAny_Assign_Name ?_)
  refine wpAny_mono (show wpAny (model prog Γ.w) A _ (fun v s => ∃ b, v = .bool b ∧ (b = true → 0 < i) ∧ St Γ g (rVars L (lawCs (L + 1)) m :: Z :: rTape prog Γ.w tp cl (k + 1) :: rAcc sc vsc :: rAcc kp vkp :: own) s) E s from ?_) (fun v s hq => ?_) fun _ _ e => e
  · refine BoolOp_and ?_
    refine wpAny_Compare1 ?_
    refine Call_ ?_
    refine ev_global S (by rfl) ?_
    refine cw_fn S (by rfl) rfl ?_
    refine args_cons ?_
    refine ev_cell (i := 0) S rfl N.tape rfl ?_
    refine args_cons ?_
    refine ev_int S fun t s S => ?_
    refine args_nil ⟨S.ge, ?_⟩
    refine q_take (i := 2) S hA.le rfl T (by omega) (by omega) fun x1 t s hx1 hx1' S => ?_
    refine ev_int S fun t s S => ?_
    refine PyProof.Rows.eq_int ?_
    refine wpAny_truthy_bool ?_
    cases hb : x1 == 0
    · rw [if_neg (by simp)]
      exact ⟨false, rfl, (by simp), S⟩
    · rw [if_pos rfl]
      refine BoolOp_one ?_
      refine wpAny_Compare1 ?_
      refine ev_local (i := 0) S rfl hik ?_
      refine ev_int S fun t s S => ?_
      refine PyProof.Rows.gt_int ?_
      exact ⟨_, rfl, (by simp), S⟩
  obtain ⟨b, rfl, hb, S⟩ := hq
  refine st_local (i := 0) S rfl fun s S => ?_
  refine wpAny_execs_cons (q_appendStmt ?_)
  refine ev_local (i := 0) S rfl N.up.scope ?_
  refine ⟨sc, rfl, ⟨_, S.holds 3 _ rfl⟩, ?_⟩
  refine wpAny_mono (show wpAny (model prog Γ.w) A _ (fun v s => ∃ g' x, Le g g' ∧ rInt.at' g' v x ∧ x ∈ ([7, 2, 5] : List Int) ∧ St Γ g' (rVars L (lawCs (L + 1)) (upd m "is_twin" (.bool b)) :: Z :: rTape prog Γ.w tp cl (k + 1) :: rAcc sc vsc :: rAcc kp vkp :: own) s) E s from ?_) (fun v s hq => ?_) fun _ _ e => e
  · refine IfExp_ ?_
    refine isTrue_plain ?_
    refine ev_local (i := 0) S rfl upd_self ?_
    refine wpAny_truthy_bool ?_
    cases b
    · rw [if_neg (by simp)]
      refine Subscript_ ?_
      refine Tuple_ ?_
      refine args_cons ?_
      refine ev_int S fun u1 s S => ?_
      refine args_cons ?_
      refine ev_int S fun u2 s S => ?_
      refine args_cons ?_
      refine ev_int S fun u3 s S => ?_
      refine args_nil ?_
      refine q_tupDisp (T := rInt) (l := [7, 2, 5]) S (.cons ⟨_, rfl⟩ (.cons ⟨_, rfl⟩ (.cons ⟨_, rfl⟩ .nil))) (by simp) fun v g' s hl hv S => ?_
      refine ev_local (i := 0) S rfl (upd_ne (by decide) hik) ?_
      obtain ⟨x, hx⟩ : ∃ x, ([7, 2, 5] : List Int)[(i : Int).toNat]? = some x := ⟨_, List.getElem?_eq_getElem (by simp; omega)⟩
      refine q_itemT S hv (by omega) (by omega) hx fun r hr => ?_
      exact ⟨g', x, hl, hr, List.mem_of_getElem? hx, S⟩
    · rw [if_pos rfl]
      have hb := hb rfl
      refine Subscript_ ?_
      refine ev_local (i := 0) S rfl N.up.scope ?_
      refine wpAny_BinOp ?_
      refine ev_local (i := 0) S rfl (upd_ne (by decide) hik) ?_
      refine ev_int S fun t s S => ?_
      refine q_sub S fun t s S => ?_
      obtain ⟨x, hx⟩ : ∃ x, scope[((i : Int) - 1).toNat]? = some x := ⟨_, List.getElem?_eq_getElem (by omega)⟩
      obtain ⟨r, hr1, hr2⟩ := hsc.get hx
      refine q_itemAcc (i := 3) S rfl (by omega) (by omega) hr1 ?_
      exact ⟨g, x, Le.refl _, hr2, hs7 x (List.mem_of_getElem? hx), S⟩
  obtain ⟨g1, x, hg1, hx, hx7, S⟩ := hq
  have hvl := hsc.length
  have hkl := hkp.length
  refine q_append (i := 3) S rfl (by omega) fun s S => ⟨rfl, ?_⟩
  refine wpAny_execs_cons (wpAny_Assign_Name ?_)
  refine Call_ ?_
  refine ev_global S (by rfl) ?_
  refine cw_fn S (by rfl) rfl ?_
  refine args_cons ?_
  refine ev_cell (i := 0) S rfl N.up.tape rfl ?_
  refine args_cons ?_
  refine wpAny_BinOp ?_
  refine ev_int S fun t s S => ?_
  refine ev_cell (i := 0) S rfl N.up.letters rfl ?_
  refine q_pow S (by omega) (by omega) (by decide) fun t s S => ?_
  refine args_nil ⟨S.ge, ?_⟩
  refine q_take (i := 2) S hA.le rfl (T.mono hg1) (by omega) (pow2_small (by omega) (by omega)).2.2 fun mk tmk s hmk hmk' S => ?_
  refine st_cell (i := 0) S rfl rfl fun s S => ?_
  refine wpAny_execs_cons (q_appendStmt ?_)
  refine ev_cell (i := 0) S rfl N.up.up.kept rfl ?_
  refine ⟨kp, rfl, ⟨_, S.holds 4 _ rfl⟩, ?_⟩
  refine comp_map (T := rInt) (U := rInt) (l := rangeL 0 ms) (fun q => if (mk.fdiv ((2 : Int) ^ q.toNat)).fmod 2 == 1 then some (q + 1) else none) (cl := [("mask", L + 1 + 4)]) (by rfl) (by decide) (by decide) fun Kh hKh => ?_
  refine Call_ ?_
  refine ev_builtin S (by rfl) (by boot_fast) (by decide) ?_
  refine PyProof.Rows.callWith_type1 ?_
  refine args_cons ?_
  refine ev_cell (i := 0) S rfl N.up.up.letters rfl ?_
  refine args_nil ?_
  refine q_rng1 S (by omega) fun I s S => ?_
  refine hKh _ _ _ _ _ (Iter.range hA.1) (by rw [rangeL_length]; omega) S ?_ ?_
  · rintro x v D m' g₂ s hmem hl2 ⟨tx, rfl⟩ X Y S K K0 E' hK hK0
    have hx := mem_rangeL.mp hmem
    have hp := pow2_small (x := x) (by omega) (by omega)
    refine wpAny_assign_Name (st_local (i := 0) S rfl fun s S => ?_)
    refine tests_one ?_
    refine wpAny_isTrue_Compare1 ?_
    refine wpAny_BinOp ?_
    refine wpAny_BinOp ?_
    refine ev_cell (i := 3) S rfl upd_self rfl ?_
    refine wpAny_BinOp ?_
    refine ev_int S fun t s S => ?_
    refine ev_local (i := 0) S rfl upd_self ?_
    refine q_pow S (by omega) (by omega) (by decide) fun t s S => ?_
    refine q_fdiv S hp.1 hp.2.1 fun t s S => ?_
    refine ev_int S fun t s S => ?_
    refine q_mod S (by decide) fun t s S => ?_
    refine ev_int S fun t s S => ?_
    refine PyProof.Rows.eq_int ?_
    refine wpAny_truthy_bool ?_
    cases hb : (mk.fdiv ((2 : Int) ^ x.toNat)).fmod 2 == 1
    · rw [if_neg (by decide)]
      exact hK0 _ _ _ (Le.refl _) (by rw [hb]; rfl) S
    · rw [if_pos rfl]
      refine wpAny_BinOp ?_
      refine ev_local (i := 0) S rfl upd_self ?_
      refine ev_int S fun t s S => ?_
      refine q_add S fun t s S => ?_
      exact hK _ _ _ _ _ (Le.refl _) (by rw [hb]; rfl) ⟨_, rfl⟩ S
  · rintro g₂ v2 s hl2 hv S
    refine q_append (i := 4) S rfl (by omega) fun s S => ⟨rfl, ?_⟩
    refine wpAny_execs_nil ?_
    exact h _ v v2 x _ _ g₂ s N.up.up (hg1.trans hl2) (by omega) (rInt.mono hl2 hx) hv hx7 ⟨mk, rfl⟩ S
end
end Mine
end

section
open PySem PySem.W PyProof.Rows PySem.Calls
set_option Elab.async false
set_option autoImplicit false
set_option maxRecDepth 100000
set_option linter.unusedVariables false
namespace Mine

inductive JLaw6 (prog : Program) (w : World) (L tp sc kp : Addr) (cl : Value) (k ns ms many : Nat) (st : Int) (t1 t2 t3 t4 : Tok) (vm vf : Value) (own : List Res) (i : Nat) (g' : PMap) (own' : List Res) : Prop
  | mk (m' : Str → Option Value) (vsc : List Value) (vkp : List Value) (scope : List Int) (kept : List (List Int)) (k' : Nat) (f1 : own' = rVars L (lawCs (L + 1)) m' :: rTape prog w tp cl k' :: rAcc sc vsc :: rAcc kp vkp :: own) (f2 : N1 m' tp ns ms many st t1 t2 t3 t4 vm vf (.ref sc) (.ref kp)) (f3 : k' ≤ k + 2 * i) (f4 : All2 (rInt.at' g') vsc scope) (f5 : All2 ((rLst rInt).at' g') vkp kept) (f6 : scope.length = i) (f7 : kept.length = i) (f8 : (∀ q ∈ scope, q ∈ ([7, 2, 5] : List Int))) (f9 : (∀ r ∈ kept, r.length ≤ 3 ∧ ∀ a ∈ r, 1 ≤ a ∧ a ≤ (ms : Int)))

section
variable {prog : Program} {Γ : Pm} {g : PMap} {own : List Res} {s : Shared} {A : Around} {E : Value → Shared → Prop} {env : Env}

theorem bitsOf_mem {mk : Int} {top : Nat} {x : Int} (h : x ∈ bitsOf mk top) : 1 ≤ x ∧ x ≤ (top : Int) := by
  unfold bitsOf at h
  obtain ⟨q, hq, e⟩ := List.mem_filterMap.mp h
  have := mem_rangeL.mp hq
  split at e
  · cases e; omega
  · cases e

set_option maxHeartbeats 4000000 in
theorem law_s6 {n k ns ms many : Nat} {L tp : Addr} {cl : Value} {cells : List Int} {m : Str → Option Value} {st : Int} {t1 t2 t3 t4 : Tok} {vm vf : Value} {sc kp : Addr} {Q : Flow → Shared → Prop}
    (S : St Γ g (rVars L (lawCs (L + 1)) m :: rTape prog Γ.w tp cl k :: rAcc sc [] :: rAcc kp [] :: own) s) (hA : Room A (n + 10)) (T : Tape g cl cells) (hk : k ≤ 1000)
    (N : N1 m tp ns ms many st t1 t2 t3 t4 vm vf (.ref sc) (.ref kp)) (hm1 : 1 ≤ ms) (hm3 : ms ≤ 3) (hmany : many ≤ 3)
    (h : ∀ m' scope kept k' g' s', N1 m' tp ns ms many st t1 t2 t3 t4 vm vf (.ref sc) (.ref kp) → Le g g' → k' ≤ k + 6 → (rLst rInt).at' g' (.ref sc) scope → (rLst (rLst rInt)).at' g' (.ref kp) kept →
      scope.length = many → kept.length = many → (∀ q ∈ scope, q ∈ ([7, 2, 5] : List Int)) → (∀ r ∈ kept, r.length ≤ 3 ∧ ∀ a ∈ r, 1 ≤ a ∧ a ≤ (ms : Int)) →
      St Γ g' (rVars L (lawCs (L + 1)) m' :: rTape prog Γ.w tp cl k' :: own) s' → wpAny (model prog Γ.w) A (execs (lawTail Γ.w.params 7) (lawEnv Γ.w.params L)) Q E s') :
    wpAny (model prog Γ.w) A (execs (lawTail Γ.w.params 6) (lawEnv Γ.w.params L)) Q E s := by
  show wpAny _ _ (execs (.For _ _ (loopBody Γ.w.params 6) [] _ :: lawTail Γ.w.params 7) _) _ _ _
  refine wpAny_execs_cons ?_
  refine for_rule (l := rangeL 0 many) (T := rInt) fun Kh hKh => ?_
  refine Call_ ?_
  refine ev_builtin S (by rfl) (by boot_fast) (by decide) ?_
  refine PyProof.Rows.callWith_type1 ?_
  refine args_cons ?_
  refine ev_local (i := 0) S rfl N.many ?_
  refine args_nil ?_
  refine q_rng1 S (by omega) fun I s S => ?_
  refine hKh _ _ _ _ _ (Iter.range hA.1) S (fun i g' own' => JLaw6 prog Γ.w L tp sc kp cl k ns ms many st t1 t2 t3 t4 vm vf own i g' own') ⟨_, [], [], [], [], k, rfl, N, by omega, .nil, .nil, rfl, rfl, by simp, by simp⟩ ?_ ?_
  · rintro i x v g₀ g₁ _ s hx hl ⟨m', vsc, vkp, scope, kept, k', rfl, N', hk', hsc, hkp, hl1, hl2, h7, hlot⟩ hl' ⟨tx, rfl⟩ S K E' hK hB hR
    obtain ⟨hxe, hi⟩ := rangeL_get hx
    have hxe' : x = (i : Int) := by omega
    subst hxe'
    refine wpAny_assign_Name (st_local (i := 0) S rfl fun s S => ?_)
    refine law_b6 (n := n) S hA (T.mono (hl.trans hl')) (by omega) N'.up hm1 hm3 upd_self (by omega) (hsc.imp fun _ _ q => rInt.mono hl' q) (hkp.imp fun _ _ q => (rLst rInt).mono hl' q) hl1 hl2 h7 fun m2 v1 v2 y lot k2 g2 s N2 hg2 hk2 hv1 hv2 hy hlo S => ?_
    refine (hK g2 _ _ hg2 ⟨m2, vsc ++ [v1], vkp ++ [v2], scope ++ [y], kept ++ [lot], k2, rfl, N2, by omega, (hsc.imp fun _ _ q => rInt.mono (hl'.trans hg2) q).snoc hv1, (hkp.imp fun _ _ q => (rLst rInt).mono (hl'.trans hg2) q).snoc hv2, by simp [hl1], by simp [hl2], ?_, ?_⟩ S).1
    · intro q hq
      rcases List.mem_append.mp hq with hq | hq
      · exact h7 q hq
      · rw [List.mem_singleton.mp hq]; exact hy
    · intro r hr
      rcases List.mem_append.mp hr with hr | hr
      · exact hlot r hr
      · rw [List.mem_singleton.mp hr]
        obtain ⟨mk, rfl⟩ := hlo
        refine ⟨Nat.le_trans (List.length_filterMap_le _ _) (by rw [rangeL_length]; omega), fun a ha => bitsOf_mem ha⟩
  · rintro g₂ _ s hl ⟨m', vsc, vkp, scope, kept, k', rfl, N', hk', hsc, hkp, hl1, hl2, h7, hlot⟩ S
    rw [rangeL_length] at hk' hl1 hl2
    have S1 := S.perm (own' := rAcc sc vsc :: rAcc kp vkp :: rVars L (lawCs (L + 1)) m' :: rTape prog Γ.w tp cl k' :: own) (by
      exact List.perm_append_comm (l₁ := [rAcc sc vsc, rAcc kp vkp]) (l₂ := [rVars L (lawCs (L + 1)) m', rTape prog Γ.w tp cl k']) |>.append_right own)
    obtain ⟨n1, hle1, S2⟩ := S1.accRest
    obtain ⟨n2, hle2, S3⟩ := S2.accRest
    have hle := hle1.trans hle2
    refine h m' scope kept k' _ s N' (hl.trans hle) (by omega) ⟨sc, vsc, n1, rfl, hle2 _ _ ins_self, hsc.imp fun _ _ q => rInt.mono hle q⟩ ⟨kp, vkp, n2, rfl, ins_self, hkp.imp fun _ _ q => (rLst rInt).mono hle q⟩ (by omega) (by omega) h7 hlot S3
end
end Mine
end

section
open PySem PySem.W PyProof.Rows PySem.Calls
set_option Elab.async false
set_option autoImplicit false
set_option maxRecDepth 100000
set_option linter.unusedVariables false
namespace Mine

section
variable {prog : Program} {Γ : Pm} {g : PMap} {own : List Res} {s : Shared} {A : Around} {E : Value → Shared → Prop} {env : Env}

theorem cw_cls {e : Expr} {rest : List Expr} {pos : Pos} {f : Value} {Q : Value → Shared → Prop} (_S : St Γ g own s) (hk : keepIn (heapK Γ.w.params) f = true)
    (h : wpAny (model prog Γ.w) A (spliced (backTo pos (starEach (e :: rest) env))) (fun vs s₁ => GE Γ.w Γ.mg Γ.mb s₁.heap ∧ wpAny (model prog Γ.w) A (call f vs) Q E s₁) E s)
    (he : starEach (e :: rest) env = (false, eval e env) :: starEach rest env := by rfl) (hplain : (backTo pos (starEach rest env)).any (·.1) = false := by rfl) :
    wpAny (model prog Γ.w) A (callWith pos f [] (backTo pos (starEach (e :: rest) env)) []) Q E s :=
  callWith_K _S.ge.X hk (wpAny_mono h (fun _ _ q => ⟨q.1.X, q.2⟩) fun _ _ q => q) he hplain

set_option maxHeartbeats 4000000 in
theorem law_s7 (hprog : fileOk prog) {n k ns ms many : Nat} {L tp : Addr} {m : Str → Option Value} {st : Int} {t1 t2 t3 t4 : Tok} {vm vf sc kp : Value} {moves : List (List Int)} {scope : List Int} {Q : Flow → Shared → Prop}
    (S : St Γ g (rVars L (lawCs (L + 1)) m :: own) s) (hA : Room A (n + 40)) (hmv : (rTup (rTup rInt)).at' g vm moves)
    (N : N1 m tp ns ms many st t1 t2 t3 t4 vm vf sc kp) (hsc : (rLst rInt).at' g sc scope) (hl : scope.length ≤ 3) (h7 : ∀ q ∈ scope, q ∈ ([7, 2, 5] : List Int))
    (h : ∀ m' x g' s', N1 m' tp ns ms many st t1 t2 t3 t4 vm vf sc kp → m' "rule" = some (.ref x) → Le g g' → Reg g' x ms moves scope →
      St Γ g' (rVars L (lawCs (L + 1)) m' :: own) s' → wpAny (model prog Γ.w) A (execs (lawTail Γ.w.params 8) (lawEnv Γ.w.params L)) Q E s') :
    wpAny (model prog Γ.w) A (execs (lawTail Γ.w.params 7) (lawEnv Γ.w.params L)) Q E s := by
  show wpAny _ _ (execs (_ :: lawTail Γ.w.params 8) _) _ _ _
  refine wpAny_execs_cons (wpAny_Assign_Name ?_)
  refine Call_ ?_
  refine ev_global S (by rfl) ?_
  refine cw_cls S (by rfl) ?_
  refine args_cons ?_
  refine Call_ ?_
  refine ev_builtin S (by rfl) (by boot_fast) (by decide) ?_
  refine PyProof.Rows.callWith_type1 ?_
  refine args_cons ?_
  refine ev_local (i := 0) S rfl N.scope ?_
  refine args_nil ?_
  refine q_tupleOf S hsc (by omega) fun vs g1 s hl1 hvs S => ?_
  refine args_cons ?_
  refine ev_cell (i := 0) S rfl N.states rfl ?_
  refine args_cons ?_
  refine ev_cell (i := 0) S rfl N.letters rfl ?_
  refine args_cons ?_
  refine ev_cell (i := 0) S rfl N.moves rfl ?_
  refine args_cons ?_
  refine ev_local (i := 0) S rfl N.start ?_
  refine args_cons ?_
  refine ev_cell (i := 0) S rfl N.finals rfl ?_
  refine args_nil ⟨S.ge, ?_⟩
  refine make_spec hprog (moves := moves) S hA.le hvs ((rTup (rTup rInt)).mono hl1 hmv) h7 (by omega) fun x g2 s hl2 hreg S => ?_
  refine st_local (i := 0) S rfl fun s S => ?_
  exact h _ x g2 s N.up upd_self (hl1.trans hl2) hreg S

set_option maxHeartbeats 4000000 in
theorem law_s8 {n k ns ms many : Nat} {L tp : Addr} {m : Str → Option Value} {Q : Flow → Shared → Prop}
    (S : St Γ g (rVars L (lawCs (L + 1)) m :: own) s) (h : ∀ a s', St Γ g (rVars L (lawCs (L + 1)) (upd m "alive" (.ref a)) :: rAcc a [] :: own) s' → wpAny (model prog Γ.w) A (execs (lawTail Γ.w.params 9) (lawEnv Γ.w.params L)) Q E s') :
    wpAny (model prog Γ.w) A (execs (lawTail Γ.w.params 8) (lawEnv Γ.w.params L)) Q E s := by
  show wpAny _ _ (execs (_ :: lawTail Γ.w.params 9) _) _ _ _
  refine wpAny_execs_cons (wpAny_Assign_Name ?_)
  refine List_ ?_
  refine args_nil ?_
  refine q_newList S (by decide) fun a s S => ?_
  have S := S.swap
  exact st_cell (i := 0) S rfl rfl fun s S => h a s S

def aliveRow (moves : List (List Int)) (finals : List Int) (ms : Nat) (kept : List (List Int)) (ns i : Nat) : List Bool := false :: (rangeL 0 ns).map fun q => canEndOf moves finals ms kept i (q + 1)
def aliveOf (moves : List (List Int)) (finals : List Int) (ms : Nat) (kept : List (List Int)) (ns many : Nat) : List (List Bool) := (List.range many).map (aliveRow moves finals ms kept ns)

inductive JLaw9 (m : Str → Option Value) (L tp a : Addr) (ns ms many : Nat) (st : Int) (t1 t2 t3 t4 : Tok) (vm vf sc kp : Value) (moves kept : List (List Int)) (finals : List Int) (own : List Res) (i : Nat) (g' : PMap) (own' : List Res) : Prop
  | mk (m' : Str → Option Value) (out : List Value) (f1 : own' = rVars L (lawCs (L + 1)) m' :: rAcc a out :: own) (f2 : N1 m' tp ns ms many st t1 t2 t3 t4 vm vf sc kp) (f3 : m' "alive" = some (.ref a)) (f4 : (∀ x : Str, x ≠ "spot" → m' x = m x)) (f5 : All2 ((rLst rBool).at' g') out (aliveOf moves finals ms kept ns i))

set_option maxHeartbeats 4000000 in
theorem law_s9 {n k ns ms many : Nat} {L tp a : Addr} {m : Str → Option Value} {st : Int} {t1 t2 t3 t4 : Tok} {vm vf sc kp : Value} {moves kept : List (List Int)} {finals : List Int} {Q : Flow → Shared → Prop}
    (S : St Γ g (rVars L (lawCs (L + 1)) m :: rAcc a [] :: own) s) (hA : Room A (n + 20)) (hmv : (rTup (rTup rInt)).at' g vm moves) (hfi : (rTup rInt).at' g vf finals) (hke : (rLst (rLst rInt)).at' g kp kept)
    (N : N1 m tp ns ms many st t1 t2 t3 t4 vm vf sc kp) (hal : m "alive" = some (.ref a)) (W : WF moves ns ms) (hmany : many ≤ 3) (hkl : kept.length = many)
    (h : ∀ m' g' s', N1 m' tp ns ms many st t1 t2 t3 t4 vm vf sc kp → m' "alive" = some (.ref a) → (∀ x : Str, x ≠ "spot" → m' x = m x) → Le g g' → (rLst (rLst rBool)).at' g' (.ref a) (aliveOf moves finals ms kept ns (many + 1)) →
      St Γ g' (rVars L (lawCs (L + 1)) m' :: own) s' → wpAny (model prog Γ.w) A (execs (lawTail Γ.w.params 10) (lawEnv Γ.w.params L)) Q E s') :
    wpAny (model prog Γ.w) A (execs (lawTail Γ.w.params 9) (lawEnv Γ.w.params L)) Q E s := by
  have hn1 := W.n1
  have hn3 := W.n3
  show wpAny _ _ (execs (.For _ _ (loopBody Γ.w.params 9) [] _ :: lawTail Γ.w.params 10) _) _ _ _
  refine wpAny_execs_cons ?_
  refine for_rule (l := rangeL 0 (many + 1)) (T := rInt) fun Kh hKh => ?_
  refine Call_ ?_
  refine ev_builtin S (by rfl) (by boot_fast) (by decide) ?_
  refine PyProof.Rows.callWith_type1 ?_
  refine args_cons ?_
  refine wpAny_BinOp ?_
  refine ev_local (i := 0) S rfl N.many ?_
  refine ev_int S fun t s S => ?_
  refine q_add S fun t s S => ?_
  refine args_nil ?_
  refine q_rng1 S (by omega) fun I s S => ?_
  refine hKh _ _ _ _ _ (Iter.range hA.1) S (fun i g' own' => JLaw9 m L tp a ns ms many st t1 t2 t3 t4 vm vf sc kp moves kept finals own i g' own') ⟨_, [], rfl, N, hal, fun _ _ => rfl, .nil⟩ ?_ ?_
  · rintro i x v g₀ g₁ _ s hx hl ⟨m', out, rfl, N', ha', hsame, hout⟩ hl' ⟨tx, rfl⟩ S K E' hK hB hR
    obtain ⟨hxe, hi⟩ := rangeL_get hx
    have hxe' : x = (i : Int) := by omega
    subst hxe'
    have hlA := hl.trans hl'
    have hol : out.length = i := by have := hout.length; simpa [aliveOf] using this
    refine wpAny_assign_Name (st_cell (i := 0) S rfl rfl fun s S => ?_)
    refine wpAny_execs_cons (q_appendStmt ?_)
    refine ev_cell (i := 0) S rfl (upd_ne (by decide) ha') rfl ?_
    refine ⟨a, rfl, ⟨_, S.holds 2 _ rfl⟩, ?_⟩
    refine wpAny_BinOp ?_
    refine List_ ?_
    refine args_cons ?_
    refine ev_bool ?_
    refine args_nil ?_
    refine q_listDisp (T := rBool) (l := [false]) S (.cons rfl .nil) (by simp) fun v1 g2 s hl2 hv1 S => ?_
    refine comp_map (T := rInt) (U := rBool) (l := rangeL 0 ns) (fun q => some (canEndOf moves finals ms kept i (q + 1))) (cl := [("spot", L + 1 + 8), ("moves", L + 1 + 3), ("kept", L + 1 + 6), ("finals", L + 1 + 5)]) (by rfl) (by decide) (by decide) fun Kh hKh => ?_
    refine Call_ ?_
    refine ev_builtin S (by rfl) (by boot_fast) (by decide) ?_
    refine PyProof.Rows.callWith_type1 ?_
    refine args_cons ?_
    refine ev_cell (i := 0) S rfl N'.up.states rfl ?_
    refine args_nil ?_
    refine q_rng1 S (by omega) fun I s S => ?_
    refine hKh _ _ _ _ _ (Iter.range hA.1) (by rw [rangeL_length]; omega) S ?_ ?_
    · rintro q v D m2 g₃ s hmem hl3 ⟨tq, rfl⟩ X Y S K K0 E' hK' hK0
      have hq := mem_rangeL.mp hmem
      have hlB := hlA.trans (hl2.trans hl3)
      refine wpAny_assign_Name (st_local (i := 0) S rfl fun s S => ?_)
      refine tests_nil ?_
      rw [if_pos rfl]
      refine Call_ ?_
      refine ev_global S (by rfl) ?_
      refine cw_fn S (by rfl) rfl ?_
      refine args_cons ?_
      refine ev_cell (i := 3) S rfl N'.up.moves rfl ?_
      refine args_cons ?_
      refine ev_cell (i := 3) S rfl N'.up.finals rfl ?_
      refine args_cons ?_
      refine ev_cell (i := 3) S rfl N'.up.kept rfl ?_
      refine args_cons ?_
      refine ev_cell (i := 3) S rfl upd_self rfl ?_
      refine args_cons ?_
      refine wpAny_BinOp ?_
      refine ev_local (i := 0) S rfl upd_self ?_
      refine ev_int S fun t s S => ?_
      refine q_add S fun t s S => ?_
      refine args_nil ⟨S.ge, ?_⟩
      refine can_spec S hA.le ((rTup (rTup rInt)).mono hlB hmv) ((rTup rInt).mono hlB hfi) ((rLst (rLst rInt)).mono hlB hke) W (by omega) (by omega) (by omega) fun g4 s hl4 S => ?_
      exact hK' _ _ g4 _ _ hl4 rfl rfl S
    · rintro g₃ v2 s hl3 hv2 S
      refine q_addL (T := rBool) S ((rLst rBool).mono hl3 hv1) hv2 ?_ fun r g4 s hl4 hr S => ?_
      · have := List.length_filterMap_le (fun q => some (canEndOf moves finals ms kept i (q + 1))) (rangeL 0 ns)
        rw [rangeL_length] at this
        simp only [List.length_cons, List.length_nil]; omega
      refine q_append (i := 2) S rfl (by omega) fun s S => ⟨rfl, ?_⟩
      refine wpAny_execs_nil ?_
      have hlC := (hl2.trans hl3).trans hl4
      refine (hK g4 _ _ hlC ⟨_, out ++ [r], rfl, N'.up, upd_ne (by decide) ha', fun y hy => ?_, ?_⟩ S).1
      · unfold upd; rw [if_neg hy]; exact hsame y hy
      · have e : aliveOf moves finals ms kept ns (i + 1) = aliveOf moves finals ms kept ns i ++ [aliveRow moves finals ms kept ns i] := by simp [aliveOf, List.range_succ]
        rw [e]
        refine (hout.imp fun _ _ q => (rLst rBool).mono (hl'.trans hlC) q).snoc ?_
        have e2 : aliveRow moves finals ms kept ns i = [false] ++ (rangeL 0 ns).filterMap (fun q => some (canEndOf moves finals ms kept i (q + 1))) := by
          unfold aliveRow; rw [← List.filterMap_eq_map]; rfl
        rw [e2]; exact hr
  · rintro g₂ _ s hl ⟨m', out, rfl, N', ha', hsame, hout⟩ S
    rw [rangeL_length, show ((many : Int) + 1 - 0).toNat = many + 1 by omega] at hout
    have S1 := S.swap
    obtain ⟨n1, hle1, S2⟩ := S1.accRest
    exact h m' _ s N' ha' hsame (hl.trans hle1) ⟨a, out, n1, rfl, ins_self, hout.imp fun _ _ q => (rLst rBool).mono hle1 q⟩ S2
end
end Mine
end

section
open PySem PySem.W PyProof.Rows PySem.Calls
set_option Elab.async false
set_option autoImplicit false
set_option maxRecDepth 100000
set_option linter.unusedVariables false
namespace Mine

section
variable {prog : Program} {Γ : Pm} {g : PMap} {own : List Res} {s : Shared} {A : Around} {E : Value → Shared → Prop} {env : Env}
theorem q_sortedO {x : Value} {C : List Value → Prop} {R : List Value → Prop} {Q : Value → Shared → Prop} (S : St Γ g own s) (hz : ∀ ys, C ys → ys.length ≤ 1000)
    (hcol : ∀ (Q' : List Value → Shared → Prop), (∀ ys s', SameBase s s' → C ys → Q' ys s') → wpAny (model prog Γ.w) A.in1 (collect x) Q' E s)
    (hsort : ∀ ys a s₂ (P : PySem.Fin → Shared → Prop), C ys → St Γ g (rObj a (seqObj "list" ys.toArray 0) :: own) s₂ →
      (∀ (out : List Value) h', (∀ b o, b ≠ a → s₂.heap.get? b = some o → h'.get? b = some o) → (∃ m, h'.get? a = some (seqObj "list" out.toArray m)) → R out → P (.done (.ret .none)) { s₂ with heap := h' }) →
      wpAny (model prog Γ.w) A.in1.in1 (Builtin.«list.sort» ⟨[.ref a], []⟩) P E s₂)
    (h : ∀ a out s', R out → St Γ g (rAcc a out :: own) s' → Q (.ref a) s') :
    wpAny (model prog Γ.w) A (call (.builtin "sorted") [x]) Q E s := by
  refine Calls.call_function_entry kind_sorted plain_sorted entry_sorted (args_sorted1 _) ?_
  unfold Builtin.«sorted»
  refine wpAny_bind (m := checkCount "sorted" 1 1 _) (wpAny_pure ?_)
  refine wpAny_bind (hcol _ fun ys s₁ hsb hC => ?_)
  refine wpAny_bind (wpAny_newList ?_ (by have := hz ys hC; show ys.toArray.size ≤ _; rw [List.size_toArray, sizeLine_eq]; omega))
  have S₂ := (S.same hsb).alloc (seqObj "list" ys.toArray 0)
  show wpAny _ _ _ _ _ { s₁ with heap := s₁.heap.push (seqObj "list" ys.toArray 0) }
  refine wpAny_bind (wpAny_holding (wpAny_call_entry slot_list_sort ⟨_, S₂.load (i := 0) rfl, rfl⟩ entry_list_sort ?_ (args_list_sort _)))
  refine hsort ys _ _ _ hC S₂ fun out h' hk ⟨m, hm⟩ hR => ⟨_, rfl, ?_⟩
  refine wpAny_pure ⟨_, rfl, ?_⟩
  have S₃ := S₂.set (s' := { s₁ with heap := h' }) 0 (rObj s₁.heap.objs.size (seqObj "list" out.toArray m)) rfl (fun _ q => q) (fun b o hb e => hk b o hb e) hm rfl rfl
  exact h _ out _ hR (S₃.turn 0 (rAcc s₁.heap.objs.size out) rfl (fun _ q => q) fun q => ⟨m, q⟩)

theorem sorted_keysO {x : Value} {vs : List Value} {kl : List (Int × Int)} {Q : Value → Shared → Prop} (S : St Γ g own s) (hr : All2 (rKey.at' g) vs kl) (hnd : kl.Nodup) (h64 : kl.length < 64)
    (hcol : ∀ (Q' : List Value → Shared → Prop), (∀ ys s', SameBase s s' → ys.Perm vs → Q' ys s') → wpAny (model prog Γ.w) A.in1 (collect x) Q' E s)
    (h : ∀ a out kl' s', All2 (rKey.at' g) out kl' → kl'.Perm kl → SortedK kl' → St Γ g (rAcc a out :: own) s' → Q (.ref a) s') :
    wpAny (model prog Γ.w) A (call (.builtin "sorted") [x]) Q E s := by
  have hvl := hr.length
  refine q_sortedO (C := fun ys => ys.Perm vs) (R := fun out => ∃ kl', All2 (rKey.at' g) out kl' ∧ kl'.Perm kl ∧ SortedK kl') S (fun ys hp => by rw [hp.length_eq]; omega) hcol (fun ys a s₂ P hp S₂ hP => ?_) fun a out s' ⟨kl', h1, h2, h3⟩ S' => ?_
  · obtain ⟨kl1, hk1, hr1⟩ := All2.perm hp hr
    refine list_sort_keys (S₂.load (i := 0) rfl) (hr1.imp fun v q hv => keyAt_of S₂.keep hv) (fun v hv => ?_) (hk1.nodup_iff.mpr hnd) (by rw [hk1.length_eq]; exact h64) fun out kl' h' hk hm hsub hA hp' hs => hP out h' hk hm ⟨kl', ?_, hp'.trans hk1, hs⟩
    · obtain ⟨i, hi⟩ := List.getElem?_of_mem hv
      obtain ⟨q, _, hq⟩ := hr1.get' hi
      exact not_own_of (i := 0) S₂ rfl hq
    · exact keys_back S₂.keep hr1 hsub hA
  · exact h a out kl' s' h1 h2 h3 S'

theorem q_sortedNotedO {i : Nat} {d : Addr} {kvs : List NKV} {Q : Value → Shared → Prop} (S : St Γ g own s) (hA : Room A 3) (hi : own[i]? = some (rNoted prog Γ.w d kvs)) (ok : NotedOk g kvs) (h64 : kvs.length < 64)
    (h : ∀ a out kl' s', All2 (rKey.at' g) out kl' → kl'.Perm (kvs.map (·.1)) → SortedK kl' → St Γ g (rAcc a out :: own) s' → Q (.ref a) s') :
    wpAny (model prog Γ.w) A (call (.builtin "sorted") [.ref d]) Q E s := by
  obtain ⟨hd, es, ep, hat, hkeys, _, hsz⟩ := noted_at S hi
  have hr : All2 (rKey.at' g) (kvs.map fun x => Value.ref x.2) (kvs.map (·.1)) := by
    have gen : ∀ l : List NKV, (∀ x ∈ l, rKey.at' g (.ref x.2) x.1) → All2 (rKey.at' g) (l.map fun x => Value.ref x.2) (l.map (·.1)) := by
      intro l
      induction l with
      | nil => intro _; exact .nil
      | cons x l ih => intro hl; exact .cons (hl x (by simp)) (ih fun y hy => hl y (List.mem_cons_of_mem _ hy))
    exact gen kvs ok.key
  refine sorted_keysO S hr ok.nd (by simpa using h64) (fun Q' hq => ?_) h
  refine collect_dict (A := A.in1) hA.1 hd hat (by omega) fun s' hsb => ?_
  rw [hkeys]; exact hq _ s' hsb (List.Perm.refl _)
end
end Mine
end

section
open PySem PySem.W PyProof.Rows PySem.Calls
set_option Elab.async false
set_option autoImplicit false
set_option maxRecDepth 100000
set_option linter.unusedVariables false
namespace Mine

noncomputable def loopTail (p : Params) (n j : Nat) : List Stmt := (loopBody p n).drop j

structure N2 (m : Str → Option Value) (tp : Addr) (ns ms many : Nat) (st : Int) (t1 t2 t3 t4 : Tok) (vm vf sc kp al : Value) (x : Addr) : Prop where
  n : N1 m tp ns ms many st t1 t2 t3 t4 vm vf sc kp
  alive : m "alive" = some al
  rule : m "rule" = some (.ref x)
theorem N2.up {m : Str → Option Value} {tp x : Addr} {ns ms many : Nat} {st : Int} {t1 t2 t3 t4 : Tok} {vm vf sc kp al v : Value} (h : N2 m tp ns ms many st t1 t2 t3 t4 vm vf sc kp al x) {y : Str}
    (hx : (["tape", "states", "letters", "many", "start", "moves", "finals", "scope", "kept"] : List Str).all (fun z => decide (z ≠ y)) = true := by decide) (h1 : ("alive" : Str) ≠ y := by decide) (h2 : ("rule" : Str) ≠ y := by decide) :
    N2 (upd m y v) tp ns ms many st t1 t2 t3 t4 vm vf sc kp al x := ⟨h.n.up hx, upd_ne h1 h.alive, upd_ne h2 h.rule⟩

inductive JLawC0 (prog : Program) (w : World) (m : Str → Option Value) (L tp : Addr) (cl : Value) (Z : Res) (k ns spot : Nat) (alive : List (List Bool)) (own : List Res) (i : Nat) (g' : PMap) (own' : List Res) (out : List Value) : Prop
  | mk (some0 : List Int) (k' : Nat) (f1 : own' = rVars L (lawCs (L + 1)) m :: Z :: rTape prog w tp cl k' :: own) (f2 : k' ≤ k + i) (f3 : some0.length ≤ i) (f4 : All2 (rInt.at' g') out some0) (f5 : (∀ q ∈ some0, (1 ≤ q ∧ q ≤ (ns : Int)) ∧ aliveAt alive spot q = false))

section
variable {prog : Program} {Γ : Pm} {g : PMap} {own : List Res} {s : Shared} {A : Around} {E : Value → Shared → Prop} {env : Env}

set_option maxHeartbeats 4000000 in
theorem law_c0 {n k ns ms many spot : Nat} {L tp x : Addr} {cl : Value} {cells : List Int} {m : Str → Option Value} {st : Int} {t1 t2 t3 t4 ts : Tok} {vm vf sc kp al : Value} {alive : List (List Bool)} {Z : Res} {Q : Flow → Shared → Prop}
    (S : St Γ g (rVars L (lawCs (L + 1)) m :: Z :: rTape prog Γ.w tp cl k :: own) s) (hA : Room A (n + 20)) (T : Tape g cl cells) (hk : k ≤ 5000)
    (N : N2 m tp ns ms many st t1 t2 t3 t4 vm vf sc kp al x) (hsp : m "spot" = some (.int spot ts)) (hal : (rLst (rLst rBool)).at' g al alive) (hal1 : spot < alive.length) (hal2 : ∀ r ∈ alive, r.length = ns + 1) (hn3 : ns ≤ 3) (hs3 : spot ≤ 3)
    (h : ∀ some0 vsome k' g' s', Le g g' → k' ≤ k + 3 → (rLst rInt).at' g' vsome some0 → some0.length ≤ 3 → (∀ q ∈ some0, (1 ≤ q ∧ q ≤ (ns : Int)) ∧ aliveAt alive spot q = false) →
      St Γ g' (rVars L (lawCs (L + 1)) (upd m "some" vsome) :: Z :: rTape prog Γ.w tp cl k' :: own) s' → wpAny (model prog Γ.w) A (execs (loopTail Γ.w.params 10 1) (lawEnv Γ.w.params L)) Q E s') :
    wpAny (model prog Γ.w) A (execs (loopTail Γ.w.params 10 0) (lawEnv Γ.w.params L)) Q E s := by
  show wpAny _ _ (execs (_ :: loopTail Γ.w.params 10 1) _) _ _ _
  refine wpAny_execs_cons (assign_comp_rule (T := rInt) (l := rangeL 1 (ns + 1)) (cl := [("tape", L + 1), ("spot", L + 1 + 8), ("alive", L + 1 + 7)]) (by rfl) (by rfl) (by decide) (by decide) rfl (by rfl) fun Kh hKh => ?_)
  refine Call_ ?_
  refine ev_builtin S (by rfl) (by boot_fast) (by decide) ?_
  refine PyProof.Rows.callWith_type1 ?_
  refine args_cons ?_
  refine ev_int S fun t s S => ?_
  refine args_cons ?_
  refine wpAny_BinOp ?_
  refine ev_cell (i := 0) S rfl N.n.states rfl ?_
  refine ev_int S fun t s S => ?_
  refine q_add S fun t s S => ?_
  refine args_nil ?_
  refine q_rng2 S (by decide) (by omega) fun I s S => ?_
  refine hKh _ _ _ _ _ (Iter.range hA.1) (by rw [rangeL_length]; omega) S (fun i g' own' out => JLawC0 prog Γ.w m L tp cl Z k ns spot alive own i g' own' out) ⟨[], k, rfl, by omega, by simp, .nil, by simp⟩ ?_ ?_
  · rintro i q v out D m' g₀ g₁ _ s hx hl ⟨some0, k', rfl, hk', hlen, hout, hsome⟩ hl' ⟨tq, rfl⟩ X Y S K K0 E' hK hK0
    obtain ⟨hq1, hq2⟩ := rangeL_get hx
    have hlA := hl.trans hl'
    refine wpAny_assign_Name (st_local (i := 0) S rfl fun s S => ?_)
    refine tests_one ?_
    refine isTrue_and ?_
    refine isTrue_not ?_
    refine isTrue_plain ?_
    refine Subscript_ ?_
    refine Subscript_ ?_
    refine ev_cell (i := 3) S rfl N.alive rfl ?_
    refine ev_cell (i := 3) S rfl hsp rfl ?_
    obtain ⟨row, hrow⟩ : ∃ r, alive[(spot : Int).toNat]? = some r := ⟨_, List.getElem?_eq_getElem (by simpa using hal1)⟩
    have hrl := hal2 row (List.mem_of_getElem? hrow)
    refine q_item S ((rLst (rLst rBool)).mono hlA hal) (by omega) (by omega) hrow fun vr hvr => ?_
    refine ev_local (i := 0) S rfl upd_self ?_
    obtain ⟨b, hb⟩ : ∃ b, row[q.toNat]? = some b := ⟨_, List.getElem?_eq_getElem (by omega)⟩
    refine q_item S hvr (by omega) (by omega) hb fun vb hvb => ?_
    have hvb : vb = .bool b := hvb
    subst hvb
    refine wpAny_truthy_bool ?_
    have hat : aliveAt alive spot q = b := by
      simp only [Int.toNat_natCast] at hrow
      unfold aliveAt
      simp [List.getD_eq_getElem?_getD, hrow, hb]
    cases b
    · rw [if_pos (by rfl)]
      refine isTrue_and ?_
      refine wpAny_isTrue_Compare1 ?_
      refine Call_ ?_
      refine ev_global S (by rfl) ?_
      refine cw_fn S (by rfl) rfl ?_
      refine args_cons ?_
      refine ev_cell (i := 3) S rfl N.n.tape rfl ?_
      refine args_cons ?_
      refine ev_int S fun t s S => ?_
      refine args_nil ⟨S.ge, ?_⟩
      refine q_take (i := 5) S hA.le rfl (T.mono hlA) (by omega) (by omega) fun y t s hy hy' S => ?_
      refine ev_int S fun t s S => ?_
      refine PyProof.Rows.lt_int ?_
      refine wpAny_truthy_bool ?_
      cases hy3 : decide (y < 3)
      · rw [if_neg (by simp)]
        rw [if_neg (by simp)]
        exact hK0 _ _ _ _ (Le.refl _) ⟨some0, k' + 1, rfl, by omega, by omega, hout.imp fun _ _ q => rInt.mono hl' q, hsome⟩ S
      · rw [if_pos rfl]
        refine isTrue_and_nil ?_
        rw [if_pos rfl]
        refine ev_local (i := 0) S rfl upd_self ?_
        refine hK _ _ _ _ _ (Le.refl _) ⟨some0 ++ [q], k' + 1, rfl, by omega, by simp; omega, (hout.imp fun _ _ q => rInt.mono hl' q).snoc ⟨tq, rfl⟩, ?_⟩ S
        intro q' hq'
        rcases List.mem_append.mp hq' with hq' | hq'
        · exact hsome q' hq'
        · rw [List.mem_singleton.mp hq']; exact ⟨by omega, hat⟩
    · rw [if_neg (by simp)]
      rw [if_neg (by simp)]
      exact hK0 _ _ _ _ (Le.refl _) ⟨some0, k', rfl, by omega, by omega, hout.imp fun _ _ q => rInt.mono hl' q, hsome⟩ S
  · rintro g₂ _ out hl2 ⟨some0, k', rfl, hk', hlen, hout, hsome⟩
    rw [rangeL_length] at hk' hlen
    refine ⟨_, _, _, rfl, rfl, fun g₃ a nn s hl3 hg S => ?_⟩
    exact h some0 (.ref a) k' g₃ s (hl2.trans hl3) (by omega) ⟨a, out, nn, rfl, hg, hout.imp fun _ _ q => rInt.mono hl3 q⟩ (by omega) hsome S
end
end Mine
end

section
open PySem PySem.W PyProof.Rows PySem.Calls
set_option Elab.async false
set_option autoImplicit false
set_option maxRecDepth 100000
set_option linter.unusedVariables false
namespace Mine

section
variable {prog : Program} {Γ : Pm} {g : PMap} {own : List Res} {s : Shared} {A : Around} {E : Value → Shared → Prop} {env : Env}

set_option maxHeartbeats 4000000 in
theorem law_c1 {n k ns ms many : Nat} {L tp x : Addr} {cl : Value} {cells : List Int} {m : Str → Option Value} {st : Int} {t1 t2 t3 t4 : Tok} {vm vf sc kp al : Value} {Z : Res} {Q : Flow → Shared → Prop}
    (S : St Γ g (rVars L (lawCs (L + 1)) m :: Z :: rTape prog Γ.w tp cl k :: own) s) (hA : Room A (n + 20)) (T : Tape g cl cells) (hk : k ≤ 5000)
    (N : N2 m tp ns ms many st t1 t2 t3 t4 vm vf sc kp al x)
    (h : ∀ d kvs g' s', Le g g' → NotedOk g' kvs → kvs.length ≤ 1 → (∀ q ∈ kvs.map (·.1), q = (9, 1)) →
      St Γ g' (rVars L (lawCs (L + 1)) (upd m "noted" (.ref d)) :: Z :: rTape prog Γ.w tp cl (k + 1) :: rNoted prog Γ.w d kvs :: own) s' → wpAny (model prog Γ.w) A (execs (loopTail Γ.w.params 10 2) (lawEnv Γ.w.params L)) Q E s') :
    wpAny (model prog Γ.w) A (execs (loopTail Γ.w.params 10 1) (lawEnv Γ.w.params L)) Q E s := by
  show wpAny _ _ (execs (_ :: loopTail Γ.w.params 10 2) _) _ _ _
  refine wpAny_execs_cons (wpAny_Assign_Name ?_)
  refine wpAny_mono (show wpAny (model prog Γ.w) A _ (fun v s => ∃ d kvs g', v = .ref d ∧ Le g g' ∧ NotedOk g' kvs ∧ kvs.length ≤ 1 ∧ (∀ q ∈ kvs.map (·.1), q = (9, 1)) ∧ St Γ g' (rNoted prog Γ.w d kvs :: rVars L (lawCs (L + 1)) m :: Z :: rTape prog Γ.w tp cl (k + 1) :: own) s) E s from ?_) (fun v s hq => ?_) fun _ _ e => e
  · refine IfExp_ ?_
    refine wpAny_isTrue_Compare1 ?_
    refine Call_ ?_
    refine ev_global S (by rfl) ?_
    refine cw_fn S (by rfl) rfl ?_
    refine args_cons ?_
    refine ev_cell (i := 0) S rfl N.n.tape rfl ?_
    refine args_cons ?_
    refine ev_int S fun t s S => ?_
    refine args_nil ⟨S.ge, ?_⟩
    refine q_take (i := 2) S hA.le rfl T (by omega) (by omega) fun y t s hy hy' S => ?_
    refine ev_int S fun t s S => ?_
    refine PyProof.Rows.eq_int ?_
    refine wpAny_truthy_bool ?_
    cases hb : y == 0
    · rw [if_neg (by simp)]
      refine q_dictEmpty S fun d s S => ?_
      exact ⟨d, [], g, rfl, Le.refl _, ⟨by simp, by simp⟩, by simp, by simp, S⟩
    · rw [if_pos rfl]
      refine q_dictOne (n := 5) S hA.le fun d s S => ?_
      refine Tuple_ ?_
      refine args_cons ?_
      refine ev_int S fun t s S => ?_
      refine args_cons ?_
      refine ev_str S fun t s S => ?_
      refine args_cons ?_
      refine ev_int S fun t s S => ?_
      refine args_nil ?_
      refine q_keyTuple S fun v g' s hl hv S => ?_
      refine ⟨g', (9, 1), hl, hv, S, ev_bool ⟨rfl, rfl, fun kvs s ok hlen hmem S => ?_⟩⟩
      exact ⟨d, kvs, g', rfl, hl, ok, hlen, fun q hq => (hmem q).mp hq, S⟩
  obtain ⟨d, kvs, g', rfl, hl, ok, hlen, hmem, S⟩ := hq
  refine st_local (i := 1) S rfl fun s S => ?_
  exact h d kvs g' s hl ok hlen hmem (S.perm (List.perm_middle (l₁ := [_, _, _])))

/-- what was there before the call -/
abbrev rBefore : Rep (List (List Int) × List (List Bool) × List Int) := rTri (rLst (rLst rInt)) (rLst (rLst rBool)) (rLst rInt)
end
end Mine
end

section
open PySem PySem.W PyProof.Rows PySem.Calls
set_option Elab.async false
set_option autoImplicit false
set_option maxRecDepth 100000
set_option linter.unusedVariables false
namespace Mine

section
variable {prog : Program} {Γ : Pm} {g : PMap} {own : List Res} {s : Shared} {A : Around} {E : Value → Shared → Prop} {env : Env}

theorem q_unpackItems2 {u w : Value} {a : Addr} {n : Nat} {Q : List Value → Shared → Prop} (S : St Γ g own s) (hh : A.handled = none) (hg : g a = some (tupObj [u, w] n))
    (h : ∀ s', St Γ g own s' → Q [u, w] s') : wpAny (model prog Γ.w) A (unpackItems (.ref a) 2 none) Q E s := by
  refine unpackItems_tuple (items := #[u, w]) hh (isTup_of S hg) fun h' hx => ?_
  exact h _ (S.kept (fun b o e => hx b o (Nat.ne_of_lt (Heap.lt_size e)) e) rfl rfl)

set_option maxHeartbeats 4000000 in
theorem law_c2 {n k ns ms many : Nat} {L tp x d : Addr} {cl : Value} {m : Str → Option Value} {st : Int} {t1 t2 t3 t4 : Tok} {vm vf sc kp al vsome : Value} {Z Y0 : Res} {kvs : List NKV} {kept : List (List Int)} {alive : List (List Bool)} {some0 : List Int} {Q : Flow → Shared → Prop}
    (S : St Γ g (rVars L (lawCs (L + 1)) m :: Z :: Y0 :: rNoted prog Γ.w d kvs :: own) s) (hA : Room A (n + 20))
    (N : N2 m tp ns ms many st t1 t2 t3 t4 vm vf sc kp al x) (hno : m "noted" = some (.ref d)) (hso : m "some" = some vsome) (ok : NotedOk g kvs) (hkv : kvs.length ≤ 1)
    (hke : (rLst (rLst rInt)).at' g kp kept) (hal : (rLst (rLst rBool)).at' g al alive) (hs0 : (rLst rInt).at' g vsome some0) (hk3 : kept.length ≤ 3) (hk4 : ∀ r ∈ kept, r.length ≤ 3) (ha3 : alive.length ≤ 4) (ha4 : ∀ r ∈ alive, r.length ≤ 4) (hs3 : some0.length ≤ 3)
    (h : ∀ a out kl vb g' s', Le g g' → All2 (rKey.at' g') out kl → kl.Perm (kvs.map (·.1)) → rBefore.at' g' vb (kept, alive, some0) →
      St Γ g' (rVars L (lawCs (L + 1)) (upd (upd m "before" vb) "due" (.ref a)) :: Z :: Y0 :: rNoted prog Γ.w d kvs :: rAcc a out :: own) s' → wpAny (model prog Γ.w) A (execs (loopTail Γ.w.params 10 3) (lawEnv Γ.w.params L)) Q E s') :
    wpAny (model prog Γ.w) A (execs (loopTail Γ.w.params 10 2) (lawEnv Γ.w.params L)) Q E s := by
  show wpAny _ _ (execs (_ :: loopTail Γ.w.params 10 3) _) _ _ _
  refine wpAny_execs_cons (Assign_Tuple_swapped (names := ["due", "before"]) ?_)
  refine Tuple_ ?_
  refine args_cons ?_
  refine Call_ ?_
  refine ev_builtin S (by rfl) (by boot_fast) (by decide) ?_
  refine PyProof.Rows.callWith_builtin1 ?_
  refine args_cons ?_
  refine ev_local (i := 0) S rfl hno ?_
  refine args_nil ?_
  refine q_sortedNotedO (i := 3) S hA.le rfl ok (by omega) fun a out kl s hout hperm hsort S => ?_
  refine args_cons ?_
  refine Tuple_ ?_
  refine args_cons ?_
  refine comp_map (T := rLst rInt) (U := rLst rInt) (l := kept) (fun l => some l) (cl := []) (by rfl) (by decide) (by decide) fun Kh hKh => ?_
  refine ev_cell (i := 1) S rfl N.n.kept rfl ?_
  refine q_lstIter S hA.1 hke fun it R s I S => ?_
  refine hKh _ _ _ _ R (I _) (by omega) S ?_ ?_
  · rintro l v D m' g₂ s hmem hl2 hv X Y S K K0 E' hK hK0
    have := hk4 l hmem
    refine wpAny_assign_Name (st_local (i := 0) S rfl fun s S => ?_)
    refine tests_nil ?_
    rw [if_pos rfl]
    refine Call_ ?_
    refine ev_builtin S (by rfl) (by boot_fast) (by decide) ?_
    refine PyProof.Rows.callWith_type1 ?_
    refine args_cons ?_
    refine ev_local (i := 0) S rfl upd_self ?_
    refine args_nil ?_
    refine q_listOf S hv (by omega) fun r g3 s hl3 hr S => ?_
    exact hK _ _ g3 _ _ hl3 rfl hr S
  rintro g₂ v1 s hl2 hv1 S
  rw [List.filterMap_some] at hv1
  refine args_cons ?_
  refine comp_map (T := rLst rBool) (U := rLst rBool) (l := alive) (fun l => some l) (cl := []) (by rfl) (by decide) (by decide) fun Kh hKh => ?_
  refine ev_cell (i := 1) S rfl N.alive rfl ?_
  refine q_lstIter S hA.1 ((rLst (rLst rBool)).mono hl2 hal) fun it R s I S => ?_
  refine hKh _ _ _ _ R (I _) (by omega) S ?_ ?_
  · rintro l v D m' g₂ s hmem hl2 hv X Y S K K0 E' hK hK0
    have := ha4 l hmem
    refine wpAny_assign_Name (st_local (i := 0) S rfl fun s S => ?_)
    refine tests_nil ?_
    rw [if_pos rfl]
    refine Call_ ?_
    refine ev_builtin S (by rfl) (by boot_fast) (by decide) ?_
    refine PyProof.Rows.callWith_type1 ?_
    refine args_cons ?_
    refine ev_local (i := 0) S rfl upd_self ?_
    refine args_nil ?_
    refine q_listOf S hv (by omega) fun r g3 s hl3 hr S => ?_
    exact hK _ _ g3 _ _ hl3 rfl hr S
  rintro g₃ v2 s hl3 hv2 S
  rw [List.filterMap_some] at hv2
  refine args_cons ?_
  refine Call_ ?_
  refine ev_builtin S (by rfl) (by boot_fast) (by decide) ?_
  refine PyProof.Rows.callWith_type1 ?_
  refine args_cons ?_
  refine ev_local (i := 1) S rfl hso ?_
  refine args_nil ?_
  refine q_listOf S ((rLst rInt).mono (hl2.trans hl3) hs0) (by omega) fun v3 g4 s hl4 hv3 S => ?_
  refine args_nil ?_
  refine q_newTuple S (by simp) fun b g5 s hl5 hb S => ?_
  refine args_nil ?_
  refine q_newTuple S (by simp) fun c g6 s hl6 hc S => ?_
  refine q_unpackItems2 S hA.1 hc fun s S => ?_
  refine assignInOrder_cons (bindName_ (st_local (i := 1) S rfl fun s S => ?_))
  refine assignInOrder_cons (bindName_ (st_local (i := 1) S rfl fun s S => ?_))
  refine assignInOrder_nil ?_
  have hlA := ((hl2.trans hl3).trans hl4).trans (hl5.trans hl6)
  refine h a out kl (.ref b) g6 s hlA (hout.imp fun _ _ q => rKey.mono hlA q) hperm ⟨b, v1, v2, v3, 0, rfl, hl6 _ _ hb, (rLst (rLst rInt)).mono (((hl3.trans hl4).trans hl5).trans hl6) hv1, (rLst (rLst rBool)).mono ((hl4.trans hl5).trans hl6) hv2, (rLst rInt).mono (hl5.trans hl6) hv3⟩ ?_
  exact S.perm (List.perm_middle (l₁ := [_, _, _, _]))
end
end Mine
end

section
open PySem PySem.W PyProof.Rows PySem.Calls
set_option Elab.async false
set_option autoImplicit false
set_option maxRecDepth 100000
set_option linter.unusedVariables false
namespace Mine

/-- the keys due for the turns of the states -/
def dueKeys (scope : List Int) (l : List (Int × Int)) : List (Int × Int) := l.map fun p => (scope.getD p.1.toNat 0, p.2)

inductive JLawC3 (m : Str → Option Value) (a : Addr) (L tp x : Addr) (ns ms many : Nat) (st : Int) (t1 t2 t3 t4 : Tok) (vm vf sc kp al : Value) (Z1 Z Y0 Y1 : Res) (own : List Res) (kl : List (Int × Int)) (scope : List Int) (ts : List (Int × Int)) (i : Nat) (g' : PMap) (own' : List Res) : Prop
  | mk (m' : Str → Option Value) (out' : List Value) (f1 : own' = rVars L (lawCs (L + 1)) m' :: Z1 :: Z :: Y0 :: Y1 :: rAcc a out' :: own) (f2 : N2 m' tp ns ms many st t1 t2 t3 t4 vm vf sc kp al x) (f3 : (∀ y : Str, y ≠ "k" → y ≠ "a" → m' y = m y)) (f4 : All2 (rKey.at' g') out' (kl ++ dueKeys scope (ts.take i)))

section
variable {prog : Program} {Γ : Pm} {g : PMap} {own : List Res} {s : Shared} {A : Around} {E : Value → Shared → Prop} {env : Env}

noncomputable def dueBody (p : Params) : List Stmt := match loopTail p 10 3 with | .For _ _ b _ _ :: _ => b | _ => []
noncomputable def dueBody2 (p : Params) : List Stmt := match dueBody p with | .For _ _ b _ _ :: _ => b | _ => []

set_option maxHeartbeats 4000000 in
theorem law_c3in {n ns ms many spot : Nat} {L tp x a d : Addr} {m : Str → Option Value} {st q : Int} {t1 t2 t3 t4 ts tq : Tok} {vm vf sc kp al : Value} {Z Z1 Y0 Y1 : Res} {out : List Value} {kl : List (Int × Int)} {moves kept : List (List Int)} {finals scope : List Int} {alive : List (List Bool)} {Q : Flow → Shared → Prop}
    (S : St Γ g (rVars L (lawCs (L + 1)) m :: Z1 :: Z :: Y0 :: Y1 :: rAcc a out :: own) s) (hA : Room A (n + 20))
    (N : N2 m tp ns ms many st t1 t2 t3 t4 vm vf sc kp al x) (hdue : m "due" = some (.ref a)) (hsp : m "spot" = some (.int spot ts)) (hq : m "q" = some (.int q tq)) (hout : All2 (rKey.at' g) out kl) (hlen : kl.length ≤ 1000)
    (hm : (rTup (rTup rInt)).at' g vm moves) (hf : (rTup rInt).at' g vf finals) (hal : (rLst (rLst rBool)).at' g al alive) (hke : (rLst (rLst rInt)).at' g kp kept) (hsc : (rLst rInt).at' g sc scope) (W : WF moves ns ms) (hst : 0 ≤ q ∧ q ≤ ns)
    (hspm : spot ≤ many) (hm3 : many ≤ 3) (ha1 : alive.length = many + 1) (ha2 : ∀ r ∈ alive, r.length = ns + 1) (hl1 : scope.length = many) (hl2 : kept.length = many)
    (hfirst : ∀ w ∈ wordsOf ms (many - spot), endsOf moves finals q w = true → firstsOf alive spot (statesOf moves q w) ≠ [])
    (hno : ∀ p ∈ turnsOf moves finals ms alive spot q many, ∃ j : Nat, p.1 = j ∧ j < many ∧ (kept.getD j []).any (· == p.2) = false)
    (h : ∀ m' out' g' s', N2 m' tp ns ms many st t1 t2 t3 t4 vm vf sc kp al x → (∀ y : Str, y ≠ "k" → y ≠ "a" → m' y = m y) → Le g g' → All2 (rKey.at' g') out' (kl ++ dueKeys scope (turnsOf moves finals ms alive spot q many)) →
      St Γ g' (rVars L (lawCs (L + 1)) m' :: Z1 :: Z :: Y0 :: Y1 :: rAcc a out' :: own) s' → Q .next s') :
    wpAny (model prog Γ.w) A (execs (dueBody Γ.w.params) (lawEnv Γ.w.params L)) Q E s := by
  have hW1 := W.m1
  have hW3 := W.m3
  show wpAny _ _ (execs (.For _ _ (dueBody2 Γ.w.params) [] _ :: []) _) _ _ _
  refine wpAny_execs_cons ?_
  refine for_rule (l := turnsOf moves finals ms alive spot q many) (T := rPair rInt rInt) fun Kh hKh => ?_
  refine Call_ ?_
  refine ev_global S (by rfl) ?_
  refine cw_fn S (by rfl) rfl ?_
  refine args_cons ?_
  refine ev_cell (i := 0) S rfl N.n.moves rfl ?_
  refine args_cons ?_
  refine ev_cell (i := 0) S rfl N.n.finals rfl ?_
  refine args_cons ?_
  refine ev_cell (i := 0) S rfl N.alive rfl ?_
  refine args_cons ?_
  refine ev_cell (i := 0) S rfl hsp rfl ?_
  refine args_cons ?_
  refine ev_local (i := 0) S rfl hq ?_
  refine args_cons ?_
  refine ev_local (i := 0) S rfl N.n.many ?_
  refine args_nil ⟨S.ge, ?_⟩
  refine turns_spec S hA.le hm hf hal W hst hspm hm3 ha1 ha2 hfirst fun v g1 s hg1 hv S => ?_
  have hTl : (turnsOf moves finals ms alive spot q many).length ≤ 27 := Nat.le_trans (List.length_filterMap_le _ _) (wordsOf_le hW3 (by omega))
  refine q_lstIter S hA.1 hv fun it R s I S => ?_
  refine hKh _ _ _ _ R (I _) S (fun i g' own' => JLawC3 m a L tp x ns ms many st t1 t2 t3 t4 vm vf sc kp al Z1 Z Y0 Y1 own kl scope (turnsOf moves finals ms alive spot q many) i g' own') ⟨_, out, rfl, N, fun _ _ _ => rfl, by simpa [dueKeys] using hout.imp fun _ _ z => rKey.mono hg1 z⟩ ?_ ?_
  · rintro i p v g₀ g₁ _ s hx hl ⟨m', out', rfl, N', hsame, hout'⟩ hl' hp S K E' hK hB hR
    have hi : i < 27 := by have := (List.getElem?_eq_some_iff.mp hx).1; omega
    have hlA := (hg1.trans hl).trans hl'
    obtain ⟨j, hj, hjm, hnk⟩ := hno p (List.mem_of_getElem? hx)
    refine q_assign2 S hA.1 hp (by rfl) fun u w s hu hw S => ?_
    obtain ⟨tu, rfl⟩ := hu
    obtain ⟨tw, rfl⟩ := hw
    rw [hj]
    refine wpAny_assign_Name (st_local (i := 0) S rfl fun s S => ?_)
    refine wpAny_assign_Name (st_local (i := 0) S rfl fun s S => ?_)
    refine wpAny_execs_cons (wpAny_If ?_)
    refine wpAny_isTrue_Compare1 ?_
    refine ev_local (i := 0) S rfl upd_self ?_
    refine Subscript_ ?_
    refine ev_cell (i := 0) S rfl N'.up.up.n.kept rfl ?_
    refine ev_local (i := 0) S rfl (upd_ne (by decide) upd_self) ?_
    refine q_item (x := kept.getD j []) S ((rLst (rLst rInt)).mono hlA hke) (by omega) (by omega) (by simp [hl2, hjm]) fun vr hvr => ?_
    refine q_inL S hvr ?_
    refine wpAny_truthy_bool ?_
    rw [hnk, if_neg (by simp)]
    refine wpAny_execs_nil ?_
    refine wpAny_execs_cons (q_appendStmt ?_)
    refine ev_local (i := 0) S rfl (upd_ne (by decide) (upd_ne (by decide) ((hsame _ (by decide) (by decide)).trans hdue))) ?_
    refine ⟨a, rfl, ⟨_, S.holds 6 _ rfl⟩, ?_⟩
    refine Tuple_ ?_
    refine args_cons ?_
    refine Subscript_ ?_
    refine ev_local (i := 0) S rfl N'.up.up.n.scope ?_
    refine ev_local (i := 0) S rfl (upd_ne (by decide) upd_self) ?_
    refine q_item (x := scope.getD j 0) S ((rLst rInt).mono hlA hsc) (by omega) (by omega) (by simp [hl1, hjm]) fun vr hvr => ?_
    obtain ⟨tr, rfl⟩ := hvr
    refine args_cons ?_
    refine ev_str S fun t s S => ?_
    refine args_cons ?_
    refine ev_local (i := 0) S rfl upd_self ?_
    refine args_nil ?_
    refine q_keyTuple S fun v g₂ s hl2 hv S => ?_
    have hol := hout'.length
    refine q_append (i := 6) S rfl ?_ fun s S => ⟨rfl, ?_⟩
    · rw [hol]; simp [dueKeys]; omega
    refine wpAny_execs_nil ?_
    refine (hK g₂ _ _ hl2 ⟨_, out' ++ [v], rfl, N'.up.up, fun y h1 h2 => ?_, ?_⟩ S).1
    · unfold upd; rw [if_neg h2, if_neg h1]; exact hsame y h1 h2
    · rw [take_succ' hx]
      have e : kl ++ dueKeys scope ((turnsOf moves finals ms alive spot q many).take i ++ [p]) = (kl ++ dueKeys scope ((turnsOf moves finals ms alive spot q many).take i)) ++ [(scope.getD j 0, p.2)] := by
        simp [dueKeys, hj]
      rw [e]
      exact (hout'.imp fun _ _ z => rKey.mono (hl'.trans hl2) z).snoc hv
  · rintro g₂ _ s hl ⟨m', out', rfl, N', hsame, hout'⟩ S
    rw [List.take_length] at hout'
    exact wpAny_execs_nil (h m' out' g₂ s N' hsame (hg1.trans hl) hout' S)
end
end Mine
end

section
open PySem PySem.W PyProof.Rows PySem.Calls
set_option Elab.async false
set_option autoImplicit false
set_option maxRecDepth 100000
set_option linter.unusedVariables false
namespace Mine

section
variable {moves kept : List (List Int)} {finals : List Int} {alive : List (List Bool)} {ns ms many : Nat}

theorem ends_cons {q a : Int} {w : List Int} (hq : q ≠ 0) : endsOf moves finals q (a :: w) = endsOf moves finals (mv moves q a) w := by
  unfold endsOf lastOf
  have : statesOf moves q (a :: w) = mv moves q a :: statesOf moves (mv moves q a) w := by rw [statesOf, if_pos hq]
  rw [this, List.getLast?_cons_cons]
theorem states_zero : ∀ w : List Int, statesOf moves 0 w = []
  | [] => rfl
  | a :: w => by rw [statesOf, if_neg (by simp)]; exact states_zero w
theorem ends_zero (h : ∀ q ∈ finals, (1 : Int) ≤ q) (w : List Int) : endsOf moves finals 0 w = false := by
  unfold endsOf lastOf
  rw [states_zero]
  rw [List.any_eq_false]
  intro x hx
  have := h x hx
  simp; omega
theorem ends_nil {q : Int} : endsOf moves finals q [] = finals.any (· == q) := by
  unfold endsOf lastOf; rfl

theorem out_nil {spot : Nat} {w : List Int} : outOf kept spot w = [] ↔ ∀ (i : Nat) (a : Int), w[i]? = some a → (kept.getD (spot + i) []).any (· == a) = true := by
  unfold outOf enumL
  rw [List.filterMap_eq_nil_iff]
  constructor
  · intro h i a hx
    have := h ((i : Int), a) (List.mem_map.mpr ⟨(a, i), List.mem_zipIdx_iff_getElem?.mpr hx, rfl⟩)
    dsimp only at this
    rw [Int.toNat_natCast] at this
    by_cases hb : (kept.getD (spot + i) []).any (· == a) = true
    · exact hb
    · rw [if_pos (by rw [(Bool.not_eq_true _).mp hb]; rfl)] at this; cases this
  · intro h p hp
    obtain ⟨x, hx, rfl⟩ := List.mem_map.mp hp
    have := h x.2 x.1 (List.mem_zipIdx_iff_getElem?.mp hx)
    dsimp only
    rw [Int.toNat_natCast, if_neg (by rw [this]; simp)]

theorem can_iff {k : Nat} {q : Int} : canEndOf moves finals ms kept k q = true ↔ ∃ w : List Int, w.length = kept.length - k ∧ (∀ a ∈ w, 1 ≤ a ∧ a ≤ (ms : Int)) ∧
    (∀ (i : Nat) (a : Int), w[i]? = some a → (kept.getD (k + i) []).any (· == a) = true) ∧ endsOf moves finals q w = true := by
  unfold canEndOf
  rw [List.any_eq_true]
  constructor
  · rintro ⟨w, hw, h⟩
    rw [Bool.and_eq_true, decide_eq_true_eq, out_nil] at h
    obtain ⟨h1, h2⟩ := (mem_wordsOf ms _ w).mp hw
    exact ⟨w, h1, h2, h.1, h.2⟩
  · rintro ⟨w, h1, h2, h3, h4⟩
    exact ⟨w, (mem_wordsOf ms _ w).mpr ⟨h1, h2⟩, by rw [Bool.and_eq_true, decide_eq_true_eq, out_nil]; exact ⟨h3, h4⟩⟩

theorem aliveAt_pos {k : Nat} {q : Int} (hk : k ≤ many) (hq : 1 ≤ q ∧ q ≤ (ns : Int)) : aliveAt (aliveOf moves finals ms kept ns (many + 1)) k q = canEndOf moves finals ms kept k q := by
  unfold aliveAt aliveOf
  obtain ⟨j, rfl⟩ : ∃ j : Nat, q = (j : Int) + 1 := ⟨(q - 1).toNat, by omega⟩
  have hj : j < ns := by omega
  have h1 : ((j : Int) + 1).toNat = j + 1 := by omega
  simp only [List.getD_eq_getElem?_getD, List.getElem?_map, List.getElem?_range (show k < many + 1 by omega), Option.map_some, Option.getD_some, h1]
  unfold aliveRow
  rw [List.getElem?_cons_succ, List.getElem?_map, rangeL_at (by omega)]
  simp

/-- what is asked of alive -/
structure Plan (moves kept : List (List Int)) (finals : List Int) (alive : List (List Bool)) (ns ms many : Nat) : Prop where
  W : WF moves ns ms
  fin : ∀ q ∈ finals, (1 : Int) ≤ q
  last : ∀ q : Int, 1 ≤ q ∧ q ≤ (ns : Int) → finals.any (· == q) = true → aliveAt alive many q = true
  step : ∀ (k : Nat) (q a : Int), k < many → (1 ≤ q ∧ q ≤ (ns : Int)) → (1 ≤ a ∧ a ≤ (ms : Int)) → (kept.getD k []).any (· == a) = true → mv moves q a ≠ 0 → aliveAt alive (k + 1) (mv moves q a) = true → aliveAt alive k q = true
  word : ∀ (k : Nat) (q : Int), k ≤ many → (1 ≤ q ∧ q ≤ (ns : Int)) → aliveAt alive k q = true → ∃ w : List Int, w.length = many - k ∧ (∀ a ∈ w, 1 ≤ a ∧ a ≤ (ms : Int)) ∧ endsOf moves finals q w = true

theorem plan (W : WF moves ns ms) (hf : ∀ q ∈ finals, (1 : Int) ≤ q) (hk : kept.length = many) : Plan moves kept finals (aliveOf moves finals ms kept ns (many + 1)) ns ms many where
  W := W
  fin := hf
  last := fun q hq h => by
    rw [aliveAt_pos (Nat.le_refl _) hq, can_iff]
    exact ⟨[], by simp [hk], by simp, by simp, by rw [ends_nil]; exact h⟩
  step := fun k q a hkm hq ha hka h0 h1 => by
    obtain ⟨_, _, _, b1, b2⟩ := W.at hq ha
    rw [aliveAt_pos (by omega) ⟨by omega, b2⟩, can_iff] at h1
    rw [aliveAt_pos (by omega) hq, can_iff]
    obtain ⟨w, w1, w2, w3, w4⟩ := h1
    refine ⟨a :: w, by rw [List.length_cons, w1]; omega, fun b hb => ?_, fun i b hb => ?_, ?_⟩
    · rcases List.mem_cons.mp hb with rfl | hb
      · exact ha
      · exact w2 b hb
    · cases i with
      | zero => simp at hb; subst hb; exact hka
      | succ i =>
        rw [List.getElem?_cons_succ] at hb
        rw [show k + (i + 1) = k + 1 + i by omega]
        exact w3 i b hb
    · rw [ends_cons (by omega)]; exact w4
  word := fun k q hkm hq h => by
    rw [aliveAt_pos hkm hq, can_iff] at h
    obtain ⟨w, w1, w2, _, w4⟩ := h
    exact ⟨w, by rw [w1, hk], w2, w4⟩

theorem rangeL_succ (n : Nat) : rangeL 0 ((n + 1 : Nat) : Int) = 0 :: (rangeL 0 n).map (· + 1) := by
  unfold rangeL
  rw [show (((n + 1 : Nat) : Int) - 0).toNat = n + 1 by omega, show ((n : Int) - 0).toNat = n by omega, List.range_succ_eq_map, List.map_cons, List.map_map, List.map_map]
  congr 1

theorem filterMap_same {α β : Type} {f f' : α → Option β} : ∀ {l : List α}, (∀ x ∈ l, f x = f' x) → l.filterMap f = l.filterMap f'
  | [], _ => rfl
  | x :: l, h => by
    rw [List.filterMap_cons, List.filterMap_cons, h x (by simp), filterMap_same (l := l) fun y hy => h y (List.mem_cons_of_mem _ hy)]
theorem firsts_cons {k : Nat} {x : Int} {met : List Int} : firstsOf alive k (x :: met) = (if aliveAt alive (k + 1) x then [0] else []) ++ (firstsOf alive (k + 1) met).map (· + 1) := by
  unfold firstsOf
  rw [List.length_cons, rangeL_succ, List.filterMap_cons, List.filterMap_map]
  have e : (List.filterMap ((fun k_1 : Int => if aliveAt alive (k + k_1.toNat + 1) ((x :: met).getD k_1.toNat 0) = true then some k_1 else none) ∘ fun y => y + 1) (rangeL 0 met.length)) =
      ((rangeL 0 met.length).filterMap fun j => if aliveAt alive (k + 1 + j.toNat + 1) (met.getD j.toNat 0) = true then some j else none).map (· + 1) := by
    rw [List.map_filterMap]
    refine filterMap_same fun j hj => ?_
    have hj0 := (mem_rangeL.mp hj).1
    have : (j + 1).toNat = j.toNat + 1 := by omega
    dsimp only [Function.comp]
    rw [this, List.getD_cons_succ, show k + (j.toNat + 1) + 1 = k + 1 + j.toNat + 1 by omega]
    split <;> rfl
  rw [e]
  simp only [Int.toNat_zero, List.getD_cons_zero, Nat.add_zero]
  split
  · rename_i h; split at h
    · cases h
    · rename_i h2; simp [h2]
  · rename_i v h; split at h
    · rename_i h2; cases h; simp [h2]
    · cases h

theorem firsts_nonneg {k : Nat} {met : List Int} {j : Int} (h : j ∈ firstsOf alive k met) : 0 ≤ j := by
  unfold firstsOf at h
  obtain ⟨i, hi, e⟩ := List.mem_filterMap.mp h
  have := mem_rangeL.mp hi
  split at e
  · cases e; omega
  · cases e
theorem minL_zero {l : List Int} (h : ∀ j ∈ l, 0 ≤ j) : minL ([0] ++ l) = 0 := by
  refine (minL_unique (by simp) fun a ha => ?_).symm
  rcases List.mem_append.mp ha with ha | ha
  · rw [List.mem_singleton.mp ha]; exact Int.le_refl _
  · exact h a ha
theorem minL_shift {l : List Int} (h : l ≠ []) : minL (l.map (· + 1)) = minL l + 1 := by
  obtain ⟨h1, h2⟩ := minL_spec l h
  refine (minL_unique (List.mem_map.mpr ⟨_, h1, rfl⟩) fun a ha => ?_).symm
  obtain ⟨b, hb, rfl⟩ := List.mem_map.mp ha
  have := h2 b hb; omega

theorem turn_here {k : Nat} {q a : Int} {w : List Int} (hq : q ≠ 0) (he : endsOf moves finals q (a :: w) = true) (ha : aliveAt alive (k + 1) (mv moves q a) = true) :
    turnOf moves finals alive k q (a :: w) = some ((k : Int), a) := by
  unfold turnOf
  rw [if_pos he]
  have : statesOf moves q (a :: w) = mv moves q a :: statesOf moves (mv moves q a) w := by rw [statesOf, if_pos hq]
  rw [this, firsts_cons, if_pos ha, minL_zero fun j hj => by
    obtain ⟨i, hi, rfl⟩ := List.mem_map.mp hj
    have := firsts_nonneg hi; omega]
  simp
theorem turn_step {k : Nat} {q a : Int} {w : List Int} (hq : q ≠ 0) (ha : aliveAt alive (k + 1) (mv moves q a) = false) (hn : firstsOf alive (k + 1) (statesOf moves (mv moves q a) w) ≠ []) :
    turnOf moves finals alive k q (a :: w) = turnOf moves finals alive (k + 1) (mv moves q a) w := by
  unfold turnOf
  have : statesOf moves q (a :: w) = mv moves q a :: statesOf moves (mv moves q a) w := by rw [statesOf, if_pos hq]
  rw [this, firsts_cons, if_neg (show ¬ (aliveAt alive (k + 1) (mv moves q a) = true) by simp [ha]), List.nil_append, minL_shift hn, ends_cons hq]
  have h0 := firsts_nonneg (minL_spec _ hn).1
  generalize minL (firstsOf alive (k + 1) (statesOf moves (mv moves q a) w)) = M at h0 ⊢
  have e1 : (M + 1).toNat = M.toNat + 1 := by omega
  rw [e1, List.getD_cons_succ]
  have e2 : (k : Int) + (M + 1) = ((k + 1 : Nat) : Int) + M := by omega
  rw [e2]

theorem first_ne (P : Plan moves kept finals alive ns ms many) : ∀ (w : List Int) (k : Nat) (q : Int), w.length = many - k → k ≤ many → (∀ a ∈ w, 1 ≤ a ∧ a ≤ (ms : Int)) → (1 ≤ q ∧ q ≤ (ns : Int)) → aliveAt alive k q = false → endsOf moves finals q w = true →
    firstsOf alive k (statesOf moves q w) ≠ [] := by
  intro w
  induction w with
  | nil =>
    intro k q hl hk hw hq ha he
    have : k = many := by simp at hl; omega
    subst this
    rw [ends_nil] at he
    rw [P.last q hq he] at ha; cases ha
  | cons a w ih =>
    intro k q hl hk hw hq ha he
    rw [List.length_cons] at hl
    have hst : statesOf moves q (a :: w) = mv moves q a :: statesOf moves (mv moves q a) w := by rw [statesOf, if_pos (by omega)]
    rw [hst, firsts_cons]
    rw [ends_cons (by omega)] at he
    obtain ⟨_, _, _, b1, b2⟩ := P.W.at hq (hw a (by simp))
    by_cases h0 : mv moves q a = 0
    · rw [h0, ends_zero P.fin] at he; cases he
    by_cases h1 : aliveAt alive (k + 1) (mv moves q a) = true
    · rw [if_pos h1]; simp
    · rw [if_neg h1, List.nil_append]
      have := ih (k + 1) (mv moves q a) (by omega) (by omega) (fun b hb => hw b (List.mem_cons_of_mem _ hb)) ⟨by omega, b2⟩ (by simpa using h1) he
      simpa using this

theorem turn_note (P : Plan moves kept finals alive ns ms many) {scope : List Int} {T : Int → Prop} {spot : Nat} : ∀ (w : List Int) (n : Nat) (q : Int) (p : Int × Int), w.length = many - (spot + n) → spot + n ≤ many → (∀ a ∈ w, 1 ≤ a ∧ a ≤ (ms : Int)) → (1 ≤ q ∧ q ≤ (ns : Int)) →
    aliveAt alive (spot + n) q = false → layerOf moves alive ms spot T n q → turnOf moves finals alive (spot + n) q w = some p →
    ∃ n', p.1 = ((spot + n' : Nat) : Int) ∧ spot + n' < many ∧ (kept.getD (spot + n') []).any (· == p.2) = false ∧ noteOf moves alive scope ms (spot + n') (layerOf moves alive ms spot T n') (scope.getD (spot + n') 0, p.2) := by
  intro w
  induction w with
  | nil =>
    intro n q p hl hk hw hq ha hT hp
    have : many = spot + n := by simp at hl; omega
    unfold turnOf at hp
    split at hp
    · rename_i he
      rw [ends_nil] at he
      have := P.last q hq he
      rw [show many = spot + n by omega] at this
      rw [this] at ha; cases ha
    · cases hp
  | cons a w ih =>
    intro n q p hl hk hw hq ha hT hp
    rw [List.length_cons] at hl
    have haa := hw a (by simp)
    have he : endsOf moves finals q (a :: w) = true := by
      unfold turnOf at hp; split at hp
      · assumption
      · cases hp
    have he' := he
    rw [ends_cons (by omega)] at he'
    obtain ⟨_, _, _, b1, b2⟩ := P.W.at hq haa
    have h0 : mv moves q a ≠ 0 := fun h0 => by rw [h0, ends_zero P.fin] at he'; cases he'
    by_cases h1 : aliveAt alive (spot + n + 1) (mv moves q a) = true
    · rw [turn_here (by omega) he h1] at hp
      cases hp
      refine ⟨n, rfl, by omega, ?_, q, a, hT, haa, h0, h1, rfl⟩
      by_cases hk' : (kept.getD (spot + n) []).any (· == a) = true
      · rw [P.step _ q a (by omega) hq haa hk' h0 h1] at ha; cases ha
      · exact (Bool.not_eq_true _).mp hk'
    · have h1' : aliveAt alive (spot + n + 1) (mv moves q a) = false := by simpa using h1
      have hw' : ∀ b ∈ w, 1 ≤ b ∧ b ≤ (ms : Int) := fun b hb => hw b (List.mem_cons_of_mem _ hb)
      have hq' : 1 ≤ mv moves q a ∧ mv moves q a ≤ (ns : Int) := ⟨by omega, b2⟩
      rw [turn_step (by omega) h1' (first_ne P w _ _ (by omega) (by omega) hw' hq' h1' he')] at hp
      exact ih (n + 1) (mv moves q a) p (by omega) (by omega) hw' hq' h1' ⟨q, a, hT, haa, rfl, h0, h1'⟩ hp

/-- a state of a later layer comes from one of the first -/
theorem layer_path (P : Plan moves kept finals alive ns ms many) {T : Int → Prop} {spot : Nat} (hT : ∀ q, T q → (1 ≤ q ∧ q ≤ (ns : Int)) ∧ aliveAt alive spot q = false) : ∀ (n : Nat) (q : Int), spot + n ≤ many → layerOf moves alive ms spot T n q →
    ((1 ≤ q ∧ q ≤ (ns : Int)) ∧ aliveAt alive (spot + n) q = false) ∧ ∃ (q0 : Int) (u : List Int), T q0 ∧ u.length = n ∧ (∀ a ∈ u, 1 ≤ a ∧ a ≤ (ms : Int)) ∧
      ∀ w : List Int, w.length = many - (spot + n) → (∀ a ∈ w, 1 ≤ a ∧ a ≤ (ms : Int)) → endsOf moves finals q w = true → turnOf moves finals alive spot q0 (u ++ w) = turnOf moves finals alive (spot + n) q w := by
  intro n
  induction n with
  | zero =>
    intro q hk h
    exact ⟨hT q h, q, [], h, rfl, by simp, fun w _ _ _ => rfl⟩
  | succ n ih =>
    rintro x hk ⟨q, a, hL, ha, rfl, hx0, hxa⟩
    obtain ⟨⟨hq, hqa⟩, q0, u, hT0, hu1, hu2, hu3⟩ := ih q (by omega) hL
    obtain ⟨_, _, _, b1, b2⟩ := P.W.at hq ha
    refine ⟨⟨⟨by omega, b2⟩, hxa⟩, q0, u ++ [a], hT0, by simp [hu1], fun b hb => ?_, fun w hw1 hw2 hw3 => ?_⟩
    · rcases List.mem_append.mp hb with hb | hb
      · exact hu2 b hb
      · rw [List.mem_singleton.mp hb]; exact ha
    · rw [List.append_assoc, List.singleton_append]
      rw [hu3 (a :: w) (by rw [List.length_cons]; omega) (fun b hb => by
        rcases List.mem_cons.mp hb with rfl | hb
        · exact ha
        · exact hw2 b hb) (by rw [ends_cons (by omega)]; exact hw3)]
      exact turn_step (by omega) hxa (first_ne P w _ _ (by omega) (by omega) hw2 ⟨by omega, b2⟩ hxa hw3)

theorem keys_iff (P : Plan moves kept finals alive ns ms many) {scope some0 : List Int} {spot : Nat} (hsp : spot ≤ many) (hs : ∀ q ∈ some0, (1 ≤ q ∧ q ≤ (ns : Int)) ∧ aliveAt alive spot q = false) (p : Int × Int) :
    (∃ n, spot + n < many ∧ noteOf moves alive scope ms (spot + n) (layerOf moves alive ms spot (· ∈ some0) n) p) ↔ p ∈ some0.flatMap fun q => dueKeys scope (turnsOf moves finals ms alive spot q many) := by
  rw [List.mem_flatMap]
  constructor
  · rintro ⟨n, hn, q, a, hL, ha, h0, h1, rfl⟩
    obtain ⟨⟨hq, hqa⟩, q0, u, hT0, hu1, hu2, hu3⟩ := layer_path P hs n q (by omega) hL
    obtain ⟨_, _, _, b1, b2⟩ := P.W.at hq ha
    obtain ⟨w, hw1, hw2, hw3⟩ := P.word _ _ (by omega) ⟨by omega, b2⟩ h1
    have he : endsOf moves finals q (a :: w) = true := by rw [ends_cons (by omega)]; exact hw3
    have hall : ∀ b ∈ a :: w, 1 ≤ b ∧ b ≤ (ms : Int) := fun b hb => by
      rcases List.mem_cons.mp hb with rfl | hb
      · exact ha
      · exact hw2 b hb
    have ht := hu3 (a :: w) (by rw [List.length_cons]; omega) hall he
    rw [turn_here (by omega) he h1] at ht
    refine ⟨q0, hT0, ?_⟩
    unfold dueKeys turnsOf
    refine List.mem_map.mpr ⟨_, List.mem_filterMap.mpr ⟨u ++ (a :: w), (mem_wordsOf ms _ _).mpr ⟨by rw [List.length_append, List.length_cons, hu1, hw1]; omega, fun b hb => ?_⟩, ht⟩, by rw [Int.toNat_natCast]⟩
    rcases List.mem_append.mp hb with hb | hb
    · exact hu2 b hb
    · exact hall b hb
  · rintro ⟨q, hq, hp⟩
    unfold dueKeys turnsOf at hp
    obtain ⟨y, hy, rfl⟩ := List.mem_map.mp hp
    obtain ⟨w, hw, ht⟩ := List.mem_filterMap.mp hy
    obtain ⟨h1, h2⟩ := (mem_wordsOf ms _ w).mp hw
    obtain ⟨n', e1, e2, _, e4⟩ := turn_note P (scope := scope) (T := (· ∈ some0)) (spot := spot) w 0 q y h1 hsp h2 (hs q hq).1 (hs q hq).2 hq ht
    refine ⟨n', e2, ?_⟩
    rw [e1, Int.toNat_natCast]; exact e4

theorem turns_no (P : Plan moves kept finals alive ns ms many) {some0 : List Int} {spot : Nat} (hsp : spot ≤ many) (hs : ∀ q ∈ some0, (1 ≤ q ∧ q ≤ (ns : Int)) ∧ aliveAt alive spot q = false) :
    ∀ q ∈ some0, ∀ p ∈ turnsOf moves finals ms alive spot q many, ∃ j : Nat, p.1 = j ∧ j < many ∧ (kept.getD j []).any (· == p.2) = false := by
  intro q hq y hy
  unfold turnsOf at hy
  obtain ⟨w, hw, ht⟩ := List.mem_filterMap.mp hy
  obtain ⟨h1, h2⟩ := (mem_wordsOf ms _ w).mp hw
  obtain ⟨n', e1, e2, e3, _⟩ := turn_note P (scope := []) (T := (· ∈ some0)) (spot := spot) w 0 q y h1 hsp h2 (hs q hq).1 (hs q hq).2 hq ht
  exact ⟨spot + n', e1, e2, e3⟩

theorem turns_first (P : Plan moves kept finals alive ns ms many) {some0 : List Int} {spot : Nat} (hsp : spot ≤ many) (hs : ∀ q ∈ some0, (1 ≤ q ∧ q ≤ (ns : Int)) ∧ aliveAt alive spot q = false) :
    ∀ q ∈ some0, ∀ w ∈ wordsOf ms (many - spot), endsOf moves finals q w = true → firstsOf alive spot (statesOf moves q w) ≠ [] := by
  intro q hq w hw he
  obtain ⟨h1, h2⟩ := (mem_wordsOf ms _ w).mp hw
  exact first_ne P w spot q h1 hsp h2 (hs q hq).1 (hs q hq).2 he
end

theorem klt_cases (p q : Int × Int) : klt p q = true ∨ p = q ∨ klt q p = true := by
  obtain ⟨a, b⟩ := p
  obtain ⟨c, d⟩ := q
  unfold klt
  dsimp only
  by_cases h : a = c
  · subst h
    rw [if_pos rfl, if_pos rfl]
    simp only [decide_eq_true_eq, Prod.mk.injEq, true_and]
    omega
  · rw [if_neg h, if_neg (fun e => h e.symm)]
    simp only [decide_eq_true_eq, Prod.mk.injEq]
    omega
theorem klt_not (p q : Int × Int) (h : klt p q = true) : klt q p = false := by
  obtain ⟨a, b⟩ := p
  obtain ⟨c, d⟩ := q
  unfold klt at h ⊢
  dsimp only at h ⊢
  by_cases e : a = c
  · subst e
    rw [if_pos rfl] at h ⊢
    simp only [decide_eq_true_eq, decide_eq_false_iff_not] at h ⊢
    omega
  · rw [if_neg e] at h
    rw [if_neg (fun x => e x.symm)]
    simp only [decide_eq_true_eq, decide_eq_false_iff_not] at h ⊢
    omega
/-- two sorted lists with the same members are one -/
theorem sorted_eq : ∀ (l l' : List (Int × Int)), SortedK l → SortedK l' → (∀ p, p ∈ l ↔ p ∈ l') → l = l'
  | [], [], _, _, _ => rfl
  | [], y :: l', _, _, h => absurd ((h y).mpr (by simp)) (by simp)
  | x :: l, [], _, _, h => absurd ((h x).mp (by simp)) (by simp)
  | x :: l, y :: l', h1, h2, h => by
    obtain ⟨a1, a2⟩ := List.pairwise_cons.mp h1
    obtain ⟨b1, b2⟩ := List.pairwise_cons.mp h2
    have irr : ∀ p, klt p p ≠ true := fun p e => by have := klt_not p p e; rw [e] at this; cases this
    have e : x = y := by
      rcases List.mem_cons.mp ((h x).mp (by simp)) with e | hx
      · exact e
      rcases List.mem_cons.mp ((h y).mpr (by simp)) with e | hy
      · exact e.symm
      have c1 := a1 y hy
      have c2 := b1 x hx
      rw [klt_not _ _ c1] at c2; cases c2
    subst e
    congr 1
    refine sorted_eq l l' a2 b2 fun p => ⟨fun hp => ?_, fun hp => ?_⟩
    · rcases List.mem_cons.mp ((h p).mp (List.mem_cons_of_mem _ hp)) with e | hx
      · subst e; exact absurd (a1 p hp) (irr p)
      · exact hx
    · rcases List.mem_cons.mp ((h p).mpr (List.mem_cons_of_mem _ hp)) with e | hx
      · subst e; exact absurd (b1 p hp) (irr p)
      · exact hx
end Mine
end

section
open PySem PySem.W PyProof.Rows PySem.Calls
set_option Elab.async false
set_option autoImplicit false
set_option maxRecDepth 100000
set_option linter.unusedVariables false
namespace Mine

inductive JLawC3o (m : Str → Option Value) (a : Addr) (L tp x : Addr) (ns ms many : Nat) (st : Int) (t1 t2 t3 t4 : Tok) (vm vf sc kp al : Value) (Z Y0 Y1 : Res) (own : List Res) (kl : List (Int × Int)) (scope some0 : List Int) (spot : Nat) (moves : List (List Int)) (finals : List Int) (alive : List (List Bool)) (i : Nat) (g' : PMap) (own' : List Res) : Prop
  | mk (m' : Str → Option Value) (out' : List Value) (f1 : own' = rVars L (lawCs (L + 1)) m' :: Z :: Y0 :: Y1 :: rAcc a out' :: own) (f2 : N2 m' tp ns ms many st t1 t2 t3 t4 vm vf sc kp al x) (f3 : (∀ y : Str, y ≠ "k" → y ≠ "a" → y ≠ "q" → m' y = m y)) (f4 : All2 (rKey.at' g') out' (kl ++ (some0.take i).flatMap fun q => dueKeys scope (turnsOf moves finals ms alive spot q many))) (f5 : out'.length ≤ 1 + 27 * i)

section
variable {prog : Program} {Γ : Pm} {g : PMap} {own : List Res} {s : Shared} {A : Around} {E : Value → Shared → Prop} {env : Env}

set_option maxHeartbeats 4000000 in
theorem law_c3 {n ns ms many spot : Nat} {L tp x a d : Addr} {m : Str → Option Value} {st : Int} {t1 t2 t3 t4 ts : Tok} {vm vf sc kp al vsome : Value} {Z Y0 Y1 : Res} {out : List Value} {kl : List (Int × Int)} {moves kept : List (List Int)} {finals scope some0 : List Int} {alive : List (List Bool)} {Q : Flow → Shared → Prop}
    (S : St Γ g (rVars L (lawCs (L + 1)) m :: Z :: Y0 :: Y1 :: rAcc a out :: own) s) (hA : Room A (n + 20))
    (N : N2 m tp ns ms many st t1 t2 t3 t4 vm vf sc kp al x) (hdue : m "due" = some (.ref a)) (hsp : m "spot" = some (.int spot ts)) (hso : m "some" = some vsome) (hout : All2 (rKey.at' g) out kl) (hlen : kl.length ≤ 1)
    (hm : (rTup (rTup rInt)).at' g vm moves) (hf : (rTup rInt).at' g vf finals) (hal : (rLst (rLst rBool)).at' g al alive) (hke : (rLst (rLst rInt)).at' g kp kept) (hsc : (rLst rInt).at' g sc scope) (hs0 : (rLst rInt).at' g vsome some0) (W : WF moves ns ms)
    (hspm : spot ≤ many) (hm3 : many ≤ 3) (ha1 : alive.length = many + 1) (ha2 : ∀ r ∈ alive, r.length = ns + 1) (hl1 : scope.length = many) (hl2 : kept.length = many) (hs3 : some0.length ≤ 3) (hst : ∀ q ∈ some0, 1 ≤ q ∧ q ≤ (ns : Int))
    (hfirst : ∀ q ∈ some0, ∀ w ∈ wordsOf ms (many - spot), endsOf moves finals q w = true → firstsOf alive spot (statesOf moves q w) ≠ [])
    (hno : ∀ q ∈ some0, ∀ p ∈ turnsOf moves finals ms alive spot q many, ∃ j : Nat, p.1 = j ∧ j < many ∧ (kept.getD j []).any (· == p.2) = false)
    (h : ∀ m' out' g' s', N2 m' tp ns ms many st t1 t2 t3 t4 vm vf sc kp al x → (∀ y : Str, y ≠ "k" → y ≠ "a" → y ≠ "q" → m' y = m y) → Le g g' → All2 (rKey.at' g') out' (kl ++ some0.flatMap fun q => dueKeys scope (turnsOf moves finals ms alive spot q many)) →
      St Γ g' (rVars L (lawCs (L + 1)) m' :: Z :: Y0 :: Y1 :: rAcc a out' :: own) s' → wpAny (model prog Γ.w) A (execs (loopTail Γ.w.params 10 4) (lawEnv Γ.w.params L)) Q E s') :
    wpAny (model prog Γ.w) A (execs (loopTail Γ.w.params 10 3) (lawEnv Γ.w.params L)) Q E s := by
  have hW3 := W.m3
  show wpAny _ _ (execs (.For _ _ (dueBody Γ.w.params) [] _ :: loopTail Γ.w.params 10 4) _) _ _ _
  refine wpAny_execs_cons ?_
  refine for_rule (l := some0) (T := rInt) fun Kh hKh => ?_
  refine ev_local (i := 0) S rfl hso ?_
  refine q_lstIter S hA.1 hs0 fun it R s I S => ?_
  refine hKh _ _ _ _ R (I _) S (fun i g' own' => JLawC3o m a L tp x ns ms many st t1 t2 t3 t4 vm vf sc kp al Z Y0 Y1 own kl scope some0 spot moves finals alive i g' own') ⟨_, out, rfl, N, fun _ _ _ _ => rfl, by simpa using hout, by have := hout.length; omega⟩ ?_ ?_
  · rintro i q v g₀ g₁ _ s hx hl ⟨m', out', rfl, N', hsame, hout', hol⟩ hl' ⟨tq, rfl⟩ S K E' hK hB hR
    have hi : i < 3 := by have := (List.getElem?_eq_some_iff.mp hx).1; omega
    have hlA := hl.trans hl'
    have hqm := List.mem_of_getElem? hx
    have hq := hst q hqm
    have hlen' := hout'.length
    refine wpAny_assign_Name (st_local (i := 0) S rfl fun s S => ?_)
    refine law_c3in (d := d) (n := n) S hA N'.up (upd_ne (by decide) ((hsame _ (by decide) (by decide) (by decide)).trans hdue)) (upd_ne (by decide) ((hsame _ (by decide) (by decide) (by decide)).trans hsp)) upd_self (hout'.imp fun _ _ z => rKey.mono hl' z) (by omega)
      ((rTup (rTup rInt)).mono hlA hm) ((rTup rInt).mono hlA hf) ((rLst (rLst rBool)).mono hlA hal) ((rLst (rLst rInt)).mono hlA hke) ((rLst rInt).mono hlA hsc) W ⟨by omega, hq.2⟩ hspm hm3 ha1 ha2 hl1 hl2 (hfirst q hqm) (hno q hqm) fun m2 out2 g2 s N2' hsame2 hg2 hout2 S => ?_
    refine (hK g2 _ _ hg2 ⟨m2, out2, rfl, N2', fun y h1 h2 h3 => ?_, ?_, ?_⟩ S).1
    · rw [hsame2 y h1 h2]; unfold upd; rw [if_neg h3]; exact hsame y h1 h2 h3
    · rw [take_succ' hx, List.flatMap_append, List.flatMap_singleton, ← List.append_assoc]; exact hout2
    · rw [hout2.length, List.length_append, ← hlen']
      have : (dueKeys scope (turnsOf moves finals ms alive spot q many)).length ≤ 27 := by
        unfold dueKeys; rw [List.length_map]
        exact Nat.le_trans (List.length_filterMap_le _ _) (wordsOf_le hW3 (by omega))
      omega
  · rintro g₂ _ s hl ⟨m', out', rfl, N', hsame, hout', hol⟩ S
    rw [List.take_length] at hout'
    exact h m' out' g₂ s N' hsame hl hout' S
end
end Mine
end

section
open PySem PySem.W PyProof.Rows PySem.Calls
set_option Elab.async false
set_option autoImplicit false
set_option maxRecDepth 100000
set_option linter.unusedVariables false
namespace Mine

section
variable {prog : Program} {Γ : Pm} {g : PMap} {own : List Res} {s : Shared} {A : Around} {E : Value → Shared → Prop} {env : Env}

set_option maxHeartbeats 4000000 in
theorem law_c4 {n ns ms many spot : Nat} {L tp x d : Addr} {m : Str → Option Value} {st : Int} {t1 t2 t3 t4 ts : Tok} {vm vf sc kp al vsome : Value} {Z Y0 Y1 : Res} {kvs : List NKV} {moves kept : List (List Int)} {scope some0 : List Int} {alive : List (List Bool)} {U : List (Int × Int)} {Q : Flow → Shared → Prop}
    (S : St Γ g (rVars L (lawCs (L + 1)) m :: Z :: Y0 :: rNoted prog Γ.w d kvs :: own) s) (hA : Room A (n + 30))
    (N : N2 m tp ns ms many st t1 t2 t3 t4 vm vf sc kp al x) (hsp : m "spot" = some (.int spot ts)) (hso : m "some" = some vsome) (hno : m "noted" = some (.ref d)) (ok : NotedOk g kvs) (hR : Reg g x ms moves scope)
    (hal : (rLst (rLst rBool)).at' g al alive) (hke : (rLst (rLst rInt)).at' g kp kept) (hs0 : (rLst rInt).at' g vsome some0) (W : WF moves ns ms)
    (hspm : spot ≤ many) (hm3 : many ≤ 3) (ha1 : alive.length = many + 1) (ha2 : ∀ r ∈ alive, r.length = ns + 1) (hl1 : scope.length = many) (hl2 : kept.length = many) (hs3 : some0.length ≤ 3) (hst : ∀ q ∈ some0, 1 ≤ q ∧ q ≤ (ns : Int))
    (hU : ∀ q ∈ kvs.map (·.1), q ∈ U) (hU2 : ∀ (k : Nat) (a : Int), k < kept.length → 1 ≤ a → a ≤ (ms : Int) → (scope.getD k 0, a) ∈ U) (hU3 : U.length ≤ 60)
    (h : ∀ kvs' g' s', Le g g' → NotedOk g' kvs' → (∀ q ∈ kvs'.map (·.1), q ∈ U) →
      (∀ q, q ∈ kvs'.map (·.1) ↔ q ∈ kvs.map (·.1) ∨ ∃ n, spot + n < kept.length ∧ noteOf moves alive scope ms (spot + n) (layerOf moves alive ms spot (· ∈ some0) n) q) →
      St Γ g' (rVars L (lawCs (L + 1)) m :: Z :: Y0 :: rNoted prog Γ.w d kvs' :: own) s' → wpAny (model prog Γ.w) A (execs (loopTail Γ.w.params 10 5) (lawEnv Γ.w.params L)) Q E s') :
    wpAny (model prog Γ.w) A (execs (loopTail Γ.w.params 10 4) (lawEnv Γ.w.params L)) Q E s := by
  show wpAny _ _ (execs (_ :: loopTail Γ.w.params 10 5) _) _ _ _
  obtain ⟨dx, od, tl, vm', vs', a1, a2, b1, b2, b3, b4, _⟩ := hR.ex
  refine wpAny_execs_cons (wpAny_Expr ?_)
  refine MethodCall_ ?_
  refine ev_local (i := 0) S rfl N.rule ?_
  refine q_method S a1 a2 b4 (by rfl) (by rfl) ?_
  refine callWith_K S.ge.X (by rfl) ?_
  refine args_cons ?_
  refine ev_cell (i := 0) S rfl N.n.kept rfl ?_
  refine args_cons ?_
  refine ev_cell (i := 0) S rfl N.alive rfl ?_
  refine args_cons ?_
  refine ev_cell (i := 0) S rfl hsp rfl ?_
  refine args_cons ?_
  refine ev_local (i := 0) S rfl hso ?_
  refine args_cons ?_
  refine ev_local (i := 0) S rfl hno ?_
  refine args_nil ⟨S.ge.X, ?_⟩
  refine dead_spec (i0 := 3) S rfl ok hA.le hR hke hal hs0 W (by omega) (by omega) (by omega) (by omega) ha2 hst hs3 hU hU2 hU3 fun g' kvs' s hl ok' hU' hiff S => ?_
  exact h kvs' g' s hl ok' hU' hiff S
end
end Mine
end

section
open PySem PySem.W PyProof.Rows PySem.Calls
set_option Elab.async false
set_option autoImplicit false
set_option maxRecDepth 100000
set_option linter.unusedVariables false
namespace Mine

section
variable {prog : Program} {Γ : Pm} {g : PMap} {own : List Res} {s : Shared} {A : Around} {E : Value → Shared → Prop} {env : Env}

theorem q_values {i : Nat} {d : Addr} {kvs : List NKV} {pl : Sem Bool} {pos : Pos} {Q : Value → Shared → Prop} (S : St Γ g own s) (hi : own[i]? = some (rNoted prog Γ.w d kvs))
    (h : ∀ v s', St Γ g own s' → s'.heap.IsValuesView v d → Q (.ref v) s') :
    wpAny (model prog Γ.w) A (getMethod (.ref d) "values" pl) (fun fx s₂ => wpAny (model prog Γ.w) A (callWith pos fx.1 fx.2 (backTo pos (starEach [] env)) []) Q E s₂) E s := by
  obtain ⟨hd, es, ep, hat, _⟩ := noted_at S hi
  obtain ⟨o, ho, hc, hdat⟩ := id hat
  refine getMethod_builtin hat.typeIs PySem.F.plainAttrs_dict PySem.F.slot_dict_values PySem.F.type_dict_values (fun b e => by cases e; exact ⟨o, ho, hc.2.1⟩) ?_
  refine callWith_method0 ?_
  refine values_call hd hat ?_
  refine h _ _ (S.kept (fun b o e => Heap.get?_push_of_some _ e) rfl rfl) ⟨_, new_at _ _, rfl, rfl⟩

theorem q_falseIn {i : Nat} {v d : Addr} {kvs : List NKV} {Q : Value → Shared → Prop} (S : St Γ g own s) (hh : A.handled = none) (hi : own[i]? = some (rNoted prog Γ.w d kvs)) (hv : s.heap.IsValuesView v d)
    (h : ∀ s', St Γ g own s' → Q (.bool false) s') : wpAny (model prog Γ.w) A (compareOp .In (.bool false) (.ref v)) Q E s := by
  obtain ⟨hd, es, ep, hat, _, hall, _⟩ := noted_at S hi
  exact false_in_values hh hall hv hat fun h' hk => h _ (S.kept (fun b o e => hk b o e) rfl rfl)

set_option maxHeartbeats 4000000 in
theorem law_c5 {n ns ms many : Nat} {L tp x a d : Addr} {m : Str → Option Value} {st : Int} {t1 t2 t3 t4 : Tok} {vm vf sc kp al vsome vb : Value} {Z Y0 : Res} {kvs : List NKV} {out : List Value} {kl U : List (Int × Int)} {kept : List (List Int)} {some0 : List Int} {alive : List (List Bool)} {Q : Flow → Shared → Prop}
    (S : St Γ g (rVars L (lawCs (L + 1)) m :: Z :: Y0 :: rNoted prog Γ.w d kvs :: rAcc a out :: own) s) (hA : Room A (n + 30))
    (N : N2 m tp ns ms many st t1 t2 t3 t4 vm vf sc kp al x) (hno : m "noted" = some (.ref d)) (hdue : m "due" = some (.ref a)) (hso : m "some" = some vsome) (hbe : m "before" = some vb)
    (ok : NotedOk g kvs) (hlen : kvs.length < 64) (hout : All2 (rKey.at' g) out kl) (hU : ∀ q ∈ kl, q ∈ U) (hU2 : U.length ≤ 17) (hmem : ∀ q, q ∈ kvs.map (·.1) ↔ q ∈ kl)
    (hb : rBefore.at' g vb (kept, alive, some0)) (hke : (rLst (rLst rInt)).at' g kp kept) (hal : (rLst (rLst rBool)).at' g al alive) (hs0 : (rLst rInt).at' g vsome some0)
    (h : ∀ g' s', Le g g' → St Γ g' (rVars L (lawCs (L + 1)) m :: Z :: Y0 :: rNoted prog Γ.w d kvs :: own) s' → Q .next s') :
    wpAny (model prog Γ.w) A (execs (loopTail Γ.w.params 10 5) (lawEnv Γ.w.params L)) Q E s := by
  show wpAny _ _ (execs (_ :: []) _) _ _ _
  have S1 := S.perm (own' := rAcc a out :: rVars L (lawCs (L + 1)) m :: Z :: Y0 :: rNoted prog Γ.w d kvs :: own) (List.perm_middle (l₁ := [_, _, _, _])).symm
  obtain ⟨nn, hle, S⟩ := S1.accRest
  have hdl : (rLst rKey).at' (g.ins a (lstObj out nn)) (.ref a) kl := ⟨a, out, nn, rfl, ins_self, hout.imp fun _ _ z => rKey.mono hle z⟩
  have ok := ok.mono hle
  have hb := rBefore.mono hle hb
  have hke := (rLst (rLst rInt)).mono hle hke
  have hal := (rLst (rLst rBool)).mono hle hal
  have hs0 := (rLst rInt).mono hle hs0
  have hU3 : ∀ kl' : List (Int × Int), kl'.Nodup → (∀ q, q ∈ kl' ↔ q ∈ kl) → kl'.length ≤ 17 := fun kl' h1 h2 => Nat.le_trans (List.Nodup.length_le_of_subset h1 fun q hq => hU q ((h2 q).mp hq)) hU2
  refine wpAny_execs_cons (wpAny_If ?_)
  refine isTrue_or ?_
  refine wpAny_isTrue_Compare1 ?_
  refine Call_ ?_
  refine ev_builtin S (by rfl) (by boot_fast) (by decide) ?_
  refine PyProof.Rows.callWith_builtin1 ?_
  refine args_cons ?_
  refine ev_local (i := 0) S rfl hno ?_
  refine args_nil ?_
  refine q_sortedNoted (i := 3) S hA.le rfl ok hlen fun v1 k1 g1 s hl1 hv1 hp1 hs1 S => ?_
  refine Call_ ?_
  refine ev_builtin S (by rfl) (by boot_fast) (by decide) ?_
  refine PyProof.Rows.callWith_builtin1 ?_
  refine args_cons ?_
  refine Call_ ?_
  refine ev_builtin S (by rfl) (by boot_fast) (by decide) ?_
  refine PyProof.Rows.callWith_type1 ?_
  refine args_cons ?_
  refine ev_local (i := 0) S rfl hdue ?_
  refine args_nil ?_
  refine q_set_keys S hA.le ((rLst rKey).mono hl1 hdl) hU hU2 fun b vs kl2 s hvs hnd hkm S => ?_
  refine args_nil ?_
  have h17 := hU3 kl2 hnd hkm
  refine q_sortedSetK S hA.le hvs hnd (by omega) fun v2 k2 g2 s hl2 hv2 hp2 hs2 S => ?_
  refine q_ne (dLst dKey) (n := n + 29) S hA ((rLst rKey).mono hl2 hv1) hv2 fun c hc => ?_
  have e12 : k1 = k2 := sorted_eq k1 k2 hs1 hs2 fun q => by rw [hp1.mem_iff, hmem, hp2.mem_iff, hkm]
  have hcf : c = false := by
    cases c
    · rfl
    · exact absurd e12 (hc.mp rfl)
  subst hcf
  refine wpAny_truthy_bool ?_
  rw [if_neg (by simp)]
  refine isTrue_or ?_
  refine wpAny_isTrue_Compare1 ?_
  refine ev_bool ?_
  refine MethodCall_ ?_
  refine ev_local (i := 0) S rfl hno ?_
  refine q_values (i := 3) S rfl fun v s S hv => ?_
  refine q_falseIn (i := 3) S hA.1 rfl hv fun s S => ?_
  refine wpAny_truthy_bool ?_
  rw [if_neg (by simp)]
  refine isTrue_or ?_
  refine wpAny_isTrue_Compare1 ?_
  have hlA := hl1.trans hl2
  refine Tuple_ ?_
  refine args_cons ?_
  refine ev_cell (i := 0) S rfl N.n.kept rfl ?_
  refine args_cons ?_
  refine ev_cell (i := 0) S rfl N.alive rfl ?_
  refine args_cons ?_
  refine ev_local (i := 0) S rfl hso ?_
  refine args_nil ?_
  refine q_newTuple S (by simp) fun c g3 s hl3 hc3 S => ?_
  refine ev_local (i := 0) S rfl hbe ?_
  have hlB := hlA.trans hl3
  refine q_ne (dTri (dLst (dLst dInt)) (dLst (dLst dBool)) (dLst dInt)) (n := n + 29) S hA (x := (kept, alive, some0)) (y := (kept, alive, some0)) ⟨c, _, _, _, 0, rfl, hc3, (rLst (rLst rInt)).mono hlB hke, (rLst (rLst rBool)).mono hlB hal, (rLst rInt).mono hlB hs0⟩ (rBefore.mono hlB hb) fun c hc => ?_
  have hcf : c = false := by
    cases c
    · rfl
    · exact absurd rfl (hc.mp rfl)
  subst hcf
  refine wpAny_truthy_bool ?_
  rw [if_neg (by simp)]
  refine isTrue_or_nil ?_
  rw [if_neg (by simp)]
  refine wpAny_execs_nil ?_
  refine wpAny_execs_nil ?_
  exact h _ s (hle.trans hlB) S
end
end Mine
end

section
open PySem PySem.W PyProof.Rows PySem.Calls
set_option Elab.async false
set_option autoImplicit false
set_option maxRecDepth 100000
set_option linter.unusedVariables false
namespace Mine

def keyU : List (Int × Int) := (9, 1) :: ([7, 2, 5] : List Int).flatMap fun p => ([1, 2, 3] : List Int).map fun a => (p, a)
theorem keyU_len : keyU.length = 10 := by decide
theorem keyU_mem {p a : Int} (hp : p ∈ ([7, 2, 5] : List Int)) (ha : 1 ≤ a ∧ a ≤ 3) : (p, a) ∈ keyU := by
  unfold keyU
  refine List.mem_cons_of_mem _ (List.mem_flatMap.mpr ⟨p, hp, List.mem_map.mpr ⟨a, ?_, rfl⟩⟩)
  simp only [List.mem_cons, List.not_mem_nil, or_false]; omega

inductive JLaw10 (prog : Program) (w : World) (cl : Value) (k : Nat) (L tp x : Addr) (ns ms many : Nat) (st : Int) (t1 t2 t3 t4 : Tok) (vm vf sc kp al : Value) (own : List Res) (i : Nat) (g' : PMap) (own' : List Res) : Prop
  | mk (m' : Str → Option Value) (k' : Nat) (f1 : own' = rVars L (lawCs (L + 1)) m' :: rTape prog w tp cl k' :: own) (f2 : N2 m' tp ns ms many st t1 t2 t3 t4 vm vf sc kp al x) (f3 : k' ≤ k + 4 * i)

section
variable {prog : Program} {Γ : Pm} {g : PMap} {own : List Res} {s : Shared} {A : Around} {E : Value → Shared → Prop} {env : Env}

theorem law_turn {n k ns ms many spot : Nat} {L tp x : Addr} {cl : Value} {cells : List Int} {m : Str → Option Value} {st : Int} {t1 t2 t3 t4 ts : Tok} {vm vf sc kp al : Value} {Z : Res} {moves kept : List (List Int)} {finals scope : List Int} {alive : List (List Bool)} {Q : Flow → Shared → Prop}
    (S : St Γ g (rVars L (lawCs (L + 1)) m :: Z :: rTape prog Γ.w tp cl k :: own) s) (hA : Room A (n + 40)) (T : Tape g cl cells) (hk : k ≤ 1000)
    (N : N2 m tp ns ms many st t1 t2 t3 t4 vm vf sc kp al x) (hsp : m "spot" = some (.int spot ts))
    (hm : (rTup (rTup rInt)).at' g vm moves) (hf : (rTup rInt).at' g vf finals) (hal : (rLst (rLst rBool)).at' g al alive) (hke : (rLst (rLst rInt)).at' g kp kept) (hsc : (rLst rInt).at' g sc scope) (hR : Reg g x ms moves scope)
    (P : Plan moves kept finals alive ns ms many) (hspm : spot ≤ many) (hm3 : many ≤ 3) (ha1 : alive.length = many + 1) (ha2 : ∀ r ∈ alive, r.length = ns + 1) (hl1 : scope.length = many) (hl2 : kept.length = many)
    (h7 : ∀ q ∈ scope, q ∈ ([7, 2, 5] : List Int)) (hlot : ∀ r ∈ kept, r.length ≤ 3)
    (h : ∀ m' k' g' s', N2 m' tp ns ms many st t1 t2 t3 t4 vm vf sc kp al x → Le g g' → k' ≤ k + 4 → St Γ g' (rVars L (lawCs (L + 1)) m' :: Z :: rTape prog Γ.w tp cl k' :: own) s' → Q .next s') :
    wpAny (model prog Γ.w) A (execs (loopTail Γ.w.params 10 0) (lawEnv Γ.w.params L)) Q E s := by
  have hW := P.W
  have hm1 := hW.m1
  have hms := hW.m3
  have hn3 := hW.n3
  refine law_c0 (n := n) S hA.le T (by omega) N hsp hal (by omega) ha2 hn3 (by omega) fun some0 vsome k1 g1 s hg1 hk1 hs0 hs3 hs S => ?_
  refine law_c1 (n := n) S hA.le (T.mono hg1) (by omega) N.up fun d kvs g2 s hg2 ok hkv h91 S => ?_
  have hl12 := hg1.trans hg2
  have hkl3 : kept.length ≤ 3 := by omega
  refine law_c2 (n := n) (k := k1) (cl := cl) S hA.le N.up.up upd_self (upd_ne (by decide) upd_self) ok hkv ((rLst (rLst rInt)).mono hl12 hke) ((rLst (rLst rBool)).mono hl12 hal) ((rLst rInt).mono hg2 hs0) hkl3 hlot (by omega) (fun r hr => by have := ha2 r hr; omega) hs3 fun a out kl vb g3 s hg3 hout hperm hvb S => ?_
  have hl13 := hl12.trans hg3
  have hkl1 : kl.length ≤ 1 := by rw [hperm.length_eq, List.length_map]; exact hkv
  have hs0' := (rLst rInt).mono (hg2.trans hg3) hs0
  refine law_c3 (n := n) (d := d) S hA.le N.up.up.up.up upd_self (upd_ne (by decide) (upd_ne (by decide) (upd_ne (by decide) (upd_ne (by decide) hsp)))) (upd_ne (by decide) (upd_ne (by decide) (upd_ne (by decide) upd_self))) hout hkl1
    ((rTup (rTup rInt)).mono hl13 hm) ((rTup rInt).mono hl13 hf) ((rLst (rLst rBool)).mono hl13 hal) ((rLst (rLst rInt)).mono hl13 hke) ((rLst rInt).mono hl13 hsc) hs0' hW hspm hm3 ha1 ha2 hl1 hl2 hs3 (fun q hq => (hs q hq).1)
    (turns_first P hspm hs) (turns_no P hspm hs) fun m' out' g4 s N' hsame hg4 hout' S => ?_
  have hl14 := hl13.trans hg4
  have hs0'' := (rLst rInt).mono hg4 hs0'
  have hso' : m' "some" = some vsome := (hsame _ (by decide) (by decide) (by decide)).trans (upd_ne (by decide) (upd_ne (by decide) (upd_ne (by decide) upd_self)))
  have hno' : m' "noted" = some (.ref d) := (hsame _ (by decide) (by decide) (by decide)).trans (upd_ne (by decide) (upd_ne (by decide) upd_self))
  have hsp' : m' "spot" = some (.int spot ts) := (hsame _ (by decide) (by decide) (by decide)).trans (upd_ne (by decide) (upd_ne (by decide) (upd_ne (by decide) (upd_ne (by decide) hsp))))
  have hbe' : m' "before" = some vb := (hsame _ (by decide) (by decide) (by decide)).trans (upd_ne (by decide) upd_self)
  have hdu' : m' "due" = some (.ref a) := (hsame _ (by decide) (by decide) (by decide)).trans upd_self
  refine law_c4 (n := n) (Y1 := Z) (U := keyU) S hA.le N' hsp' hso' hno' (ok.mono (hg3.trans hg4)) (hR.mono hl14) ((rLst (rLst rBool)).mono hl14 hal) ((rLst (rLst rInt)).mono hl14 hke) hs0'' hW hspm hm3 ha1 ha2 hl1 hl2 hs3 (fun q hq => (hs q hq).1)
    (fun q hq => by rw [h91 q hq]; exact List.mem_cons_self) (fun j b hj hb1 hb2 => keyU_mem (h7 _ (by rw [List.getD_eq_getElem?_getD, List.getElem?_eq_getElem (by omega)]; exact List.getElem_mem _)) ⟨hb1, by omega⟩) (by rw [keyU_len]; decide) fun kvs' g5 s hg5 ok' hU' hiff S => ?_
  have hl15 := hl14.trans hg5
  have hmem : ∀ q, q ∈ kvs'.map (·.1) ↔ q ∈ kl ++ some0.flatMap fun q => dueKeys scope (turnsOf moves finals ms alive spot q many) := by
    intro q
    rw [hiff q, List.mem_append, hperm.mem_iff, hl2]
    exact or_congr Iff.rfl (keys_iff P hspm hs q)
  have hlen : kvs'.length < 64 := by
    have := List.Nodup.length_le_of_subset ok'.nd (fun q hq => hU' q hq)
    rw [keyU_len, List.length_map] at this; omega
  refine law_c5 (n := n) (U := keyU) S hA.le N' hno' hdu' hso' hbe' ok' hlen (hout'.imp fun _ _ z => rKey.mono hg5 z) (fun q hq => hU' q ((hmem q).mpr hq)) (by rw [keyU_len]; decide) hmem (rBefore.mono (hg4.trans hg5) hvb)
    ((rLst (rLst rInt)).mono hl15 hke) ((rLst (rLst rBool)).mono hl15 hal) ((rLst rInt).mono hg5 hs0'') fun g6 s hg6 S => ?_
  have S2 := (S.perm (own' := rNoted prog Γ.w d kvs' :: rVars L (lawCs (L + 1)) m' :: Z :: rTape prog Γ.w tp cl (k1 + 1) :: own) (List.perm_middle (l₁ := [_, _, _])).symm).drop
  exact h m' (k1 + 1) g6 s N' (hl15.trans hg6) (by omega) S2

theorem law_s11 {L : Addr} {Q : Flow → Shared → Prop} (h : Q (.ret (.bool true)) s) : wpAny (model prog Γ.w) A (execs (lawTail Γ.w.params 11) (lawEnv Γ.w.params L)) Q E s := by
  show wpAny _ _ (execs (_ :: []) _) _ _ _
  exact wpAny_execs_cons (wpAny_Return_some (ev_bool h))

theorem law_s10 {n k ns ms many : Nat} {L tp x : Addr} {cl : Value} {cells : List Int} {m : Str → Option Value} {st : Int} {t1 t2 t3 t4 : Tok} {vm vf sc kp al : Value} {moves kept : List (List Int)} {finals scope : List Int} {alive : List (List Bool)} {Q : Flow → Shared → Prop}
    (S : St Γ g (rVars L (lawCs (L + 1)) m :: rTape prog Γ.w tp cl k :: own) s) (hA : Room A (n + 40)) (T : Tape g cl cells) (hk : k ≤ 900)
    (N : N2 m tp ns ms many st t1 t2 t3 t4 vm vf sc kp al x)
    (hm : (rTup (rTup rInt)).at' g vm moves) (hf : (rTup rInt).at' g vf finals) (hal : (rLst (rLst rBool)).at' g al alive) (hke : (rLst (rLst rInt)).at' g kp kept) (hsc : (rLst rInt).at' g sc scope) (hR : Reg g x ms moves scope)
    (P : Plan moves kept finals alive ns ms many) (hm3 : many ≤ 3) (ha1 : alive.length = many + 1) (ha2 : ∀ r ∈ alive, r.length = ns + 1) (hl1 : scope.length = many) (hl2 : kept.length = many)
    (h7 : ∀ q ∈ scope, q ∈ ([7, 2, 5] : List Int)) (hlot : ∀ r ∈ kept, r.length ≤ 3)
    (h : ∀ m' k' g' s', Le g g' → St Γ g' (rVars L (lawCs (L + 1)) m' :: rTape prog Γ.w tp cl k' :: own) s' → Q (.ret (.bool true)) s') :
    wpAny (model prog Γ.w) A (execs (lawTail Γ.w.params 10) (lawEnv Γ.w.params L)) Q E s := by
  show wpAny _ _ (execs (.For _ _ (loopBody Γ.w.params 10) [] _ :: lawTail Γ.w.params 11) _) _ _ _
  refine wpAny_execs_cons ?_
  refine for_rule (l := rangeL 0 (many + 1)) (T := rInt) fun Kh hKh => ?_
  refine Call_ ?_
  refine ev_builtin S (by rfl) (by boot_fast) (by decide) ?_
  refine PyProof.Rows.callWith_type1 ?_
  refine args_cons ?_
  refine wpAny_BinOp ?_
  refine ev_local (i := 0) S rfl N.n.many ?_
  refine ev_int S fun t s S => ?_
  refine q_add S fun t s S => ?_
  refine args_nil ?_
  refine q_rng1 S (by omega) fun I s S => ?_
  refine hKh _ _ _ _ _ (Iter.range hA.1) S (fun i g' own' => JLaw10 prog Γ.w cl k L tp x ns ms many st t1 t2 t3 t4 vm vf sc kp al own i g' own') ⟨m, k, rfl, N, by omega⟩ ?_ ?_
  · rintro i y v g₀ g₁ _ s hx hl ⟨m', k', rfl, N', hk'⟩ hl' ⟨ty, rfl⟩ S K E' hK _ _
    obtain ⟨hye, hi⟩ := rangeL_get hx
    have hye' : y = (i : Int) := by omega
    subst hye'
    have hlA := hl.trans hl'
    refine wpAny_assign_Name (st_cell (i := 0) S rfl rfl fun s S => ?_)
    show wpAny _ _ (execs (loopTail Γ.w.params 10 0) _) _ _ _
    refine law_turn (n := n) S hA (T.mono hlA) (by omega) N'.up upd_self ((rTup (rTup rInt)).mono hlA hm) ((rTup rInt).mono hlA hf) ((rLst (rLst rBool)).mono hlA hal) ((rLst (rLst rInt)).mono hlA hke) ((rLst rInt).mono hlA hsc) (hR.mono hlA) P (by omega) hm3 ha1 ha2 hl1 hl2 h7 hlot
      fun m2 k2 g2 s N2' hg2 hk2 S => ?_
    exact (hK g2 _ _ hg2 ⟨m2, k2, rfl, N2', by omega⟩ S).1
  · rintro g₂ _ s hl ⟨m', k', rfl, N', hk'⟩ S
    exact law_s11 (h m' k' g₂ s hl S)
end
end Mine
end

section
open PySem PySem.W PyProof.Rows PySem.Calls
set_option Elab.async false
set_option autoImplicit false
set_option maxRecDepth 100000
set_option linter.unusedVariables false
namespace Mine

section
variable {prog : Program} {Γ : Pm} {g : PMap} {own : List Res} {s : Shared} {A : Around} {E : Value → Shared → Prop} {env : Env}

set_option maxHeartbeats 4000000 in
theorem law_all (hprog : fileOk prog) {script : List Int} {v : Value} {Q : Value → Shared → Prop} (S : St Γ g own s) (hA : Room A 61) (hv : (rLst rInt).at' g v script) (hlen : script.length ≤ 1000)
    (h : ∀ g' s', Le g g' → St Γ g' own s' → Q (.bool true) s') :
    wpAny (model prog Γ.w) A (call (.ref 209) [v]) Q E s := by
  refine law_call (script := script) S (n := 60) hA fun L A s hA S => ?_
  refine law_s0 (n := 10) S hA.le hv (by rfl) hlen fun tp cl g1 s hg1 hcl S => ?_
  have T : Tape g1 cl (script.take 60) := ⟨hcl, by rw [List.length_take]; omega⟩
  refine law_s1 (n := 10) S hA.le T (by omega) upd_self fun ns ms t1 t2 g2 s hn1 hn3 hm1 hm3 hg2 S => ?_
  refine law_s2 (n := 10) S hA.le (T.mono hg2) (by omega) hn1 hn3 hm1 hm3 (by rfl) (by rfl) (by rfl) fun moves vm k3 g3 s W hk3 hg3 hmv S => ?_
  refine law_s3 (n := 10) S hA.le (T.mono (hg2.trans hg3)) (by omega) hn1 hn3 (by rfl) (by rfl) fun mk st t3 t4 g4 s hg4 S => ?_
  refine law_s4 (k := 0) (cl := cl) (tp := tp) (n := 10) S hA.le hn1 hn3 (by rfl) (by rfl) fun vf g5 s hg5 hvf S => ?_
  refine law_s5 (n := 10) S hA.le (T.mono (((hg2.trans hg3).trans hg4).trans hg5)) (by omega) (by rfl) fun many sc kp t5 g6 s hmany hg6 S => ?_
  have hl26 := (((hg2.trans hg3).trans hg4).trans hg5).trans hg6
  refine law_s6 (n := 10) S hA.le (T.mono hl26) (by omega) ⟨by rfl, by rfl, by rfl, by rfl, by rfl, by rfl, by rfl, by rfl, by rfl⟩ hm1 hm3 hmany fun m' scope kept k' g7 s N hg7 hk' hsc hkp hl1 hl2 h7 hlot S => ?_
  have hm7 := (rTup (rTup rInt)).mono (((hg4.trans hg5).trans hg6).trans hg7) hmv
  have hf7 := (rTup rInt).mono (hg6.trans hg7) hvf
  refine law_s7 hprog (k := 0) (n := 10) S hA.le hm7 N hsc (by omega) h7 fun m2 x g8 s N2' hr hg8 hR S => ?_
  refine law_s8 (k := 0) (n := 0) (ns := 0) (ms := 0) (many := 0) (tp := 0) S fun a s S => ?_
  refine law_s9 (k := 0) (n := 10) S hA.le ((rTup (rTup rInt)).mono hg8 hm7) ((rTup rInt).mono hg8 hf7) ((rLst (rLst rInt)).mono hg8 hkp) N2'.up upd_self W hmany hl2 fun m3 g9 s N3 ha3 hsame hg9 hal S => ?_
  have hl89 := hg8.trans hg9
  have hfin : ∀ q ∈ bitsOf mk ns, (1 : Int) ≤ q := fun q hq => (bitsOf_mem hq).1
  refine law_s10 (n := 10) S hA.le (T.mono ((hl26.trans hg7).trans hl89)) (by omega) ⟨N3, ha3, (hsame _ (by decide)).trans (upd_ne (by decide) hr)⟩ ((rTup (rTup rInt)).mono hl89 hm7) ((rTup rInt).mono hl89 hf7) hal ((rLst (rLst rInt)).mono hl89 hkp) ((rLst rInt).mono hl89 hsc) (hR.mono hg9)
    (plan W hfin hl2) hmany (by simp [aliveOf]) (fun r hr => ?_) hl1 hl2 h7 (fun r hr => (hlot r hr).1) fun m4 k4 g10 s hg10 S => ?_
  · unfold aliveOf at hr
    obtain ⟨i, _, rfl⟩ := List.mem_map.mp hr
    unfold aliveRow
    rw [List.length_cons, List.length_map, rangeL_length]; omega
  · have hlA := ((hg1.trans hl26).trans hg7).trans (hl89.trans hg10)
    have S2 := S.drop.drop
    exact h _ s hlA S2
end
end Mine
end

section
open PySem PySem.W PyProof.Rows
set_option Elab.async false
set_option maxRecDepth 100000
set_option maxHeartbeats 8000000
namespace Mine
theorem all2_ints {g : PMap} {vs : List Value} {l : List Int} (h : IntsAre vs l) : All2 (rInt.at' g) vs l := by
  induction h with
  | nil => exact .nil
  | cons n t _ ih => exact .cons ⟨t, rfl⟩ ih
theorem join {w : World} {mg mb : Str → Option Value} {s₁ : Shared} {script : List Int} {la : Addr} {vs : List Value} {prog : Program} {Q : Value → Shared → Prop} {E : Value → Shared → Prop} (hprog : fileOk prog) (G : GE w mg mb s₁.heap) (hg : s₁.gens = #[])
    (hv : s₁.heap.get? la = some { cls := .type "list", data := .seq vs.toArray }) (hi : IntsAre vs script) (hlen : script.length ≤ 1000)
    (h : ∀ s', (∀ b o, s₁.heap.get? b = some o → s'.heap.get? b = some o) → s'.os = s₁.os → s'.gens = s₁.gens → Q (.bool true) s') :
    wpAny (model prog w) callerA (call (.ref 209) [.ref la]) Q E s₁ := by
  have S : St ⟨w, mg, mb, s₁.heap, s₁.os, G⟩ (fun a => s₁.heap.get? a) [] s₁ := ⟨fun _ _ e => e, fun _ _ e => e, fun i r hr => by simp at hr, fun i r hr => by simp at hr, fun i j r r' _ hr => by simp at hr, hg, rfl⟩
  refine law_all (Γ := ⟨w, mg, mb, s₁.heap, s₁.os, G⟩) hprog S (by refine ⟨rfl, ?_, ?_⟩ <;> decide) (script := script) ⟨la, vs, 0, rfl, hv, all2_ints hi⟩ hlen fun g' s' hl S' => ?_
  exact h s' (fun b o e => S'.keep b o (hl b o e)) S'.os (S'.gens.trans hg.symm)
theorem well_list {P : Params} {h : Heap} {a : Addr} {xs : List PyData} {vs : List Value} (w : Well P h (.ref a) (ofPy (.list xs))) (hL : h.IsList a vs.toArray) : h.get? a = some { cls := .type "list", data := .seq vs.toArray } := by
  obtain ⟨o, ho, hc, n, hd⟩ := hL
  have key : ∀ d, (∃ ys, d = WData.list ys) → Well P h (.ref a) d → h.get? a = some { cls := .type "list", data := .seq vs.toArray } := by
    rintro _ ⟨ys, rfl⟩ w
    cases w with
    | list hg _ =>
      rw [ho] at hg ⊢
      cases hg
      dsimp only at hd
      injection hd with h1 h2
      rw [h1]
  exact key _ ⟨_, by rw [ofPy]⟩ w
end Mine
theorem PySem.Challenge.cw_qd0011_01_holds : PySem.Challenge.rw_qd0011_01.Holds := by
  w_on
  o_law
  refine holds_open (q := Mine.viewP) (loose := []) (Xt := fun s => xlAt Mine.viewP [] s && recOk (RowW.records PySem.Challenge.rw_qd0011_01.row.toRowW) s) (XP := XL Mine.viewP []) (Yf := Hook.obs Mine.hookK) (Ya := Hook.val Mine.hookK) (YP := Hook.says Mine.hookK) (N := 2628) ?hl (Hook.of Mine.hookK) (Hook.keeps Mine.hookK) (fun s e => xl_of s (Bool.and_eq_true_iff.mp e).1) XL.keeps (by rfl) (by rfl) (by rfl) (fun s e => recFacts_of (Bool.and_eq_true_iff.mp e).2) (by rfl) (by first | assumption | decide +kernel) (by decide +kernel) ⟨rfl, rfl, rfl, rfl, rfl, by decide +kernel⟩ ?hw ?hc
  case hl =>
    refine Mine.left_boot (by kernel_rfl) (by kernel_rfl) (fun s => by kernel_rfl) fun w os => ?_
    rw [← Mine.bootS_abs]
    refine Mine.topFrom_of (n₀ := 11) (ann := some (.ref 6)) (Mine.bootS_ns w os) (Mine.bootS_size w os) (Mine.bootS_ann w os) ?_
    rw [Mine.topRunT_eq, PySem.W.Fast.te10156331382660048174, PySem.W.Fast.te11892475500146522536, PySem.W.Fast.te14364793385576792824, PySem.W.Fast.te6613529449190102663, PySem.W.Fast.te4187177175401517315]
    kernel_rfl
  case hw => w_witness2
  case hc =>
    intro w s₀ s₁ mg mb G Y fa o pm cd doc dV kV ho hd hcd hD hmg hg args vals as hpre hlay hrd hwl hlo
    have KX := kIn_of Y
    refine Ground.open G ?_
    intro T B D TE TW
    clear D
    wrow_args hpre hlay hrd hwl hlo
    rename_i w0 w5 e1 e2 e3 e4 w4 w3 la vs w' hL ra w1 r0 hI hr hc1 hc2
    have h1 : mg (Str.ofString "law") = some (.ref 209) := mg_of KX T.g (by rfl)
    have h2 : mg (Str.ofString "law") = some (.ref fa) := hmg
    rw [h1] at h2
    cases h2
    refine Mine.join (script := w0) (by exact ⟨by kernel_rfl, by kernel_rfl⟩) ⟨KX, T.g, T.b, T.nolimit, T.builtins⟩ hg (Mine.well_list w1 hL) hI (by omega) fun s' hk ho hg' => ?_
    refine GoodW.toG ⟨.inl ⟨.bool true, .bool true, [], rfl, fun _ => rfl, ?_, ?_, fun _ => ⟨List.nodup_nil, fun _ h => nomatch h⟩⟩, hk, ho, hg'.trans hg⟩
    · exact .bool _
    · kernel_rfl
end
