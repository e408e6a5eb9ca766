import PyProof.Rows.All
import Wide.All
import OpenK.AllK
import Wide.FinOn
import Lean
import PySem.Challenge.RW_no0193_01
set_option genSizeOf false
set_option genInjectivity false
set_option Elab.async false
set_option linter.all false
set_option maxRecDepth 100000
open PySem PySem.W PyProof.Rows
section
namespace Mine
theorem e1a1 {α0 : Type} {p0 : α0 → Prop} {P : Prop} (h : ∃ a0, p0 a0) (k : ∀ a0, p0 a0 → P) : P := h.elim fun a0 h => k a0 h
theorem e1a2 {α0 : Type} {p0 p1 : α0 → Prop} {P : Prop} (h : ∃ a0, p0 a0 ∧ p1 a0) (k : ∀ a0, p0 a0 → p1 a0 → P) : P := h.elim fun a0 h => k a0 h.1 h.2
theorem e1a3 {α0 : Type} {p0 p1 p2 : α0 → Prop} {P : Prop} (h : ∃ a0, p0 a0 ∧ p1 a0 ∧ p2 a0) (k : ∀ a0, p0 a0 → p1 a0 → p2 a0 → P) : P := h.elim fun a0 h => k a0 h.1 h.2.1 h.2.2
theorem e1a4 {α0 : Type} {p0 p1 p2 p3 : α0 → Prop} {P : Prop} (h : ∃ a0, p0 a0 ∧ p1 a0 ∧ p2 a0 ∧ p3 a0) (k : ∀ a0, p0 a0 → p1 a0 → p2 a0 → p3 a0 → P) : P := h.elim fun a0 h => k a0 h.1 h.2.1 h.2.2.1 h.2.2.2
theorem e2a1 {α0 : Type} {α1 : Type} {p0 : α0 → α1 → Prop} {P : Prop} (h : ∃ a0 a1, p0 a0 a1) (k : ∀ a0 a1, p0 a0 a1 → P) : P := h.elim fun a0 h => h.elim fun a1 h => k a0 a1 h
theorem e2a2 {α0 : Type} {α1 : Type} {p0 p1 : α0 → α1 → Prop} {P : Prop} (h : ∃ a0 a1, p0 a0 a1 ∧ p1 a0 a1) (k : ∀ a0 a1, p0 a0 a1 → p1 a0 a1 → P) : P := h.elim fun a0 h => h.elim fun a1 h => k a0 a1 h.1 h.2
theorem e2a3 {α0 : Type} {α1 : Type} {p0 p1 p2 : α0 → α1 → Prop} {P : Prop} (h : ∃ a0 a1, p0 a0 a1 ∧ p1 a0 a1 ∧ p2 a0 a1) (k : ∀ a0 a1, p0 a0 a1 → p1 a0 a1 → p2 a0 a1 → P) : P := h.elim fun a0 h => h.elim fun a1 h => k a0 a1 h.1 h.2.1 h.2.2
theorem e2a4 {α0 : Type} {α1 : Type} {p0 p1 p2 p3 : α0 → α1 → Prop} {P : Prop} (h : ∃ a0 a1, p0 a0 a1 ∧ p1 a0 a1 ∧ p2 a0 a1 ∧ p3 a0 a1) (k : ∀ a0 a1, p0 a0 a1 → p1 a0 a1 → p2 a0 a1 → p3 a0 a1 → P) : P := h.elim fun a0 h => h.elim fun a1 h => k a0 a1 h.1 h.2.1 h.2.2.1 h.2.2.2
theorem e2a5 {α0 : Type} {α1 : Type} {p0 p1 p2 p3 p4 : α0 → α1 → Prop} {P : Prop} (h : ∃ a0 a1, p0 a0 a1 ∧ p1 a0 a1 ∧ p2 a0 a1 ∧ p3 a0 a1 ∧ p4 a0 a1) (k : ∀ a0 a1, p0 a0 a1 → p1 a0 a1 → p2 a0 a1 → p3 a0 a1 → p4 a0 a1 → P) : P := h.elim fun a0 h => h.elim fun a1 h => k a0 a1 h.1 h.2.1 h.2.2.1 h.2.2.2.1 h.2.2.2.2
theorem e3a1 {α0 : Type} {α1 : Type} {α2 : Type} {p0 : α0 → α1 → α2 → Prop} {P : Prop} (h : ∃ a0 a1 a2, p0 a0 a1 a2) (k : ∀ a0 a1 a2, p0 a0 a1 a2 → P) : P := h.elim fun a0 h => h.elim fun a1 h => h.elim fun a2 h => k a0 a1 a2 h
theorem e3a2 {α0 : Type} {α1 : Type} {α2 : Type} {p0 p1 : α0 → α1 → α2 → Prop} {P : Prop} (h : ∃ a0 a1 a2, p0 a0 a1 a2 ∧ p1 a0 a1 a2) (k : ∀ a0 a1 a2, p0 a0 a1 a2 → p1 a0 a1 a2 → P) : P := h.elim fun a0 h => h.elim fun a1 h => h.elim fun a2 h => k a0 a1 a2 h.1 h.2
theorem e3a3 {α0 : Type} {α1 : Type} {α2 : Type} {p0 p1 p2 : α0 → α1 → α2 → Prop} {P : Prop} (h : ∃ a0 a1 a2, p0 a0 a1 a2 ∧ p1 a0 a1 a2 ∧ p2 a0 a1 a2) (k : ∀ a0 a1 a2, p0 a0 a1 a2 → p1 a0 a1 a2 → p2 a0 a1 a2 → P) : P := h.elim fun a0 h => h.elim fun a1 h => h.elim fun a2 h => k a0 a1 a2 h.1 h.2.1 h.2.2
theorem e3a4 {α0 : Type} {α1 : Type} {α2 : Type} {p0 p1 p2 p3 : α0 → α1 → α2 → Prop} {P : Prop} (h : ∃ a0 a1 a2, p0 a0 a1 a2 ∧ p1 a0 a1 a2 ∧ p2 a0 a1 a2 ∧ p3 a0 a1 a2) (k : ∀ a0 a1 a2, p0 a0 a1 a2 → p1 a0 a1 a2 → p2 a0 a1 a2 → p3 a0 a1 a2 → P) : P := h.elim fun a0 h => h.elim fun a1 h => h.elim fun a2 h => k a0 a1 a2 h.1 h.2.1 h.2.2.1 h.2.2.2
theorem e3a6 {α0 : Type} {α1 : Type} {α2 : Type} {p0 p1 p2 p3 p4 p5 : α0 → α1 → α2 → Prop} {P : Prop} (h : ∃ a0 a1 a2, p0 a0 a1 a2 ∧ p1 a0 a1 a2 ∧ p2 a0 a1 a2 ∧ p3 a0 a1 a2 ∧ p4 a0 a1 a2 ∧ p5 a0 a1 a2) (k : ∀ a0 a1 a2, p0 a0 a1 a2 → p1 a0 a1 a2 → p2 a0 a1 a2 → p3 a0 a1 a2 → p4 a0 a1 a2 → p5 a0 a1 a2 → P) : P := h.elim fun a0 h => h.elim fun a1 h => h.elim fun a2 h => k a0 a1 a2 h.1 h.2.1 h.2.2.1 h.2.2.2.1 h.2.2.2.2.1 h.2.2.2.2.2
theorem e4a3 {α0 : Type} {α1 : Type} {α2 : Type} {α3 : Type} {p0 p1 p2 : α0 → α1 → α2 → α3 → Prop} {P : Prop} (h : ∃ a0 a1 a2 a3, p0 a0 a1 a2 a3 ∧ p1 a0 a1 a2 a3 ∧ p2 a0 a1 a2 a3) (k : ∀ a0 a1 a2 a3, p0 a0 a1 a2 a3 → p1 a0 a1 a2 a3 → p2 a0 a1 a2 a3 → P) : P := h.elim fun a0 h => h.elim fun a1 h => h.elim fun a2 h => h.elim fun a3 h => k a0 a1 a2 a3 h.1 h.2.1 h.2.2
theorem e4a4 {α0 : Type} {α1 : Type} {α2 : Type} {α3 : Type} {p0 p1 p2 p3 : α0 → α1 → α2 → α3 → Prop} {P : Prop} (h : ∃ a0 a1 a2 a3, p0 a0 a1 a2 a3 ∧ p1 a0 a1 a2 a3 ∧ p2 a0 a1 a2 a3 ∧ p3 a0 a1 a2 a3) (k : ∀ a0 a1 a2 a3, p0 a0 a1 a2 a3 → p1 a0 a1 a2 a3 → p2 a0 a1 a2 a3 → p3 a0 a1 a2 a3 → P) : P := h.elim fun a0 h => h.elim fun a1 h => h.elim fun a2 h => h.elim fun a3 h => k a0 a1 a2 a3 h.1 h.2.1 h.2.2.1 h.2.2.2
theorem e4a5 {α0 : Type} {α1 : Type} {α2 : Type} {α3 : Type} {p0 p1 p2 p3 p4 : α0 → α1 → α2 → α3 → Prop} {P : Prop} (h : ∃ a0 a1 a2 a3, p0 a0 a1 a2 a3 ∧ p1 a0 a1 a2 a3 ∧ p2 a0 a1 a2 a3 ∧ p3 a0 a1 a2 a3 ∧ p4 a0 a1 a2 a3) (k : ∀ a0 a1 a2 a3, p0 a0 a1 a2 a3 → p1 a0 a1 a2 a3 → p2 a0 a1 a2 a3 → p3 a0 a1 a2 a3 → p4 a0 a1 a2 a3 → P) : P := h.elim fun a0 h => h.elim fun a1 h => h.elim fun a2 h => h.elim fun a3 h => k a0 a1 a2 a3 h.1 h.2.1 h.2.2.1 h.2.2.2.1 h.2.2.2.2
theorem e4a6 {α0 : Type} {α1 : Type} {α2 : Type} {α3 : Type} {p0 p1 p2 p3 p4 p5 : α0 → α1 → α2 → α3 → Prop} {P : Prop} (h : ∃ a0 a1 a2 a3, p0 a0 a1 a2 a3 ∧ p1 a0 a1 a2 a3 ∧ p2 a0 a1 a2 a3 ∧ p3 a0 a1 a2 a3 ∧ p4 a0 a1 a2 a3 ∧ p5 a0 a1 a2 a3) (k : ∀ a0 a1 a2 a3, p0 a0 a1 a2 a3 → p1 a0 a1 a2 a3 → p2 a0 a1 a2 a3 → p3 a0 a1 a2 a3 → p4 a0 a1 a2 a3 → p5 a0 a1 a2 a3 → P) : P := h.elim fun a0 h => h.elim fun a1 h => h.elim fun a2 h => h.elim fun a3 h => k a0 a1 a2 a3 h.1 h.2.1 h.2.2.1 h.2.2.2.1 h.2.2.2.2.1 h.2.2.2.2.2
theorem e5a6 {α0 : Type} {α1 : Type} {α2 : Type} {α3 : Type} {α4 : Type} {p0 p1 p2 p3 p4 p5 : α0 → α1 → α2 → α3 → α4 → Prop} {P : Prop} (h : ∃ a0 a1 a2 a3 a4, p0 a0 a1 a2 a3 a4 ∧ p1 a0 a1 a2 a3 a4 ∧ p2 a0 a1 a2 a3 a4 ∧ p3 a0 a1 a2 a3 a4 ∧ p4 a0 a1 a2 a3 a4 ∧ p5 a0 a1 a2 a3 a4) (k : ∀ a0 a1 a2 a3 a4, p0 a0 a1 a2 a3 a4 → p1 a0 a1 a2 a3 a4 → p2 a0 a1 a2 a3 a4 → p3 a0 a1 a2 a3 a4 → p4 a0 a1 a2 a3 a4 → p5 a0 a1 a2 a3 a4 → P) : P := h.elim fun a0 h => h.elim fun a1 h => h.elim fun a2 h => h.elim fun a3 h => h.elim fun a4 h => k a0 a1 a2 a3 a4 h.1 h.2.1 h.2.2.1 h.2.2.2.1 h.2.2.2.2.1 h.2.2.2.2.2
theorem e6a6 {α0 : Type} {α1 : Type} {α2 : Type} {α3 : Type} {α4 : Type} {α5 : Type} {p0 p1 p2 p3 p4 p5 : α0 → α1 → α2 → α3 → α4 → α5 → Prop} {P : Prop} (h : ∃ a0 a1 a2 a3 a4 a5, p0 a0 a1 a2 a3 a4 a5 ∧ p1 a0 a1 a2 a3 a4 a5 ∧ p2 a0 a1 a2 a3 a4 a5 ∧ p3 a0 a1 a2 a3 a4 a5 ∧ p4 a0 a1 a2 a3 a4 a5 ∧ p5 a0 a1 a2 a3 a4 a5) (k : ∀ a0 a1 a2 a3 a4 a5, p0 a0 a1 a2 a3 a4 a5 → p1 a0 a1 a2 a3 a4 a5 → p2 a0 a1 a2 a3 a4 a5 → p3 a0 a1 a2 a3 a4 a5 → p4 a0 a1 a2 a3 a4 a5 → p5 a0 a1 a2 a3 a4 a5 → P) : P := h.elim fun a0 h => h.elim fun a1 h => h.elim fun a2 h => h.elim fun a3 h => h.elim fun a4 h => h.elim fun a5 h => k a0 a1 a2 a3 a4 a5 h.1 h.2.1 h.2.2.1 h.2.2.2.1 h.2.2.2.2.1 h.2.2.2.2.2
end Mine
end
section
set_option maxRecDepth 1000000
set_option maxHeartbeats 0
namespace Mine
theorem wellSaid0 : PySem.Challenge.rw_no0193_01.wellSaid = true := by
  delta OpenLaw.wellSaid
  delta OpenRow.wellSaid
  delta OpenRow.partSaid
  delta looksOpen
  repeat' with_reducible apply look_both
  all_goals (try rw [PySem.W.Fast.te8377067652309620493]); (try rw [PySem.W.Fast.te8326940854005059898]); (try rw [PySem.W.Fast.te17119622794617984870]); (try rw [PySem.W.Fast.named_eq]); decide +kernel
theorem said (h : PySem.Challenge.rw_no0193_01.row.wellSaid = true → PySem.Challenge.rw_no0193_01.row.Holds) : PySem.Challenge.rw_no0193_01.Holds := holds_law wellSaid0 h
end Mine
end
section
set_option maxRecDepth 1000000
namespace Mine
abbrev rowO : OpenRow := PySem.Challenge.rw_no0193_01.row
abbrev pp : Program := rowO.toRowW.1
noncomputable def kde (P : Params) (x : String) (t : Nat) (v : Value) : DictEntry := ⟨PyData.keyHash P (Str.ofString x), .str (Str.ofString x) t, v⟩
noncomputable def fAt (p : Program) (i : Nat) : Stmt := match p.main.body[i]? with | some s => s | none => .Pass ⟨0, 0, 0, 0⟩
noncomputable def mOf (s : Stmt) (j : Nat) : Stmt := match s with
  | .ClassDef _ _ _ body _ _ _ _ _ _ _ => (match body[j]? with | some s => s | none => .Pass ⟨0, 0, 0, 0⟩)
  | s => s
noncomputable def mAt (p : Program) (i j : Nat) : Stmt := mOf (fAt p i) j
noncomputable def stName : Stmt → Str | .FunctionDef n _ _ _ _ _ _ _ _ _ => n | _ => Str.ofString ""
noncomputable def stArgs : Stmt → Arguments | .FunctionDef _ a _ _ _ _ _ _ _ _ => a | _ => ⟨[], [], none, [], [], none, []⟩
noncomputable def stBody : Stmt → List Stmt | .FunctionDef _ _ b _ _ _ _ _ _ _ => b | _ => []
noncomputable def stScope : Stmt → Scope | .FunctionDef _ _ _ _ _ _ s _ _ _ => s | _ => { kind := .function, names := [], isGenerator := false, isCoroutine := false, more := [] }
noncomputable def kfd (st : Stmt) (q : String) (dV pm : Value) (c : Addr) : FuncData := fnOf (stName st) (Str.ofString q) (stArgs st) (stBody st) (stScope st) dV .none .none pm none (.ref c) .none
noncomputable def kfn (st : Stmt) (q : String) (dV pm : Value) (c : Addr) : Obj := ⟨.type "function", none, .func (kfd st q dV pm c), #[]⟩
noncomputable def Kof (p : Program) (P : Params) : Frag := [
  (3, ⟨.type "dict", none, .dict #[
    kde P "__name__" 165 (.str (Str.ofString "law_no0193_01") 1083),
    kde P "__doc__" 166 (.none),
    kde P "__package__" 167 (.none),
    kde P "__loader__" 168 (.builtin "__main__.__loader__#opaque"),
    kde P "__spec__" 169 (.none),
    kde P "__annotations__" 170 (.ref 6),
    kde P "__builtins__" 171 (.ref 4),
    kde P "__file__" 173 (.str (Str.ofString "/claim/cut.py") 172),
    kde P "__cached__" 174 (.none),
    kde P "_wall" 193 (.ref 21),
    kde P "ClausemillError" 215 (.ref 31),
    kde P "PrologError" 240 (.ref 51),
    kde P "A_NIL" 242 (.int 0 241),
    kde P "A_SYSTEM" 244 (.int 25 243),
    kde P "F_DOT" 246 (.int 0 245),
    kde P "F_MINUS1" 248 (.int 12 247),
    kde P "F_MINUS" 250 (.int 13 249),
    kde P "F_ERROR" 252 (.int 16 251),
    kde P "fixed_atoms" 258 (.ref 60),
    kde P "fixed_functors" 264 (.ref 67),
    kde P "Symbols" 384 (.ref 154),
    kde P "system_error" 393 (.ref 165),
    kde P "formal_of" 404 (.ref 172),
    kde P "resource_error" 412 (.ref 179),
    kde P "REF" 416 (.int 0 415),
    kde P "SRF" 418 (.int 1 417),
    kde P "STR" 420 (.int 2 419),
    kde P "LIS" 422 (.int 3 421),
    kde P "CON" 424 (.int 4 423),
    kde P "INT" 426 (.int 5 425),
    kde P "FUN" 428 (.int 6 427),
    kde P "VOID" 430 (.ref 180),
    kde P "Cells" 625 (.ref 324),
    kde P "Store" 690 (.ref 374),
    kde P "READ" 694 (.str (Str.ofString "read") 693),
    kde P "AT_E" 696 (.int 1 695),
    kde P "AT_CP" 698 (.int 2 697),
    kde P "AT_PREVIOUS" 700 (.int 3 699),
    kde P "AT_ALTERNATIVE" 702 (.int 4 701),
    kde P "AT_TRAIL" 704 (.int 5 703),
    kde P "AT_HEAP" 706 (.int 6 705),
    kde P "AT_B0" 708 (.int 7 707),
    kde P "EXTRA" 710 (.int 8 709),
    kde P "Areas" 938 (.ref 534),
    kde P "state_faults" 961 (.ref 545),
    kde P "environment_slots" 980 (.ref 552),
    kde P "slots" 994 (.ref 559),
    kde P "saved_length" 1002 (.ref 566),
    kde P "cell_trouble" 1017 (.ref 573),
    kde P "chain_troubles" 1034 (.ref 580),
    kde P "troubles" 1047 (.ref 587),
    kde P "heap_faults" 1059 (.ref 594),
    kde P "cell_fault" 1070 (.ref 601),
    kde P "stack_faults" 1082 (.ref 608),
    kde P "_law_row" 1095 (.ref 615),
    kde P "_law_next" 1102 (.ref 622),
    kde P "_law_code" 1108 (.ref 627),
    kde P "_law_size" 1115 (.ref 634),
    kde P "_law_pool" 1125 (.ref 641),
    kde P "_law_pick" 1133 (.ref 648),
    kde P "_law_bound" 1143 (.ref 655),
    kde P "_law_step" 1149 (.ref 660),
    kde P "_law_state" 1162 (.ref 667),
    kde P "_law_chain" 1172 (.ref 674),
    kde P "_law_broken" 1182 (.ref 681),
    kde P "_law_spoiled_cell" 1193 (.ref 688),
    kde P "_law_spoiled_rest" 1205 (.ref 695),
    kde P "law" 1211 (.ref 700)] 68, #[]⟩),
  (154, ⟨.type "type", none, .cls { name := Str.ofString "Symbols", bases := [.type "object"], mro := [.ref 154, .type "object"], ns := 153, qualname := Str.ofString "Symbols", subclasses := [] }, #[none, none, some (.str (Str.ofString "Symbols") 265), some (.str (Str.ofString "Symbols") 273), some (.builtin "object.__new__"), some (.bool true)]⟩),
  (153, ⟨.type "dict", none, .dict #[
    kde P "__module__" 272 (.str (Str.ofString "clausemill.symbols") 194),
    kde P "__firstlineno__" 276 (.int 21 275),
    kde P "__init__" 285 (.ref 81),
    kde P "atom" 295 (.ref 88),
    kde P "text" 303 (.ref 95),
    kde P "functor" 315 (.ref 102),
    kde P "func" 324 (.ref 109),
    kde P "name" 332 (.ref 116),
    kde P "arity" 340 (.ref 123),
    kde P "label" 348 (.ref 130),
    kde P "count" 355 (.ref 137),
    kde P "functor_count" 362 (.ref 144),
    kde P "known" 372 (.ref 151),
    kde P "__static_attributes__" 377 (.ref 152),
    kde P "__dict__" 379 (.ref 155),
    kde P "__weakref__" 381 (.ref 156),
    kde P "__doc__" 382 (.none)] 4, #[]⟩),
  (180, ⟨.type "tuple", none, .seq #[.int 5 425, .int 0 429] 0, #[]⟩),
  (188, ⟨.type "tuple", none, .seq #[.int 100000 443] 0, #[]⟩),
  (324, ⟨.type "type", none, .cls { name := Str.ofString "Cells", bases := [.type "object"], mro := [.ref 324, .type "object"], ns := 323, qualname := Str.ofString "Cells", subclasses := [.ref 374] }, #[none, none, some (.str (Str.ofString "Cells") 431), some (.str (Str.ofString "Cells") 439), some (.builtin "object.__new__"), some (.bool true)]⟩),
  (323, ⟨.type "dict", none, .dict #[
    kde P "__module__" 438 (.str (Str.ofString "clausemill.store") 413),
    kde P "__firstlineno__" 442 (.int 97 441),
    kde P "__init__" 452 (.ref 195),
    kde P "push" 461 (.ref 202),
    kde P "new_var" 469 (.ref 209),
    kde P "reserve" 479 (.ref 216),
    kde P "trim" 487 (.ref 223),
    kde P "deref" 497 (.ref 230),
    kde P "is_unbound" 505 (.ref 237),
    kde P "bind" 515 (.ref 244),
    kde P "bind_pair" 524 (.ref 251),
    kde P "globalise" 533 (.ref 258),
    kde P "mark" 540 (.ref 265),
    kde P "undo_to" 550 (.ref 272),
    kde P "stack_put" 560 (.ref 279),
    kde P "is_compound" 568 (.ref 286),
    kde P "functor_of" 576 (.ref 293),
    kde P "width" 584 (.ref 300),
    kde P "base" 592 (.ref 307),
    kde P "arg" 601 (.ref 314),
    kde P "new_block" 610 (.ref 321),
    kde P "__static_attributes__" 618 (.ref 322),
    kde P "__dict__" 620 (.ref 325),
    kde P "__weakref__" 622 (.ref 326),
    kde P "__doc__" 623 (.none)] 4, #[]⟩),
  (374, ⟨.type "type", none, .cls { name := Str.ofString "Store", bases := [.ref 324], mro := [.ref 374, .ref 324, .type "object"], ns := 373, qualname := Str.ofString "Store", subclasses := [] }, #[some (.ref 329), none, some (.str (Str.ofString "Store") 626), some (.str (Str.ofString "Store") 634), some (.builtin "object.__new__"), some (.bool true)]⟩),
  (373, ⟨.type "dict", none, .dict #[
    kde P "__module__" 633 (.str (Str.ofString "clausemill.store") 413),
    kde P "__firstlineno__" 637 (.int 223 636),
    kde P "new_struct" 651 (.ref 342),
    kde P "build_list" 660 (.ref 350),
    kde P "list_cells" 668 (.ref 357),
    kde P "put_term" 677 (.ref 364),
    kde P "take_term" 686 (.ref 371),
    kde P "__static_attributes__" 687 (.ref 372),
    kde P "__doc__" 688 (.none)] 2, #[]⟩),
  (384, ⟨.type "tuple", none, .seq #[.int 100000 723, .bool true, .int 4096 724] 0, #[]⟩),
  (534, ⟨.type "type", none, .cls { name := Str.ofString "Areas", bases := [.type "object"], mro := [.ref 534, .type "object"], ns := 533, qualname := Str.ofString "Areas", subclasses := [] }, #[none, none, some (.str (Str.ofString "Areas") 711), some (.str (Str.ofString "Areas") 719), some (.builtin "object.__new__"), some (.bool true)]⟩),
  (533, ⟨.type "dict", none, .dict #[
    kde P "__module__" 718 (.str (Str.ofString "clausemill.areas") 691),
    kde P "__firstlineno__" 722 (.int 259 721),
    kde P "__init__" 736 (.ref 391),
    kde P "reset" 743 (.ref 398),
    kde P "set_x" 752 (.ref 405),
    kde P "set_arguments" 760 (.ref 412),
    kde P "arg" 768 (.ref 419),
    kde P "unify" 777 (.ref 426),
    kde P "take" 785 (.ref 433),
    kde P "put" 793 (.ref 440),
    kde P "top" 800 (.ref 447),
    kde P "push_environment" 811 (.ref 454),
    kde P "pop_environment" 819 (.ref 461),
    kde P "in_chain" 828 (.ref 468),
    kde P "set_choice" 837 (.ref 475),
    kde P "push_choice" 851 (.ref 482),
    kde P "set_alternative" 859 (.ref 489),
    kde P "choice_part" 868 (.ref 496),
    kde P "restore_choice" 878 (.ref 503),
    kde P "pop_choice" 885 (.ref 510),
    kde P "cut_back" 893 (.ref 517),
    kde P "choices" 903 (.ref 524),
    kde P "environments" 912 (.ref 531),
    kde P "__static_attributes__" 931 (.ref 532),
    kde P "__dict__" 933 (.ref 535),
    kde P "__weakref__" 935 (.ref 536),
    kde P "__doc__" 936 (.none)] 4, #[]⟩),
  (60, kfn (fAt p 10) "fixed_atoms" (.none) (.str (Str.ofString "clausemill.symbols") 194) 59),
  (67, kfn (fAt p 11) "fixed_functors" (.none) (.str (Str.ofString "clausemill.symbols") 194) 66),
  (81, kfn (mAt p 12 0) "Symbols.__init__" (.none) (.str (Str.ofString "clausemill.symbols") 194) 80),
  (88, kfn (mAt p 12 1) "Symbols.atom" (.none) (.str (Str.ofString "clausemill.symbols") 194) 87),
  (102, kfn (mAt p 12 3) "Symbols.functor" (.none) (.str (Str.ofString "clausemill.symbols") 194) 101),
  (109, kfn (mAt p 12 4) "Symbols.func" (.none) (.str (Str.ofString "clausemill.symbols") 194) 108),
  (116, kfn (mAt p 12 5) "Symbols.name" (.none) (.str (Str.ofString "clausemill.symbols") 194) 115),
  (123, kfn (mAt p 12 6) "Symbols.arity" (.none) (.str (Str.ofString "clausemill.symbols") 194) 122),
  (195, kfn (mAt p 26 0) "Cells.__init__" (.ref 188) (.str (Str.ofString "clausemill.store") 413) 194),
  (202, kfn (mAt p 26 1) "Cells.push" (.none) (.str (Str.ofString "clausemill.store") 413) 201),
  (209, kfn (mAt p 26 2) "Cells.new_var" (.none) (.str (Str.ofString "clausemill.store") 413) 208),
  (216, kfn (mAt p 26 3) "Cells.reserve" (.none) (.str (Str.ofString "clausemill.store") 413) 215),
  (223, kfn (mAt p 26 4) "Cells.trim" (.none) (.str (Str.ofString "clausemill.store") 413) 222),
  (230, kfn (mAt p 26 5) "Cells.deref" (.none) (.str (Str.ofString "clausemill.store") 413) 229),
  (244, kfn (mAt p 26 7) "Cells.bind" (.none) (.str (Str.ofString "clausemill.store") 413) 243),
  (251, kfn (mAt p 26 8) "Cells.bind_pair" (.none) (.str (Str.ofString "clausemill.store") 413) 250),
  (258, kfn (mAt p 26 9) "Cells.globalise" (.none) (.str (Str.ofString "clausemill.store") 413) 257),
  (265, kfn (mAt p 26 10) "Cells.mark" (.none) (.str (Str.ofString "clausemill.store") 413) 264),
  (272, kfn (mAt p 26 11) "Cells.undo_to" (.none) (.str (Str.ofString "clausemill.store") 413) 271),
  (279, kfn (mAt p 26 12) "Cells.stack_put" (.none) (.str (Str.ofString "clausemill.store") 413) 278),
  (307, kfn (mAt p 26 16) "Cells.base" (.none) (.str (Str.ofString "clausemill.store") 413) 306),
  (321, kfn (mAt p 26 18) "Cells.new_block" (.none) (.str (Str.ofString "clausemill.store") 413) 320),
  (342, kfn (mAt p 27 0) "Store.new_struct" (.none) (.str (Str.ofString "clausemill.store") 413) 341),
  (391, kfn (mAt p 38 0) "Areas.__init__" (.ref 384) (.str (Str.ofString "clausemill.areas") 691) 390),
  (398, kfn (mAt p 38 1) "Areas.reset" (.none) (.str (Str.ofString "clausemill.areas") 691) 397),
  (405, kfn (mAt p 38 2) "Areas.set_x" (.none) (.str (Str.ofString "clausemill.areas") 691) 404),
  (447, kfn (mAt p 38 8) "Areas.top" (.none) (.str (Str.ofString "clausemill.areas") 691) 446),
  (454, kfn (mAt p 38 9) "Areas.push_environment" (.none) (.str (Str.ofString "clausemill.areas") 691) 453),
  (461, kfn (mAt p 38 10) "Areas.pop_environment" (.none) (.str (Str.ofString "clausemill.areas") 691) 460),
  (468, kfn (mAt p 38 11) "Areas.in_chain" (.none) (.str (Str.ofString "clausemill.areas") 691) 467),
  (475, kfn (mAt p 38 12) "Areas.set_choice" (.none) (.str (Str.ofString "clausemill.areas") 691) 474),
  (482, kfn (mAt p 38 13) "Areas.push_choice" (.none) (.str (Str.ofString "clausemill.areas") 691) 481),
  (496, kfn (mAt p 38 15) "Areas.choice_part" (.none) (.str (Str.ofString "clausemill.areas") 691) 495),
  (503, kfn (mAt p 38 16) "Areas.restore_choice" (.none) (.str (Str.ofString "clausemill.areas") 691) 502),
  (517, kfn (mAt p 38 18) "Areas.cut_back" (.none) (.str (Str.ofString "clausemill.areas") 691) 516),
  (524, kfn (mAt p 38 19) "Areas.choices" (.none) (.str (Str.ofString "clausemill.areas") 691) 523),
  (531, kfn (mAt p 38 20) "Areas.environments" (.none) (.str (Str.ofString "clausemill.areas") 691) 530),
  (545, kfn (fAt p 39) "state_faults" (.none) (.str (Str.ofString "clausemill.areas") 691) 544),
  (552, kfn (fAt p 41) "environment_slots" (.none) (.str (Str.ofString "clausemill.collector") 962) 551),
  (559, kfn (fAt p 42) "slots" (.none) (.str (Str.ofString "clausemill.collector") 962) 558),
  (566, kfn (fAt p 43) "saved_length" (.none) (.str (Str.ofString "clausemill.collector") 962) 565),
  (573, kfn (fAt p 45) "cell_trouble" (.none) (.str (Str.ofString "clausemill.livecheck") 1003) 572),
  (580, kfn (fAt p 46) "chain_troubles" (.none) (.str (Str.ofString "clausemill.livecheck") 1003) 579),
  (587, kfn (fAt p 47) "troubles" (.none) (.str (Str.ofString "clausemill.livecheck") 1003) 586),
  (594, kfn (fAt p 49) "heap_faults" (.none) (.str (Str.ofString "clausemill.storecheck") 1048) 593),
  (601, kfn (fAt p 50) "cell_fault" (.none) (.str (Str.ofString "clausemill.storecheck") 1048) 600),
  (608, kfn (fAt p 51) "stack_faults" (.none) (.str (Str.ofString "clausemill.storecheck") 1048) 607),
  (615, kfn (fAt p 53) "_law_row" (.none) (.str (Str.ofString "law_no0193_01") 1083) 614),
  (622, kfn (fAt p 54) "_law_next" (.none) (.str (Str.ofString "law_no0193_01") 1083) 621),
  (627, kfn (fAt p 55) "_law_code" (.none) (.str (Str.ofString "law_no0193_01") 1083) 626),
  (634, kfn (fAt p 56) "_law_size" (.none) (.str (Str.ofString "law_no0193_01") 1083) 633),
  (641, kfn (fAt p 57) "_law_pool" (.none) (.str (Str.ofString "law_no0193_01") 1083) 640),
  (648, kfn (fAt p 58) "_law_pick" (.none) (.str (Str.ofString "law_no0193_01") 1083) 647),
  (655, kfn (fAt p 59) "_law_bound" (.none) (.str (Str.ofString "law_no0193_01") 1083) 654),
  (660, kfn (fAt p 60) "_law_step" (.none) (.str (Str.ofString "law_no0193_01") 1083) 659),
  (667, kfn (fAt p 61) "_law_state" (.none) (.str (Str.ofString "law_no0193_01") 1083) 666),
  (674, kfn (fAt p 62) "_law_chain" (.none) (.str (Str.ofString "law_no0193_01") 1083) 673),
  (681, kfn (fAt p 63) "_law_broken" (.none) (.str (Str.ofString "law_no0193_01") 1083) 680),
  (688, kfn (fAt p 64) "_law_spoiled_cell" (.none) (.str (Str.ofString "law_no0193_01") 1083) 687),
  (695, kfn (fAt p 65) "_law_spoiled_rest" (.none) (.str (Str.ofString "law_no0193_01") 1083) 694),
  (700, kfn (fAt p 66) "law" (.none) (.str (Str.ofString "law_no0193_01") 1083) 699)]
noncomputable def codeTab : List (Addr × Str) := [
  (59, Str.ofString "fixed_atoms"),
  (66, Str.ofString "fixed_functors"),
  (80, Str.ofString "Symbols.__init__"),
  (87, Str.ofString "Symbols.atom"),
  (101, Str.ofString "Symbols.functor"),
  (108, Str.ofString "Symbols.func"),
  (115, Str.ofString "Symbols.name"),
  (122, Str.ofString "Symbols.arity"),
  (194, Str.ofString "Cells.__init__"),
  (201, Str.ofString "Cells.push"),
  (208, Str.ofString "Cells.new_var"),
  (215, Str.ofString "Cells.reserve"),
  (222, Str.ofString "Cells.trim"),
  (229, Str.ofString "Cells.deref"),
  (243, Str.ofString "Cells.bind"),
  (250, Str.ofString "Cells.bind_pair"),
  (257, Str.ofString "Cells.globalise"),
  (264, Str.ofString "Cells.mark"),
  (271, Str.ofString "Cells.undo_to"),
  (278, Str.ofString "Cells.stack_put"),
  (306, Str.ofString "Cells.base"),
  (320, Str.ofString "Cells.new_block"),
  (341, Str.ofString "Store.new_struct"),
  (390, Str.ofString "Areas.__init__"),
  (397, Str.ofString "Areas.reset"),
  (404, Str.ofString "Areas.set_x"),
  (446, Str.ofString "Areas.top"),
  (453, Str.ofString "Areas.push_environment"),
  (460, Str.ofString "Areas.pop_environment"),
  (467, Str.ofString "Areas.in_chain"),
  (474, Str.ofString "Areas.set_choice"),
  (481, Str.ofString "Areas.push_choice"),
  (495, Str.ofString "Areas.choice_part"),
  (502, Str.ofString "Areas.restore_choice"),
  (516, Str.ofString "Areas.cut_back"),
  (523, Str.ofString "Areas.choices"),
  (530, Str.ofString "Areas.environments"),
  (544, Str.ofString "state_faults"),
  (551, Str.ofString "environment_slots"),
  (558, Str.ofString "slots"),
  (565, Str.ofString "saved_length"),
  (572, Str.ofString "cell_trouble"),
  (579, Str.ofString "chain_troubles"),
  (586, Str.ofString "troubles"),
  (593, Str.ofString "heap_faults"),
  (600, Str.ofString "cell_fault"),
  (607, Str.ofString "stack_faults"),
  (614, Str.ofString "_law_row"),
  (621, Str.ofString "_law_next"),
  (626, Str.ofString "_law_code"),
  (633, Str.ofString "_law_size"),
  (640, Str.ofString "_law_pool"),
  (647, Str.ofString "_law_pick"),
  (654, Str.ofString "_law_bound"),
  (659, Str.ofString "_law_step"),
  (666, Str.ofString "_law_state"),
  (673, Str.ofString "_law_chain"),
  (680, Str.ofString "_law_broken"),
  (687, Str.ofString "_law_spoiled_cell"),
  (694, Str.ofString "_law_spoiled_rest"),
  (699, Str.ofString "law")]
noncomputable def kAddrs : List Addr := [3, 154, 153, 180, 188, 324, 323, 374, 373, 384, 534, 533, 60, 67, 81, 88, 102, 109, 116, 123, 195, 202, 209, 216, 223, 230, 244, 251, 258, 265, 272, 279, 307, 321, 342, 391, 398, 405, 447, 454, 461, 468, 475, 482, 496, 503, 517, 524, 531, 545, 552, 559, 566, 573, 580, 587, 594, 601, 608, 615, 622, 627, 634, 641, 648, 655, 660, 667, 674, 681, 688, 695, 700]
noncomputable def codeOk (h : Heap) (c : Addr) (q : Str) : Bool := match h.get? c with
  | some ⟨_, _, .fields vs, _⟩ => (match vs.toList with | _ :: .str n _ :: _ => n == q | _ => false)
  | _ => false
theorem codeOk_rec {h : Heap} {c : Addr} {q : Str} (e : codeOk h c q = true) : h.CodeRec (.ref c) q := by
  unfold codeOk at e
  split at e
  · rename_i vs _ ho
    split at e
    · rename_i a n t r hv
      exact ⟨_, _, vs, t, rfl, ho, rfl, by rw [← Array.getElem?_toList, hv, ← beq_iff_eq.mp e]; rfl⟩
    · cases e
  · cases e
noncomputable def obsK (s : Shared) : List (Option Obj) × Bool := (kAddrs.map s.heap.get?, codeTab.all fun x => codeOk s.heap x.1 x.2)
theorem kAddrs_eq (p : Program) (P : Params) : kAddrs = (Kof p P).map (·.1) := rfl
noncomputable def saysK (w : World) (h : Heap) : Prop := (Kof pp w.params).In h ∧ ∀ x ∈ codeTab, h.CodeRec (.ref x.1) x.2
theorem saysK_of (w : World) (s : Shared) (e : obsK s = ((Kof pp w.params).map fun p => some p.2, true)) : saysK w s.heap := by
  obtain ⟨e1, e2⟩ := Prod.mk.inj e
  exact ⟨Frag.in_of (kAddrs_eq _ _) e1, fun x hx => codeOk_rec (List.all_eq_true.mp e2 x hx)⟩
theorem saysK_keeps (w : World) (h h' : Heap) (x : saysK w h) (k : ∀ b o, h.get? b = some o → h'.get? b = some o) : saysK w h' :=
  ⟨x.1.keeps k, fun y hy => (x.2 y hy).keeps k⟩
noncomputable def qq (p : Program) : Program := view p [66]
noncomputable def looseL (p : Program) : List Str := (p.main.scope.names.filter (fun x => x.2 == .local && x.1 != Str.mk #[108, 97, 119])).map (·.1)
noncomputable def bootT (P : Params) : BT := ((boot_heap P).objs.toList.zipIdx).foldl (fun t (o : Obj × Nat) => t.ins o.2 o.1) BT.nil
theorem bootT_abs (P : Params) : absHeap (bootT P) 11 (boot_heap P).life = boot_heap P := by kernel_rfl!
noncomputable def CheckStmt (SR : (String → Option Builtin) → Program → World → Nat → Option Value → Nat → Nat → SharedT → Thread → Option (Flow × SharedT × Code × Pos)) (tb : String → Option Builtin) (p : Program)
    (im : List Stmt → List Str) (sn : type_of% @openSeen) : Prop :=
  ∀ w : World, (fun os => (SR tb p w 11 (some (PySem.Value.ref 6)) 0 4500
      ⟨bootT w.params, 11, (boot_heap w.params).life, Array.mk [], boot_drawn, boot_toks, os⟩ (topStub p)).map fun r =>
        ((staticsOk (im p.main.body) (boot_heap w.params) r.2.1.abs.heap && namesBound p r.2.1.abs.heap && gensDone r.2.1.abs && laidKept (boot_heap w.params) r.2.1.abs.heap),
          sn (qq p) (looseL p) (im p.main.body) (fun _ => true) true r.2.1.abs, obsK r.2.1.abs)) =
   fun _ => some (true, openGood (qq p) (looseL p), ((Kof p w.params).map fun p => some p.2, true))
set_option maxHeartbeats 0 in
theorem checkQ : CheckStmt PySem.W.Fast.tw10110043849684766642 PySem.W.Fast.tw14364793385576792824 pp PySem.W.Fast.tw5923862056798008813 PySem.W.Fast.tw4187177175401517315 := by
  unfold CheckStmt
  intro w
  kernel_rfl!
end Mine
end
section
set_option tactic.hygienic false
set_option maxRecDepth 1000000
namespace Mine
theorem endAt0 {t : Thread} {f : Flow} (h : endAt 0 t = some f) : through t = true := by
  obtain ⟨cur, code, pos, stack⟩ := t
  cases stack with
  | nil => cases cur with
    | pure fin => cases fin with
      | done f => rfl
      | again c => exact absurd h (by intro h; cases h)
    | _ => exact absurd h (by intro h; cases h)
  | cons a r => cases cur <;> exact absurd h (by intro h; cases h)
theorem through0 {t : Thread} (h : endAt 0 t = none) : through t = false := by
  obtain ⟨cur, code, pos, stack⟩ := t
  cases stack with
  | nil => cases cur with
    | pure fin => cases fin with
      | done f => exact absurd h (by intro h; cases h)
      | again c => rfl
    | _ => rfl
  | cons a r => rfl
theorem top_of_seg {tb : String → Option Builtin} {p : Program} {w : World} {n₀ : Nat} {ann : Option Value} : ∀ {n : Nat} {s s' : Shared} {t : Thread} {f : Flow} {c : Code} {q : Pos},
    segRun tb p w n₀ ann 0 n s t = some (f, s', c, q) → topRun tb p w n₀ ann n s t = some s'
  | 0, _, _, _, _, _, _, h => by cases h
  | n + 1, s, s', t, f, c, q, h => by
    unfold segRun at h
    unfold topRun
    cases he : endAt 0 t with
    | some x => rw [he] at h; cases h; rw [endAt0 he]
    | none =>
      rw [he] at h
      rw [through0 he]
      dsimp only at h ⊢
      cases hk : stepOk n₀ ann t with
      | false => rw [hk] at h; cases h
      | true =>
        rw [hk] at h
        dsimp only at h ⊢
        cases hs : step (denote tb) p w s t with
        | halt o s' => rw [hs] at h; cases h
        | go s₂ t₂ => rw [hs] at h; exact top_of_seg h
theorem checkP : CheckStmt segRunT treeTable pp importedModules openSeen := by
  rw [PySem.W.Fast.te10110043849684766642, PySem.W.Fast.te14364793385576792824, PySem.W.Fast.te5923862056798008813, PySem.W.Fast.te4187177175401517315]
  exact checkQ
theorem opens : opening pp = plainProg pp.main.scope.names := by kernel_rfl!
theorem fence_pp (s : Shared) : fenceModules? pp s = some s := by kernel_rfl!
theorem boot_ns (P : Params) : ((boot_heap P).isNs mainGlobals && (Array.mk ([] : List GenState)).size == 0, (boot_heap P).objs.size, (boot_heap P).nsMap mainGlobals "__annotations__") = (true, 11, some (PySem.Value.ref 6)) := by kernel_rfl!
theorem leftO_gen {p q : Program} {loose : List Str} {α : Type} {Yf : Shared → α} {Ya : World → α} {N m₀ n₀ : Nat} {H₀ : Params → Heap} {T₀ : Params → BT} {life : Params → Life} {gs : Array GenState} {d : Drawn} {k : Nat} {ann : Option Value}
    (open_ : ∀ w : World, (fencedOpening treeTable p w N).map (fun s => (s.heap, s.gens, s.drawn, s.toks)) = some (H₀ w.params, gs, d, k))
    (size : ∀ w : World, ((H₀ w.params).isNs mainGlobals && gs.size == 0, (H₀ w.params).objs.size, (H₀ w.params).nsMap mainGlobals "__annotations__") = (true, m₀, ann))
    (abs : ∀ P, absHeap (T₀ P) n₀ (life P) = H₀ P)
    (check : ∀ w : World, (fun os => (segRunT treeTable p w m₀ ann 0 N ⟨T₀ w.params, n₀, life w.params, gs, d, k, os⟩ (topStub p)).map fun r =>
        ((staticsOk (importedModules p.main.body) (H₀ w.params) r.2.1.abs.heap && namesBound p r.2.1.abs.heap && gensDone r.2.1.abs && laidKept (H₀ w.params) r.2.1.abs.heap),
          openSeen q loose (importedModules p.main.body) (fun _ => true) true r.2.1.abs, Yf r.2.1.abs)) = fun _ => some (true, openGood q loose, Ya w)) :
    LeftO p q loose (fun _ => true) Yf Ya N := fun w => by
  obtain ⟨⟨h, gs, d, k, os⟩, e, e'⟩ := Option.map_eq_some_iff.mp (open_ w)
  obtain ⟨rfl, rfl, rfl, rfl⟩ : h = H₀ w.params ∧ gs = _ ∧ d = _ ∧ k = _ := by simpa using e'
  obtain ⟨z1, z2, z3⟩ : _ ∧ _ ∧ _ := by simpa only [Prod.mk.injEq] using size w
  obtain ⟨⟨f, sT, c, q'⟩, hr, hl⟩ := Option.map_eq_some_iff.mp (congrFun (check w) os)
  have r := top_of_seg (segRun_of hr)
  have hS : (SharedT.abs ⟨T₀ w.params, n₀, life w.params, gs, d, k, os⟩) = ⟨H₀ w.params, gs, d, k, os⟩ := by
    unfold SharedT.abs
    rw [abs]
  rw [hS] at r
  obtain ⟨l1, l2, l3⟩ : _ ∧ _ ∧ _ := by simpa only [Prod.mk.injEq] using hl
  have t : topFrom treeTable p w N ⟨H₀ w.params, gs, d, k, os⟩ = some sT.abs := by
    unfold topFrom
    dsimp only
    rw [z1, z2, z3, r]
    show (match staticsOk (importedModules p.main.body) (H₀ w.params) sT.abs.heap && namesBound p sT.abs.heap && gensDone sT.abs && laidKept (H₀ w.params) sT.abs.heap with | true => _ | false => _) = _
    rw [l1]
  unfold openEnds
  rw [e]
  show (topFrom treeTable p w N _).map _ = _
  rw [t]
  exact congrArg some (Prod.ext l2 l3)
theorem leftO : LeftO pp (qq pp) (looseL pp) (fun _ => true) obsK (fun w => ((Kof pp w.params).map fun p => some p.2, true)) 4500 :=
  leftO_gen (H₀ := boot_heap) (T₀ := bootT) (n₀ := 11) (m₀ := 11) (life := fun P => (boot_heap P).life) (boot_open opens (by decide) fence_pp) (fun w => boot_ns w.params) bootT_abs checkP
end Mine
end
section
set_option tactic.hygienic false
set_option maxRecDepth 1000000
namespace Mine
noncomputable def dLaw : DefRec := match defOf (qq pp) rowO.name with | some (d, _) => d | none => ⟨Str.ofString "law", stArgs (fAt pp 66), stBody (fAt pp 66), stScope (fAt pp 66), ⟨0, 0, 0, 0⟩⟩
structure Stat (w : World) (h : Heap) : Prop where
  K : (Kof pp w.params).In h
  codes : ∀ x ∈ codeTab, h.CodeRec (.ref x.1) x.2
  top : ∃ (s₀ : Shared) (mg mb : Str → Option Value), Top (qq pp) (looseW (qq pp) (looseL pp)) (ExcName.means s₀.heap) mg mb h
noncomputable def MainSt : Prop := ∀ (w : World) (s : Shared) (b : Addr) (vs : List Value) (ns : List Int), Stat w s.heap → s.gens = #[] → s.heap.IsList b vs.toArray → IntsAre vs ns → ns.length ≤ 63 →
  wpAny (model pp w) callerA (PySem.call (.ref 700) [.ref b]) (fun v s' => v = .bool true ∧ (∀ a o, s.heap.get? a = some o → s'.heap.get? a = some o) ∧ s'.os = s.os ∧ s'.gens = #[]) (fun _ _ => False) s
set_option maxHeartbeats 4000000 in
theorem row_holds (main : MainSt) (k1 : rowO.wellSaid = true) : rowO.Holds := by
  refine holds_open (q := qq pp) (loose := looseL pp) (Xt := fun _ => true) (XP := fun _ _ => True) (Yf := obsK) (Ya := fun w => ((Kof pp w.params).map fun p => some p.2, true)) (YP := saysK) (N := 4500)
    leftO (fun w s e => saysK_of w s e) (fun w h h' x k => saysK_keeps w h h' x k) (fun _ _ => trivial) (fun _ _ _ _ _ => trivial) (d := dLaw) (kwd := []) (by kernel_rfl!) (by kernel_rfl!) (by kernel_rfl!) (fun s _ => recFacts_nil rfl) (by kernel_rfl!) ?k1 (by kernel_rfl!) ⟨by kernel_rfl!, by kernel_rfl!, by kernel_rfl!, by kernel_rfl!, by kernel_rfl!, by decide +kernel⟩ ?hw ?call
  case k1 => exact k1
  case hw => w_witness2
  case call =>
    intro w s₀ s₁ mg mb G Y a o pm cd doc dV kV ho hd hcd hD hmg hg args vals as hpre hlay hrd hwl hlo
    have S : Stat w s₁.heap := ⟨Y.1, Y.2, s₀, mg, mb, G.T⟩
    wrow_args hpre hlay hrd hwl hlo
    have ha : a = 700 := by
      have e : mg (Str.ofString "law") = some (.ref 700) := mg_of (K := Kof pp w.params) Y.1 G.T.g (by kernel_rfl!)
      have e2 : dLaw.name = Str.ofString "law" := by kernel_rfl!
      rw [e2, e] at hmg
      cases hmg
      rfl
    subst ha
    rename s₁.heap.IsList _ _ => hL
    rename IntsAre _ _ => hI
    rename ¬ _ => hlen
    refine wpAny_mono (main w s₁ _ _ _ S hg hL hI (by lia)) (fun v s' hq => ?_) (fun _ _ hq => hq.elim)
    obtain ⟨rfl, hk, hos, hgs⟩ := hq
    refine GoodW.toG ⟨.inl ⟨.bool true, .bool true, [], rfl, fun cls => rfl, .bool true, ?_, fun _ => ⟨.nil, fun a ha => (nomatch ha)⟩⟩, hk, hos, hgs⟩
    exact postW_of rfl (w_eq_bool (w_res rfl) w_lit) rfl
theorem all_holds (main : MainSt) : PySem.Challenge.rw_no0193_01.Holds := said (row_holds main)
end Mine
end
section
set_option tactic.hygienic false
namespace Mine
noncomputable def tab {α : Type} (d : α) : List α → Nat → α
  | [], _ => d
  | a :: _, 0 => a
  | _ :: l, n + 1 => tab d l n
abbrev At := Fin 27
noncomputable abbrev At.symbols : At := 0
noncomputable abbrev At.max_heap : At := 1
noncomputable abbrev At.heap : At := 2
noncomputable abbrev At.stack : At := 3
noncomputable abbrev At.trail : At := 4
noncomputable abbrev At.hb : At := 5
noncomputable abbrev At.bb : At := 6
noncomputable abbrev At.code : At := 7
noncomputable abbrev At.occurs : At := 8
noncomputable abbrev At.max_bits : At := 9
noncomputable abbrev At.store : At := 10
noncomputable abbrev At.x : At := 11
noncomputable abbrev At.p : At := 12
noncomputable abbrev At.cp : At := 13
noncomputable abbrev At.e : At := 14
noncomputable abbrev At.b : At := 15
noncomputable abbrev At.b0 : At := 16
noncomputable abbrev At.mode : At := 17
noncomputable abbrev At.s : At := 18
noncomputable abbrev At.guard : At := 19
noncomputable abbrev At.roots : At := 20
noncomputable abbrev At.bags : At := 21
noncomputable abbrev At.collect_wanted : At := 22
noncomputable abbrev At.texts : At := 23
noncomputable abbrev At.atom_numbers : At := 24
noncomputable abbrev At.functors : At := 25
noncomputable abbrev At.functor_numbers : At := 26
noncomputable def At.name (a : At) : Str := tab (α := Str) "" ["symbols", "max_heap", "heap", "stack", "trail", "hb", "bb", "code", "occurs", "max_bits", "store", "x", "p", "cp", "e", "b", "b0", "mode", "s", "guard", "roots", "bags", "collect_wanted", "texts", "atom_numbers", "functors", "functor_numbers"] a.1
noncomputable def atAll : List At := List.finRange 27
theorem at_mem (a : At) : a ∈ atAll := List.mem_finRange a
theorem at_inj {a b : At} (h : a.name = b.name) : a = b := by
  have k : ∀ a ∈ atAll, ∀ b ∈ atAll, a.name = b.name → a = b := by decide +kernel
  exact k a (at_mem a) b (at_mem b) h
abbrev Mt := Fin 32
noncomputable abbrev Mt.atom : Mt := 0
noncomputable abbrev Mt.functor : Mt := 1
noncomputable abbrev Mt.func : Mt := 2
noncomputable abbrev Mt.name : Mt := 3
noncomputable abbrev Mt.arity : Mt := 4
noncomputable abbrev Mt.push : Mt := 5
noncomputable abbrev Mt.new_var : Mt := 6
noncomputable abbrev Mt.reserve : Mt := 7
noncomputable abbrev Mt.trim : Mt := 8
noncomputable abbrev Mt.deref : Mt := 9
noncomputable abbrev Mt.bind : Mt := 10
noncomputable abbrev Mt.bind_pair : Mt := 11
noncomputable abbrev Mt.globalise : Mt := 12
noncomputable abbrev Mt.mark : Mt := 13
noncomputable abbrev Mt.undo_to : Mt := 14
noncomputable abbrev Mt.stack_put : Mt := 15
noncomputable abbrev Mt.base : Mt := 16
noncomputable abbrev Mt.new_block : Mt := 17
noncomputable abbrev Mt.new_struct : Mt := 18
noncomputable abbrev Mt.reset : Mt := 19
noncomputable abbrev Mt.set_x : Mt := 20
noncomputable abbrev Mt.top : Mt := 21
noncomputable abbrev Mt.push_environment : Mt := 22
noncomputable abbrev Mt.pop_environment : Mt := 23
noncomputable abbrev Mt.in_chain : Mt := 24
noncomputable abbrev Mt.set_choice : Mt := 25
noncomputable abbrev Mt.push_choice : Mt := 26
noncomputable abbrev Mt.choice_part : Mt := 27
noncomputable abbrev Mt.restore_choice : Mt := 28
noncomputable abbrev Mt.cut_back : Mt := 29
noncomputable abbrev Mt.choices : Mt := 30
noncomputable abbrev Mt.environments : Mt := 31
noncomputable def Mt.nm (m : Mt) : Str := tab (α := Str) "" ["atom", "functor", "func", "name", "arity", "push", "new_var", "reserve", "trim", "deref", "bind", "bind_pair", "globalise", "mark", "undo_to", "stack_put", "base", "new_block", "new_struct", "reset", "set_x", "top", "push_environment", "pop_environment", "in_chain", "set_choice", "push_choice", "choice_part", "restore_choice", "cut_back", "choices", "environments"] m.1
noncomputable def mtAll : List Mt := List.finRange 32
theorem mt_mem (a : Mt) : a ∈ mtAll := List.mem_finRange a
theorem at_ne_mt (a : At) (m : Mt) : a.name ≠ m.nm := by
  have k : ∀ a ∈ atAll, ∀ m ∈ mtAll, a.name ≠ m.nm := by decide +kernel
  exact k a (at_mem a) m (mt_mem m)
noncomputable def methOf (C : Addr) (m : Mt) : Option Addr := match tab (0, 0) [(154, 88), (154, 102), (154, 109), (154, 116), (154, 123), (374, 202), (374, 209), (374, 216), (374, 223), (374, 230), (374, 244), (374, 251), (374, 258), (374, 265), (374, 272), (374, 279), (374, 307), (374, 321), (374, 342), (534, 398), (534, 405), (534, 447), (534, 454), (534, 461), (534, 468), (534, 475), (534, 482), (534, 496), (534, 503), (534, 517), (534, 524), (534, 531)] m.1 with | (D, f) => if C = D then some f else none
noncomputable def ownCls : List Addr := [154, 374, 534]
inductive AV where
  | d (x : PyData)
  | ref (i : Nat)
  | tmp (a : Addr)
  | glob (v : Value)
  | mk (a b : AV)
inductive AO where
  | list (vs : List AV)
  | inst (C : Addr) (fs : List (At × AV))
  | dS (kvs : List (Str × AV))
  | dI (kvs : List (Int × AV))
  | dT (kvs : List (List Int × AV))
abbrev Tm := Addr → Option AO
abbrev RefMap := List (Addr × Addr)
noncomputable def lid : Nat := 4000000
inductive Rep (ρ : RefMap) (h : Heap) : Value → AV → Prop
  | d {v x} : Reads h v x [] → Rep ρ h v (.d x)
  | ref {i a e} : ρ[i]? = some (a, e) → Rep ρ h (.ref a) (.ref i)
  | tmp {a} : Rep ρ h (.ref a) (.tmp a)
  | glob {v} : Rep ρ h v (.glob v)
  | mk {t n v1 v2 a b} : h.get? t = some ⟨.type "tuple", none, .seq #[v1, v2] n, #[]⟩ → Rep ρ h v1 a → Rep ρ h v2 b → Rep ρ h (.ref t) (.mk a b)
inductive RepL (ρ : RefMap) (h : Heap) : List Value → List AV → Prop
  | nil : RepL ρ h [] []
  | cons {v vs a as} : Rep ρ h v a → RepL ρ h vs as → RepL ρ h (v :: vs) (a :: as)
inductive RepK {K : Type} (ρ : RefMap) (h : Heap) : List (K × Value) → List (K × AV) → Prop
  | nil : RepK ρ h [] []
  | cons {k v vs a as} : Rep ρ h v a → RepK ρ h vs as → RepK ρ h ((k, v) :: vs) ((k, a) :: as)
inductive RepA (ρ : RefMap) (h : Heap) : List DictEntry → List (At × AV) → Prop
  | nil : RepA ρ h [] []
  | cons {e es k t v a as} : e.key = .str (At.name k) t → e.val = v → Rep ρ h v a → RepA ρ h es as → RepA ρ h (e :: es) ((k, a) :: as)
noncomputable def TupObj (o : Obj) : Prop := o.cls = .type "tuple" ∧ ∃ its n, o.data = .seq its n
noncomputable def TupStay (h h' : Heap) : Prop := ∀ a o, h.get? a = some o → TupObj o → h'.get? a = some o
theorem TupStay.refl (h : Heap) : TupStay h h := fun _ _ e _ => e
theorem TupStay.trans {a b c : Heap} (x : TupStay a b) (y : TupStay b c) : TupStay a c := fun p o e q => y p o (x p o e q) q
theorem TupStay.of_keep {h h' : Heap} (k : ∀ b o, h.get? b = some o → h'.get? b = some o) : TupStay h h' := fun a o e _ => k a o e
theorem reads_stay {h h' : Heap} (k : TupStay h h') {v x as} (r : Reads h v x as) : as = [] → Reads h' v x [] :=
  Reads.rec (motive_1 := fun v x as _ => as = [] → Reads h' v x []) (motive_2 := fun v x as _ => as = [] → ReadsAll h' v x []) (fun _ => .none) (fun b _ => .bool b) (fun i t _ => .int i t) (fun x t _ => .str x t) (fun _ _ _ _ _ e => (List.cons_ne_nil _ _ e).elim)
    (fun ho hc hd _ i e => .tuple (k _ _ ho ⟨hc, _, _, hd⟩) hc hd (i e)) (fun _ _ _ _ _ _ _ e => (List.cons_ne_nil _ _ e).elim)
    (fun _ => .nil) (fun _ _ i j e => .cons (as := []) (i (List.append_eq_nil_iff.mp e).1) (j (List.append_eq_nil_iff.mp e).2)) r
theorem readsAll_stay {h h' : Heap} (k : TupStay h h') {v x as} (r : ReadsAll h v x as) : as = [] → ReadsAll h' v x [] :=
  ReadsAll.rec (motive_1 := fun v x as _ => as = [] → Reads h' v x []) (motive_2 := fun v x as _ => as = [] → ReadsAll h' v x []) (fun _ => .none) (fun b _ => .bool b) (fun i t _ => .int i t) (fun x t _ => .str x t) (fun _ _ _ _ _ e => (List.cons_ne_nil _ _ e).elim)
    (fun ho hc hd _ i e => .tuple (k _ _ ho ⟨hc, _, _, hd⟩) hc hd (i e)) (fun _ _ _ _ _ _ _ e => (List.cons_ne_nil _ _ e).elim)
    (fun _ => .nil) (fun _ _ i j e => .cons (as := []) (i (List.append_eq_nil_iff.mp e).1) (j (List.append_eq_nil_iff.mp e).2)) r
theorem Rep.stay {ρ ρ' : RefMap} {h h' : Heap} (k : TupStay h h') (p : ∀ (i : Nat) q, ρ[i]? = some q → ρ'[i]? = some q) {v a} (r : Rep ρ h v a) : Rep ρ' h' v a := by
  induction r with
  | d r => exact .d (reads_stay k r rfl)
  | ref e => exact .ref (p _ _ e)
  | tmp => exact .tmp
  | glob => exact .glob
  | mk e _ _ i1 i2 => exact .mk (k _ _ e ⟨rfl, _, _, rfl⟩) i1 i2
theorem RepL.stay {ρ ρ' : RefMap} {h h' : Heap} (k : TupStay h h') (p : ∀ (i : Nat) q, ρ[i]? = some q → ρ'[i]? = some q) {v a} (r : RepL ρ h v a) : RepL ρ' h' v a := by
  induction r with
  | nil => exact .nil
  | cons x _ i => exact .cons (x.stay k p) i
theorem RepK.stay {K : Type} {ρ ρ' : RefMap} {h h' : Heap} (k : TupStay h h') (p : ∀ (i : Nat) q, ρ[i]? = some q → ρ'[i]? = some q) {v : List (K × Value)} {a} (r : RepK ρ h v a) : RepK ρ' h' v a := by
  induction r with
  | nil => exact .nil
  | cons x _ i => exact .cons (x.stay k p) i
theorem RepA.stay {ρ ρ' : RefMap} {h h' : Heap} (k : TupStay h h') (p : ∀ (i : Nat) q, ρ[i]? = some q → ρ'[i]? = some q) {v a} (r : RepA ρ h v a) : RepA ρ' h' v a := by
  induction r with
  | nil => exact .nil
  | cons x y z _ i => exact .cons x y (z.stay k p) i
theorem RepL.length {ρ : RefMap} {h : Heap} {v a} (r : RepL ρ h v a) : v.length = a.length := by
  induction r with
  | nil => rfl
  | cons _ _ i => simp [i]
theorem RepL.get {ρ : RefMap} {h : Heap} {v a} (r : RepL ρ h v a) : ∀ {i : Nat} {x}, a[i]? = some x → ∃ y, v[i]? = some y ∧ Rep ρ h y x := by
  induction r with
  | nil => intro i x e; simp at e
  | @cons v vs a as x _ ih =>
    intro i y e
    cases i with
    | zero => simp at e; subst e; exact ⟨v, rfl, x⟩
    | succ i => exact ih (by simpa using e)
theorem RepL.append {ρ : RefMap} {h : Heap} {v a v' a'} (r : RepL ρ h v a) (r' : RepL ρ h v' a') : RepL ρ h (v ++ v') (a ++ a') := by
  induction r with
  | nil => exact r'
  | cons x _ i => exact .cons x i
theorem RepL.set {ρ : RefMap} {h : Heap} {v a} (r : RepL ρ h v a) {y x} (q : Rep ρ h y x) : ∀ i : Nat, RepL ρ h (v.set i y) (a.set i x) := by
  induction r with
  | nil => intro i; exact .nil
  | cons z t ih => intro i; cases i with
    | zero => exact .cons q t
    | succ i => exact .cons z (ih i)
theorem RepL.drop {ρ : RefMap} {h : Heap} {v a} (r : RepL ρ h v a) : ∀ i : Nat, RepL ρ h (v.drop i) (a.drop i) := by
  induction r with
  | nil => intro i; simp; exact .nil
  | cons z t ih => intro i; cases i with
    | zero => exact .cons z t
    | succ i => exact ih i
theorem RepL.take {ρ : RefMap} {h : Heap} {v a} (r : RepL ρ h v a) : ∀ i : Nat, RepL ρ h (v.take i) (a.take i) := by
  induction r with
  | nil => intro i; simp; exact .nil
  | cons z t ih => intro i; cases i with
    | zero => exact .nil
    | succ i => exact .cons z (ih i)
theorem RepL.reverse {ρ : RefMap} {h : Heap} {v a} (r : RepL ρ h v a) : RepL ρ h v.reverse a.reverse := by
  induction r with
  | nil => exact .nil
  | cons z t ih => rw [List.reverse_cons, List.reverse_cons]; exact ih.append (.cons z .nil)
noncomputable def ObjRep (w : World) (ρ : RefMap) (h : Heap) (a e : Addr) : AO → Prop
  | .list vs => e = a ∧ vs.length ≤ lid ∧ ∃ ws n, h.get? a = some (listOf (List.toArray ws) n) ∧ RepL ρ h ws vs
  | .inst C fs => e ≠ a ∧ C ∈ ownCls ∧ h.get? a = some (instObj C e) ∧ ∃ es n, h.get? e = some (dictOf es n) ∧ es.length ≤ 900 ∧ RepA ρ h es fs
  | .dS kvs => e = a ∧ kvs.length ≤ lid ∧ ∃ xs, h.DictOf (strKind pp w) a xs ∧ RepK ρ h xs kvs
  | .dI kvs => e = a ∧ kvs.length ≤ lid ∧ ∃ xs, h.DictOf (intKind pp w) a xs ∧ RepK ρ h xs kvs
  | .dT kvs => e = a ∧ kvs.length ≤ lid ∧ ∃ xs, h.DictOfH (tupleKind (intKind pp w)) a xs ∧ RepK ρ h (xs.map fun x => (x.1, x.2.2)) kvs
noncomputable def AO.flat : AO → Prop
  | .inst _ _ => False
  | _ => True
noncomputable def Own (ρ : RefMap) (T : Tm) (b : Addr) : Prop := (∃ (i : Nat) (a e : Addr), ρ[i]? = some (a, e) ∧ (b = a ∨ b = e)) ∨ (T b).isSome = true
structure Ob (w : World) (ρ : RefMap) (L : List AO) (T : Tm) (h : Heap) : Prop where
  len : ρ.length = L.length
  rep : ∀ (i : Nat) (a e : Addr) (o : AO), ρ[i]? = some (a, e) → L[i]? = some o → ObjRep w ρ h a e o
  tmp : ∀ a o, T a = some o → ObjRep w ρ h a a o ∧ o.flat
  inj : ∀ (i j : Nat) (a e a' e' : Addr), ρ[i]? = some (a, e) → ρ[j]? = some (a', e') → i ≠ j → a ≠ a' ∧ a ≠ e' ∧ e ≠ a' ∧ e ≠ e'
  apart : ∀ (i : Nat) (a e : Addr), ρ[i]? = some (a, e) → T a = none ∧ T e = none
noncomputable def upd (T : Tm) (a : Addr) (o : AO) : Tm := fun b => if b = a then some o else T b
theorem upd_self (T : Tm) (a : Addr) (o : AO) : upd T a o a = some o := by simp [upd]
theorem upd_ne (T : Tm) {a b : Addr} (o : AO) (h : b ≠ a) : upd T a o b = T b := by simp [upd, h]
theorem upd_upd (T : Tm) (a : Addr) (o o' : AO) : upd (upd T a o) a o' = upd T a o' := by funext b; simp only [upd]; split <;> rfl
theorem dict_at {K : Type} [DecidableEq K] {prog : Program} {w : World} {knd : KeyKind prog w K} {h h' : Heap} {a : Addr} {xs : List (K × Value)} (x : h.DictOf knd a xs) (e : h'.get? a = h.get? a) : h'.DictOf knd a xs :=
  let ⟨o, es, ep, ho, r⟩ := x; ⟨o, es, ep, e.trans ho, r⟩
theorem dictH_at {w : World} {h h' : Heap} {a : Addr} {xs : List (List Int × Addr × Value)} (x : h.DictOfH (tupleKind (intKind pp w)) a xs) (e : h'.get? a = h.get? a) (k : TupStay h h') : h'.DictOfH (tupleKind (intKind pp w)) a xs := by
  refine e3a6 x fun o es ep ho hc hd he his hn => ?_
  refine ⟨o, es, ep, e.trans ho, hc, hd, he, fun y hy => ?_, hn⟩
  refine e3a4 (his y hy) fun ot its n h1 h2 h3 h4 => ?_
  exact ⟨ot, its, n, k _ _ h1 ⟨h2, _, _, h3⟩, h2, h3, h4⟩
theorem ObjRep.stay {w : World} {ρ ρ' : RefMap} {h h' : Heap} {a e : Addr} {o : AO} (r : ObjRep w ρ h a e o) (k : TupStay h h') (p : ∀ (i : Nat) q, ρ[i]? = some q → ρ'[i]? = some q)
    (ha : h'.get? a = h.get? a) (he : h'.get? e = h.get? e) : ObjRep w ρ' h' a e o := by
  cases o with
  | list vs => obtain ⟨r1, r2, ws, n, r3, r4⟩ := r; exact ⟨r1, r2, ws, n, ha.trans r3, r4.stay k p⟩
  | inst C fs => obtain ⟨r1, r2, r3, es, n, r4, r5, r6⟩ := r; exact ⟨r1, r2, ha.trans r3, es, n, he.trans r4, r5, r6.stay k p⟩
  | dS kvs => obtain ⟨r1, r2, xs, r3, r4⟩ := r; exact ⟨r1, r2, xs, dict_at r3 ha, r4.stay k p⟩
  | dI kvs => obtain ⟨r1, r2, xs, r3, r4⟩ := r; exact ⟨r1, r2, xs, dict_at r3 ha, r4.stay k p⟩
  | dT kvs => obtain ⟨r1, r2, xs, r3, r4⟩ := r; exact ⟨r1, r2, xs, dictH_at r3 ha k, r4.stay k p⟩
noncomputable def NotTup (h : Heap) (a : Addr) : Prop := ∃ o, h.get? a = some o ∧ ¬TupObj o
theorem ObjRep.there {w : World} {ρ : RefMap} {h : Heap} {a e : Addr} {o : AO} (r : ObjRep w ρ h a e o) : NotTup h a ∧ NotTup h e := by
  have D : ∀ {d : Addr}, (∃ o, h.get? d = some o ∧ o.cls = .type "dict") → NotTup h d := fun ⟨o, h1, h2⟩ => ⟨o, h1, fun t => absurd (h2.symm.trans t.1) (by decide)⟩
  cases o with
  | list vs => obtain ⟨rfl, r2, ws, n, r3, r4⟩ := r; exact ⟨⟨_, r3, fun t => absurd t.1 (by show (Value.type "list") ≠ _; decide)⟩, ⟨_, r3, fun t => absurd t.1 (by show (Value.type "list") ≠ _; decide)⟩⟩
  | inst C fs => obtain ⟨r1, r2, r3, es, n, r4, r5, r6⟩ := r; exact ⟨⟨_, r3, fun t => absurd t.1 (by show (Value.ref C) ≠ _; exact nofun)⟩, ⟨_, r4, fun t => absurd t.1 (by show (Value.type "dict") ≠ _; decide)⟩⟩
  | dS kvs => (obtain ⟨x2_, r2, xs, x3_, r4⟩ := r; subst x2_; refine e3a3 x3_ fun o _ _ ho hc _ => ?_); exact ⟨D ⟨o, ho, hc.1⟩, D ⟨o, ho, hc.1⟩⟩
  | dI kvs => (obtain ⟨x4_, r2, xs, x5_, r4⟩ := r; subst x4_; refine e3a3 x5_ fun o _ _ ho hc _ => ?_); exact ⟨D ⟨o, ho, hc.1⟩, D ⟨o, ho, hc.1⟩⟩
  | dT kvs => (obtain ⟨x6_, r2, xs, x7_, r4⟩ := r; subst x6_; refine e3a3 x7_ fun o _ _ ho hc _ => ?_); exact ⟨D ⟨o, ho, hc.1⟩, D ⟨o, ho, hc.1⟩⟩
theorem get_some_of_lt {α : Type} {l : List α} {i : Nat} (h : i < l.length) : ∃ x, l[i]? = some x := ⟨l[i], by simp [h]⟩
theorem lt_of_get {α : Type} {l : List α} {i : Nat} {x : α} (h : l[i]? = some x) : i < l.length := (List.getElem?_eq_some_iff.mp h).1
section
variable {w : World} {ρ ρ' : RefMap} {L : List AO} {T : Tm} {h h' : Heap}
theorem Ob.obj (B : Ob w ρ L T h) {i : Nat} {q : Addr × Addr} (e : ρ[i]? = some q) : ∃ o, L[i]? = some o := get_some_of_lt (by rw [← B.len]; exact lt_of_get e)
theorem Ob.notTup (B : Ob w ρ L T h) {b : Addr} (o : Own ρ T b) : NotTup h b := by
  rcases o with ⟨i, a, e, hi, hb⟩ | ho
  · refine e1a1 (B.obj hi) fun o ho => ?_
    rcases hb with rfl | rfl
    · exact (B.rep i _ _ _ hi ho).there.1
    · exact (B.rep i _ _ _ hi ho).there.2
  · refine e1a1 (Option.isSome_iff_exists.mp ho) fun o ho => ?_
    exact (B.tmp _ _ ho).1.there.1
theorem Ob.lt (B : Ob w ρ L T h) {b : Addr} (o : Own ρ T b) : b < h.objs.size := let ⟨_, e, _⟩ := B.notTup o; Heap.lt_size e
theorem Ob.stay (B : Ob w ρ L T h) (k : TupStay h h') (g : ∀ b, Own ρ T b → h'.get? b = h.get? b) : Ob w ρ L T h' where
  len := B.len
  rep i a e o h1 h2 := (B.rep i a e o h1 h2).stay k (fun _ _ e => e) (g _ (.inl ⟨i, a, e, h1, .inl rfl⟩)) (g _ (.inl ⟨i, a, e, h1, .inr rfl⟩))
  tmp a o h1 := ⟨(B.tmp a o h1).1.stay k (fun _ _ e => e) (g _ (.inr (by rw [h1]; rfl))) (g _ (.inr (by rw [h1]; rfl))), (B.tmp a o h1).2⟩
  inj := B.inj
  apart := B.apart
theorem Ob.setL (B : Ob w ρ L T h) {i : Nat} {a e x : Addr} {o : AO} (hi : ρ[i]? = some (a, e)) (hx : x = a ∨ x = e) (hs : Heap.SameBut x h h') (k : TupStay h h') (r : ObjRep w ρ h' a e o) : Ob w ρ (L.set i o) T h' where
  len := by rw [List.length_set]; exact B.len
  rep j a' e' o' h1 h2 := by
    by_cases hj : j = i
    · subst hj
      rw [hi] at h1; cases h1
      rw [List.getElem?_set_self (by rw [← B.len]; exact lt_of_get hi)] at h2
      cases h2; exact r
    · rw [List.getElem?_set_ne (Ne.symm hj)] at h2
      have z := B.inj i j a e a' e' hi h1 (Ne.symm hj)
      refine (B.rep j a' e' o' h1 h2).stay k (fun _ _ e => e) (hs.2 _ ?_) (hs.2 _ ?_)
      · rcases hx with rfl | rfl
        · exact z.1.symm
        · exact z.2.2.1.symm
      · rcases hx with rfl | rfl
        · exact z.2.1.symm
        · exact z.2.2.2.symm
  tmp b o' h1 := by
    have z := B.apart i a e hi
    have hb : b ≠ x := by rintro rfl; rcases hx with rfl | rfl; (rw [z.1] at h1; cases h1); (rw [z.2] at h1; cases h1)
    exact ⟨(B.tmp b o' h1).1.stay k (fun _ _ e => e) (hs.2 _ hb) (hs.2 _ hb), (B.tmp b o' h1).2⟩
  inj := B.inj
  apart := B.apart
theorem Ob.setT (B : Ob w ρ L T h) {a : Addr} {o₀ o : AO} (ha : T a = some o₀) (hs : Heap.SameBut a h h') (k : TupStay h h') (r : ObjRep w ρ h' a a o) (hf : o.flat) : Ob w ρ L (upd T a o) h' where
  len := B.len
  rep j a' e' o' h1 h2 := by
    have z := B.apart j a' e' h1
    refine (B.rep j a' e' o' h1 h2).stay k (fun _ _ e => e) (hs.2 _ ?_) (hs.2 _ ?_)
    · rintro rfl; rw [z.1] at ha; cases ha
    · rintro rfl; rw [z.2] at ha; cases ha
  tmp b o' h1 := by
    by_cases hb : b = a
    · subst hb; rw [upd_self] at h1; cases h1; exact ⟨r, hf⟩
    · rw [upd_ne _ _ hb] at h1
      exact ⟨(B.tmp b o' h1).1.stay k (fun _ _ e => e) (hs.2 _ hb) (hs.2 _ hb), (B.tmp b o' h1).2⟩
  inj := B.inj
  apart i a' e' h1 := by
    have z := B.apart i a' e' h1
    exact ⟨by rw [upd_ne _ _ (by rintro rfl; rw [z.1] at ha; cases ha)]; exact z.1, by rw [upd_ne _ _ (by rintro rfl; rw [z.2] at ha; cases ha)]; exact z.2⟩
theorem Ob.addT (B : Ob w ρ L T h) {a : Addr} {o : AO} (ha : h.get? a = none) (hk : ∀ b o, h.get? b = some o → h'.get? b = some o) (r : ObjRep w ρ h' a a o) (hf : o.flat) : Ob w ρ L (upd T a o) h' := by
  have z : ∀ {b}, Own ρ T b → h'.get? b = h.get? b := fun ho => let ⟨_, e, _⟩ := B.notTup ho; (hk _ _ e).trans e.symm
  have B' := B.stay (TupStay.of_keep hk) fun b => z
  have na : ¬Own ρ T a := fun o => by refine e1a2 (B.notTup o) fun _ e _ => ?_; rw [ha] at e; cases e
  refine ⟨B'.len, B'.rep, fun b o' h1 => ?_, B'.inj, fun i a' e' h1 => ?_⟩
  · by_cases hb : b = a
    · subst hb; rw [upd_self] at h1; cases h1; exact ⟨r, hf⟩
    · rw [upd_ne _ _ hb] at h1; exact B'.tmp b o' h1
  · have y := B'.apart i a' e' h1
    exact ⟨by rw [upd_ne _ _ (by rintro rfl; exact na (.inl ⟨i, _, _, h1, .inl rfl⟩))]; exact y.1, by rw [upd_ne _ _ (by rintro rfl; exact na (.inl ⟨i, _, _, h1, .inr rfl⟩))]; exact y.2⟩
theorem get_snoc {α : Type} {l : List α} {x y : α} {i : Nat} (h : (l ++ [x])[i]? = some y) : l[i]? = some y ∨ (i = l.length ∧ y = x) := by
  rcases Nat.lt_trichotomy i l.length with q | q | q
  · rw [List.getElem?_append_left q] at h; exact .inl h
  · subst q; simp at h; exact .inr ⟨rfl, h.symm⟩
  · rw [List.getElem?_eq_none (by simp; lia)] at h; cases h
theorem Ob.addL (B : Ob w ρ L T h) {a e : Addr} {o : AO} (ha : h.get? a = none) (he : h.get? e = none) (hk : ∀ b o, h.get? b = some o → h'.get? b = some o) (r : ObjRep w (ρ ++ [(a, e)]) h' a e o) : Ob w (ρ ++ [(a, e)]) (L ++ [o]) T h' := by
  have z : ∀ {b}, Own ρ T b → h'.get? b = h.get? b := fun ho => let ⟨_, e, _⟩ := B.notTup ho; (hk _ _ e).trans e.symm
  have B' := B.stay (TupStay.of_keep hk) fun b => z
  have nw : ∀ {b c}, Own ρ T b → h.get? c = none → b ≠ c := fun o hc q => by refine e1a2 (B.notTup o) fun _ e _ => ?_; rw [q, hc] at e; cases e
  have pr : ∀ (i : Nat) q, ρ[i]? = some q → (ρ ++ [(a, e)])[i]? = some q := fun i q h => by rw [List.getElem?_append_left (lt_of_get h)]; exact h
  refine ⟨by simp [B.len], fun i a' e' o' h1 h2 => ?_, fun b o' h1 => ⟨(B'.tmp b o' h1).1.stay (TupStay.refl _) pr rfl rfl, (B'.tmp b o' h1).2⟩, fun i j a1 e1 a2 e2 h1 h2 hij => ?_, fun i a' e' h1 => ?_⟩
  · rcases get_snoc h1 with q | ⟨q1, q2⟩
    · rcases get_snoc h2 with y | ⟨y1, y2⟩
      · exact (B'.rep i a' e' o' q y).stay (TupStay.refl _) pr rfl rfl
      · exfalso; have := lt_of_get q; rw [B.len, y1] at this; exact Nat.lt_irrefl _ this
    · cases q2
      rcases get_snoc h2 with y | ⟨y1, y2⟩
      · exfalso; have := lt_of_get y; rw [← B.len, q1] at this; exact Nat.lt_irrefl _ this
      · cases y2; exact r
  · rcases get_snoc h1 with q | ⟨q1, q2⟩ <;> rcases get_snoc h2 with y | ⟨y1, y2⟩
    · exact B.inj i j a1 e1 a2 e2 q y hij
    · cases y2
      have o1 : Own ρ T a1 := .inl ⟨i, _, _, q, .inl rfl⟩
      have o2 : Own ρ T e1 := .inl ⟨i, _, _, q, .inr rfl⟩
      exact ⟨nw o1 ha, nw o1 he, nw o2 ha, nw o2 he⟩
    · cases q2
      have o1 : Own ρ T a2 := .inl ⟨j, _, _, y, .inl rfl⟩
      have o2 : Own ρ T e2 := .inl ⟨j, _, _, y, .inr rfl⟩
      exact ⟨(nw o1 ha).symm, (nw o2 ha).symm, (nw o1 he).symm, (nw o2 he).symm⟩
    · exact absurd (q1.trans y1.symm) hij
  · rcases get_snoc h1 with q | ⟨q1, q2⟩
    · exact B.apart i a' e' q
    · cases q2
      have t : ∀ {c}, h.get? c = none → T c = none := fun {c} hc => by
        cases hT : T c with
        | none => rfl
        | some o => exact absurd rfl (nw (.inr (by rw [hT]; rfl)) hc)
      exact ⟨t ha, t he⟩
end
structure Ev (X : Addr → Prop) (s : Shared) (ρ : RefMap) (T : Tm) (s' : Shared) (ρ' : RefMap) (T' : Tm) : Prop where
  pre : ∀ (i : Nat) q, ρ[i]? = some q → ρ'[i]? = some q
  keep : ∀ b o, s.heap.get? b = some o → ¬Own ρ T b → ¬X b → s'.heap.get? b = some o
  own : ∀ b, Own ρ' T' b → Own ρ T b ∨ s.heap.get? b = none
  alive : ∀ b o, s.heap.get? b = some o → ∃ o', s'.heap.get? b = some o'
  tup : TupStay s.heap s'.heap
  os : s'.os = s.os
theorem Ev.refl {X : Addr → Prop} (s : Shared) (ρ : RefMap) (T : Tm) : Ev X s ρ T s ρ T := ⟨fun _ _ e => e, fun _ _ e _ _ => e, fun _ o => .inl o, fun _ o e => ⟨o, e⟩, TupStay.refl _, rfl⟩
theorem none_back {h h' : Heap} (al : ∀ b o, h.get? b = some o → ∃ o', h'.get? b = some o') {b : Addr} (e : h'.get? b = none) : h.get? b = none := by
  cases q : h.get? b with
  | none => rfl
  | some o => refine e1a1 (al b o q) fun o' z => ?_; rw [e] at z; cases z
theorem Ev.trans {X : Addr → Prop} {s1 s2 s3 : Shared} {r1 r2 r3 : RefMap} {T1 T2 T3 : Tm} (x : Ev X s1 r1 T1 s2 r2 T2) (y : Ev X s2 r2 T2 s3 r3 T3) : Ev X s1 r1 T1 s3 r3 T3 where
  pre i q e := y.pre i q (x.pre i q e)
  keep b o e n1 n2 := y.keep b o (x.keep b o e n1 n2) (fun q => (x.own b q).elim n1 fun z => by rw [e] at z; cases z) n2
  own b q := (y.own b q).elim (fun z => x.own b z) fun z => .inr (none_back x.alive z)
  alive b o e := let ⟨o', e'⟩ := x.alive b o e; y.alive b o' e'
  tup := x.tup.trans y.tup
  os := y.os.trans x.os
theorem Ev.mono {X Y : Addr → Prop} {s1 s2 : Shared} {r1 r2 : RefMap} {T1 T2 : Tm} (x : Ev X s1 r1 T1 s2 r2 T2) (h : ∀ b, X b → Y b) : Ev Y s1 r1 T1 s2 r2 T2 := ⟨x.pre, fun b o e n1 n2 => x.keep b o e n1 fun q => n2 (h b q), x.own, x.alive, x.tup, x.os⟩
theorem Ev.drop {X Y : Addr → Prop} {s1 s2 : Shared} {r1 r2 : RefMap} {T1 T2 : Tm} (x : Ev X s1 r1 T1 s2 r2 T2) (h : ∀ b o, s1.heap.get? b = some o → X b → Y b) : Ev Y s1 r1 T1 s2 r2 T2 :=
  ⟨x.pre, fun b o e n1 n2 => x.keep b o e n1 fun q => n2 (h b o e q), x.own, x.alive, x.tup, x.os⟩
theorem Ev.tail {X : Addr → Prop} {s1 s2 s3 : Shared} {r1 r2 : RefMap} {T1 T2 : Tm} {I : Addr} (x : Ev X s1 r1 T1 s2 r2 T2) (hI : s1.heap.get? I = none) (he : Heap.ExtBut I s2.heap s3.heap) (hos : s3.os = s2.os) : Ev X s1 r1 T1 s3 r2 T2 where
  pre := x.pre
  keep b o e n1 n2 := he b o (by rintro rfl; rw [hI] at e; cases e) (x.keep b o e n1 n2)
  own := x.own
  alive b o e := let ⟨o', e'⟩ := x.alive b o e; ⟨o', he b o' (by rintro rfl; rw [hI] at e; cases e) e'⟩
  tup a o e t := he a o (by rintro rfl; rw [hI] at e; cases e) (x.tup a o e t)
  os := hos.trans x.os
noncomputable def no : Addr → Prop := fun _ => False
theorem Ev.rep {X : Addr → Prop} {s1 s2 : Shared} {r1 r2 : RefMap} {T1 T2 : Tm} (x : Ev X s1 r1 T1 s2 r2 T2) {v a} (r : Rep r1 s1.heap v a) : Rep r2 s2.heap v a := r.stay x.tup x.pre
structure Gd (w : World) (hR : Heap) (ρ : RefMap) (L : List AO) (T : Tm) (s : Shared) : Prop where
  ob : Ob w ρ L T s.heap
  root : ∀ b o, hR.get? b = some o → s.heap.get? b = some o
  low : ∀ b, Own ρ T b → hR.get? b = none ∧ 3 < b
  three : ∃ o, hR.get? 3 = some o
  gens : s.gens = #[]
section
variable {w : World} {hR : Heap} {ρ : RefMap} {L : List AO} {T : Tm} {s s' : Shared}
theorem Gd.new (G : Gd w hR ρ L T s) {a : Addr} (h : s.heap.objs.size ≤ a) : s.heap.get? a = none ∧ hR.get? a = none ∧ 3 < a := by
  have e := Heap.get?_none_of_le h
  refine e1a1 G.three fun o h3 => ?_
  exact ⟨e, none_back (fun b o e => ⟨o, G.root b o e⟩) e, Nat.lt_of_lt_of_le (Heap.lt_size (G.root 3 o h3)) h⟩
theorem Gd.stayG (G : Gd w hR ρ L T s) (Z : Addr → Prop) (hZ : ∀ b, Z b → ¬Own ρ T b ∧ hR.get? b = none ∧ ∀ o, s.heap.get? b = some o → ¬TupObj o) (hg : s'.gens = s.gens)
    (hk : ∀ b o, ¬Z b → s.heap.get? b = some o → s'.heap.get? b = some o) : Gd w hR ρ L T s' := by
  have ts : TupStay s.heap s'.heap := fun a o e hc => hk a o (fun z => (hZ a z).2.2 o e hc) e
  refine ⟨G.ob.stay ts fun b o => ?_, fun b o e => hk b o (fun z => ?_) (G.root b o e), G.low, G.three, hg.trans G.gens⟩
  · refine e1a2 (G.ob.notTup o) fun o' e _ => ?_
    rw [e]; exact hk b o' (fun z => (hZ b z).1 o) e
  · rw [(hZ b z).2.1] at e; cases e
theorem Gd.stay (G : Gd w hR ρ L T s) (Z : Addr → Prop) (hZ : ∀ b, Z b → ¬Own ρ T b ∧ hR.get? b = none ∧ ∀ o, s.heap.get? b = some o → ¬TupObj o) (hg : s'.gens = s.gens) (hos : s'.os = s.os)
    (hal : ∀ b o, Z b → s.heap.get? b = some o → ∃ o', s'.heap.get? b = some o')
    (hk : ∀ b o, ¬Z b → s.heap.get? b = some o → s'.heap.get? b = some o) : Gd w hR ρ L T s' ∧ Ev Z s ρ T s' ρ T := by
  have ts : TupStay s.heap s'.heap := fun a o e hc => hk a o (fun z => (hZ a z).2.2 o e hc) e
  refine ⟨G.stayG Z hZ hg hk, ⟨fun _ _ e => e, fun b o e _ n => hk b o n e, fun _ o => .inl o, fun b o e => ?_, ts, hos⟩⟩
  by_cases z : Z b
  · exact hal b o z e
  · exact ⟨o, hk b o z e⟩
theorem Gd.keepAll (G : Gd w hR ρ L T s) (hg : s'.gens = s.gens) (hos : s'.os = s.os) (hk : ∀ b o, s.heap.get? b = some o → s'.heap.get? b = some o) : Gd w hR ρ L T s' ∧ Ev no s ρ T s' ρ T :=
  G.stay no (fun _ z => z.elim) hg hos (fun _ _ z => z.elim) fun b o _ e => hk b o e
theorem Gd.toks (G : Gd w hR ρ L T s) (t : Nat) : Gd w hR ρ L T { s with toks := t } ∧ Ev no s ρ T { s with toks := t } ρ T := G.keepAll rfl rfl fun _ _ e => e
theorem own_setT {a : Addr} {o₀ o : AO} (ha : T a = some o₀) {b : Addr} (h : Own ρ (upd T a o) b) : Own ρ T b := by
  rcases h with h | h
  · exact .inl h
  · by_cases hb : b = a
    · subst hb; exact .inr (by rw [ha]; rfl)
    · rw [upd_ne _ _ hb] at h; exact .inr h
theorem Gd.setL (G : Gd w hR ρ L T s) {i : Nat} {a e x : Addr} {o : AO} (hi : ρ[i]? = some (a, e)) (hx : x = a ∨ x = e) (hs : Heap.SameBut x s.heap s'.heap) (hg : s'.gens = s.gens) (hos : s'.os = s.os) (r : ObjRep w ρ s'.heap a e o) :
    Gd w hR ρ (L.set i o) T s' ∧ Ev no s ρ T s' ρ T := by
  have ow : Own ρ T x := .inl ⟨i, a, e, hi, hx⟩
  refine e1a2 (G.ob.notTup ow) fun ox hox hnt => ?_
  have ts : TupStay s.heap s'.heap := fun b o e' hc => (hs.2 b (by rintro rfl; rw [hox] at e'; cases e'; exact hnt hc)).trans e'
  have hlow := (G.low x ow).1
  refine ⟨⟨G.ob.setL hi hx hs ts r, fun b o e' => (hs.2 b ?_).trans (G.root b o e'), G.low, G.three, hg.trans G.gens⟩, ⟨fun _ _ e => e, fun b o e' n _ => (hs.2 b ?_).trans e', fun _ o => .inl o, fun b o e' => ?_, ts, hos⟩⟩
  · rintro rfl; rw [hlow] at e'; cases e'
  · rintro rfl; exact n ow
  · by_cases hb : b = x
    · have t := r.there
      rcases hx with q | q
      · refine e1a2 t.1 fun o' z _ => ?_; exact ⟨o', by rw [hb, q]; exact z⟩
      · refine e1a2 t.2 fun o' z _ => ?_; exact ⟨o', by rw [hb, q]; exact z⟩
    · exact ⟨o, (hs.2 b hb).trans e'⟩
theorem Gd.setT (G : Gd w hR ρ L T s) {a : Addr} {o₀ o : AO} (ha : T a = some o₀) (hs : Heap.SameBut a s.heap s'.heap) (hg : s'.gens = s.gens) (hos : s'.os = s.os) (r : ObjRep w ρ s'.heap a a o) (hf : o.flat) :
    Gd w hR ρ L (upd T a o) s' ∧ Ev no s ρ T s' ρ (upd T a o) := by
  have ow : Own ρ T a := .inr (by rw [ha]; rfl)
  refine e1a2 (G.ob.notTup ow) fun ox hox hnt => ?_
  have ts : TupStay s.heap s'.heap := fun b o e' hc => (hs.2 b (by rintro rfl; rw [hox] at e'; cases e'; exact hnt hc)).trans e'
  have hlow := (G.low a ow).1
  refine ⟨⟨G.ob.setT ha hs ts r hf, fun b o e' => (hs.2 b ?_).trans (G.root b o e'), fun b o => G.low b (own_setT ha o), G.three, hg.trans G.gens⟩, ⟨fun _ _ e => e, fun b o e' n _ => (hs.2 b ?_).trans e', fun _ o => .inl (own_setT ha o), fun b o e' => ?_, ts, hos⟩⟩
  · rintro rfl; rw [hlow] at e'; cases e'
  · rintro rfl; exact n ow
  · by_cases hb : b = a
    · refine e1a2 r.there.1 fun o' z _ => ?_; exact ⟨o', hb ▸ z⟩
    · exact ⟨o, (hs.2 b hb).trans e'⟩
theorem Gd.addT (G : Gd w hR ρ L T s) {a : Addr} {o : AO} (ha : s.heap.objs.size ≤ a) (hg : s'.gens = s.gens) (hos : s'.os = s.os) (hk : ∀ b o, s.heap.get? b = some o → s'.heap.get? b = some o)
    (r : ObjRep w ρ s'.heap a a o) (hf : o.flat) : T a = none ∧ Gd w hR ρ L (upd T a o) s' ∧ Ev no s ρ T s' ρ (upd T a o) := by
  obtain ⟨n1, n2, n3⟩ := G.new ha
  have ow : ∀ b, Own ρ (upd T a o) b → Own ρ T b ∨ b = a := fun b q => by
    rcases q with q | q
    · exact .inl (.inl q)
    · by_cases hb : b = a
      · exact .inr hb
      · rw [upd_ne _ _ hb] at q; exact .inl (.inr q)
  refine ⟨?_, ⟨G.ob.addT n1 hk r hf, fun b o e' => hk _ _ (G.root b o e'), fun b o => (ow b o).elim (G.low b) fun z => z ▸ ⟨n2, n3⟩, G.three, hg.trans G.gens⟩, ⟨fun _ _ e => e, fun b o e' _ _ => hk _ _ e', fun b q => (ow b q).elim .inl fun z => .inr (z ▸ n1), fun b o e => ⟨o, hk _ _ e⟩, TupStay.of_keep hk, hos⟩⟩
  cases hT : T a with
  | none => rfl
  | some o' => obtain ⟨_, e, _⟩ := G.ob.notTup (b := a) (.inr (by rw [hT]; rfl)); rw [n1] at e; cases e
theorem Gd.addL (G : Gd w hR ρ L T s) {a e : Addr} {o : AO} (ha : s.heap.objs.size ≤ a) (he : s.heap.objs.size ≤ e) (hg : s'.gens = s.gens) (hos : s'.os = s.os) (hk : ∀ b o, s.heap.get? b = some o → s'.heap.get? b = some o)
    (r : ObjRep w (ρ ++ [(a, e)]) s'.heap a e o) : Gd w hR (ρ ++ [(a, e)]) (L ++ [o]) T s' ∧ Ev no s ρ T s' (ρ ++ [(a, e)]) T ∧ (ρ ++ [(a, e)])[L.length]? = some (a, e) := by
  have za := G.new ha
  have ze := G.new he
  have ow : ∀ b, Own (ρ ++ [(a, e)]) T b → Own ρ T b ∨ b = a ∨ b = e := fun b q => by
    rcases q with ⟨i, a', e', h1, h2⟩ | q
    · rcases get_snoc h1 with y | ⟨y1, y2⟩
      · exact .inl (.inl ⟨i, a', e', y, h2⟩)
      · cases y2; exact .inr h2
    · exact .inl (.inr q)
  refine ⟨⟨G.ob.addL za.1 ze.1 hk r, fun b o e' => hk _ _ (G.root b o e'), fun b o => (ow b o).elim (G.low b) fun z => ?_, G.three, hg.trans G.gens⟩, ⟨fun i q h => by rw [List.getElem?_append_left (lt_of_get h)]; exact h, fun b o e' _ _ => hk _ _ e', fun b q => (ow b q).elim .inl fun z => .inr ?_, fun b o e => ⟨o, hk _ _ e⟩, TupStay.of_keep hk, hos⟩, ?_⟩
  · rcases z with rfl | rfl
    · exact za.2
    · exact ze.2
  · rcases z with rfl | rfl
    · exact za.1
    · exact ze.1
  · rw [← G.ob.len]; simp
end
end Mine
end
section
set_option tactic.hygienic false
namespace Mine
abbrev Gl := Fin 49
noncomputable abbrev Gl.A_NIL : Gl := 0
noncomputable abbrev Gl.F_DOT : Gl := 1
noncomputable abbrev Gl.F_MINUS1 : Gl := 2
noncomputable abbrev Gl.F_MINUS : Gl := 3
noncomputable abbrev Gl.REF : Gl := 4
noncomputable abbrev Gl.SRF : Gl := 5
noncomputable abbrev Gl.STR : Gl := 6
noncomputable abbrev Gl.LIS : Gl := 7
noncomputable abbrev Gl.CON : Gl := 8
noncomputable abbrev Gl.INT : Gl := 9
noncomputable abbrev Gl.FUN : Gl := 10
noncomputable abbrev Gl.VOID : Gl := 11
noncomputable abbrev Gl.READ : Gl := 12
noncomputable abbrev Gl.AT_E : Gl := 13
noncomputable abbrev Gl.AT_CP : Gl := 14
noncomputable abbrev Gl.AT_PREVIOUS : Gl := 15
noncomputable abbrev Gl.AT_ALTERNATIVE : Gl := 16
noncomputable abbrev Gl.AT_TRAIL : Gl := 17
noncomputable abbrev Gl.AT_HEAP : Gl := 18
noncomputable abbrev Gl.AT_B0 : Gl := 19
noncomputable abbrev Gl.EXTRA : Gl := 20
noncomputable abbrev Gl.fixed_atoms : Gl := 21
noncomputable abbrev Gl.fixed_functors : Gl := 22
noncomputable abbrev Gl.state_faults : Gl := 23
noncomputable abbrev Gl.environment_slots : Gl := 24
noncomputable abbrev Gl.slots : Gl := 25
noncomputable abbrev Gl.saved_length : Gl := 26
noncomputable abbrev Gl.cell_trouble : Gl := 27
noncomputable abbrev Gl.chain_troubles : Gl := 28
noncomputable abbrev Gl.troubles : Gl := 29
noncomputable abbrev Gl.heap_faults : Gl := 30
noncomputable abbrev Gl.cell_fault : Gl := 31
noncomputable abbrev Gl.stack_faults : Gl := 32
noncomputable abbrev Gl.law_row : Gl := 33
noncomputable abbrev Gl.law_next : Gl := 34
noncomputable abbrev Gl.law_code : Gl := 35
noncomputable abbrev Gl.law_size : Gl := 36
noncomputable abbrev Gl.law_pool : Gl := 37
noncomputable abbrev Gl.law_pick : Gl := 38
noncomputable abbrev Gl.law_bound : Gl := 39
noncomputable abbrev Gl.law_step : Gl := 40
noncomputable abbrev Gl.law_state : Gl := 41
noncomputable abbrev Gl.law_chain : Gl := 42
noncomputable abbrev Gl.law_broken : Gl := 43
noncomputable abbrev Gl.law_spoiled_cell : Gl := 44
noncomputable abbrev Gl.law_spoiled_rest : Gl := 45
noncomputable abbrev Gl.Symbols : Gl := 46
noncomputable abbrev Gl.Store : Gl := 47
noncomputable abbrev Gl.Areas : Gl := 48
noncomputable def Gl.nm (g : Gl) : Str := tab (α := Str) "" [Str.ofString "A_NIL", Str.ofString "F_DOT", Str.ofString "F_MINUS1", Str.ofString "F_MINUS", Str.ofString "REF", Str.ofString "SRF", Str.ofString "STR", Str.ofString "LIS", Str.ofString "CON", Str.ofString "INT", Str.ofString "FUN", Str.ofString "VOID", Str.ofString "READ", Str.ofString "AT_E", Str.ofString "AT_CP", Str.ofString "AT_PREVIOUS", Str.ofString "AT_ALTERNATIVE", Str.ofString "AT_TRAIL", Str.ofString "AT_HEAP", Str.ofString "AT_B0", Str.ofString "EXTRA", Str.ofString "fixed_atoms", Str.ofString "fixed_functors", Str.ofString "state_faults", Str.ofString "environment_slots", Str.ofString "slots", Str.ofString "saved_length", Str.ofString "cell_trouble", Str.ofString "chain_troubles", Str.ofString "troubles", Str.ofString "heap_faults", Str.ofString "cell_fault", Str.ofString "stack_faults", Str.ofString "_law_row", Str.ofString "_law_next", Str.ofString "_law_code", Str.ofString "_law_size", Str.ofString "_law_pool", Str.ofString "_law_pick", Str.ofString "_law_bound", Str.ofString "_law_step", Str.ofString "_law_state", Str.ofString "_law_chain", Str.ofString "_law_broken", Str.ofString "_law_spoiled_cell", Str.ofString "_law_spoiled_rest", Str.ofString "Symbols", Str.ofString "Store", Str.ofString "Areas"] g.1
noncomputable def glV : List Value := [.int 0 241, .int 0 245, .int 12 247, .int 13 249, .int 0 415, .int 1 417, .int 2 419, .int 3 421, .int 4 423, .int 5 425, .int 6 427, .ref 180, .str (Str.ofString "read") 693, .int 1 695, .int 2 697, .int 3 699, .int 4 701, .int 5 703, .int 6 705, .int 7 707, .int 8 709]
noncomputable def Gl.raw (g : Gl) : Value := tab .none (glV ++ [.ref 60, .ref 67, .ref 545, .ref 552, .ref 559, .ref 566, .ref 573, .ref 580, .ref 587, .ref 594, .ref 601, .ref 608, .ref 615, .ref 622, .ref 627, .ref 634, .ref 641, .ref 648, .ref 655, .ref 660, .ref 667, .ref 674, .ref 681, .ref 688, .ref 695, .ref 154, .ref 374, .ref 534]) g.1
noncomputable def glA : List AV := [.d (.int 0), .d (.int 0), .d (.int 12), .d (.int 13), .d (.int 0), .d (.int 1), .d (.int 2), .d (.int 3), .d (.int 4), .d (.int 5), .d (.int 6), .d (.tuple [.int 5, .int 0]), .d (.str (Str.ofString "read")), .d (.int 1), .d (.int 2), .d (.int 3), .d (.int 4), .d (.int 5), .d (.int 6), .d (.int 7), .d (.int 8)]
noncomputable def Gl.val (g : Gl) : AV := tab (.glob g.raw) glA g.1
noncomputable def glAll : List Gl := List.finRange 49
theorem gl_mem (g : Gl) : g ∈ glAll := List.mem_finRange g
noncomputable def Gl.isCls (g : Gl) : Bool := Nat.ble 46 g.1
noncomputable def Gl.addr (g : Gl) : Addr := match g.raw with | .ref a => a | _ => 0
noncomputable def initOf : Addr → Addr
  | 154 => 81
  | 374 => 195
  | _ => 391
inductive Bop where | add | sub | mod | fdiv deriving DecidableEq
inductive Cop where | eq | ne | lt | le | gt | ge deriving DecidableEq
set_option genCtorIdx false
mutual
inductive E where
  | loc (i : Nat) | gl (g : Gl) | int (n : Int) | str (s : Str) | bool (b : Bool) | none
  | attr (e : E) (a : At) | sub (e i : E) | slHi (e hi : E) | slLo (e lo : E)
  | bin (op : Bop) (a b : E) | ofC (c : C) | ife (c : C) (a b : E)
  | tup (es : Es) | lst (es : Es)
  | comp (two : Bool) (cv : List Str) (frs : List Nat) (it : It) (c : C) (elt : E)
  | callF (g : Gl) (es : Es) | mcall (e : E) (m : Mt) (es : Es) | new (g : Gl) (es : Es)
  | lapp (e v : E) | lpop (e : E) | lrev (e : E) | dget (e k d : E)
  | len (e : E) | listOf (e : E) | sorted (e : E) | fstr (ps : Es) | dnew | bad
inductive C where
  | cmp (op : Cop) (a b : E) | chain (op1 op2 : Cop) (a b c : E) | isin (neg : Bool) (x c : E)
  | not (c : C) | and (a b : C) | or (a b : C) | tru (e : E) | tt
inductive It where
  | r1 (e : E) | r2 (a b : E) | val (e : E)
inductive Es where
  | nil | cons (e : E) (es : Es)
end
inductive S where
  | nil | seq (a b : S)
  | asg (i : Nat) (e : E) | asg2 (i j : Nat) (e : E) | setA (o : E) (a : At) (v : E) | setI (o i v : E)
  | augL (i : Nat) (v : E) | augA (o : E) (a : At) (v : E)
  | ex (e : E) | ret (e : E) | retN | ite (c : C) (a b : S) | whl (c : C) (b : S) | fr (i : Nat) (it : It) (b : S) | delLo (e lo : E) | bad
abbrev Loc := List (Option AV)
abbrev LT := List AO → Tm → Prop
noncomputable def nth {α : Type} : List α → Nat → Option α
  | [], _ => none
  | a :: _, 0 => some a
  | _ :: l, n + 1 => nth l n
noncomputable def putNth {α : Type} : List α → Nat → α → (List α → Prop) → Prop
  | [], _, _, _ => False
  | _ :: l, 0, x, K => K (x :: l)
  | a :: l, n + 1, x, K => putNth l n x fun l' => K (a :: l')
noncomputable def lookA : List (At × AV) → At → Option AV
  | [], _ => none
  | (m, x) :: r, n => match decEq m n with | .isTrue _ => some x | .isFalse _ => lookA r n
noncomputable def putA : List (At × AV) → At → AV → (List (At × AV) → Prop) → Prop
  | [], n, v, K => K [(n, v)]
  | (m, x) :: r, n, v, K => match decEq m n with | .isTrue _ => K ((m, v) :: r) | .isFalse _ => putA r n v fun r' => K ((m, x) :: r')
noncomputable def wpIf (b : Bool) (P N : Prop) : Prop := match b with | true => P | false => N
theorem wpIf_elim {b : Bool} {P N : Prop} (h : wpIf b P N) : (b = true ∧ P) ∨ (b = false ∧ N) := by cases b; exact .inr ⟨rfl, h⟩; exact .inl ⟨rfl, h⟩
noncomputable def wpGetL (v : AV) (L : List AO) (T : Tm) (K : List AV → Prop) : Prop := match v with
  | .ref i => (match nth L i with | some (.list vs) => K vs | _ => False)
  | .tmp a => ∃ vs, T a = some (.list vs) ∧ K vs
  | _ => False
noncomputable def wpPutL (v : AV) (vs : List AV) (L : List AO) (T : Tm) (K : LT) : Prop := match v with
  | .ref i => putNth L i (.list vs) fun L' => K L' T
  | .tmp a => K L (upd T a (.list vs))
  | _ => False
noncomputable def wpAttr (v : AV) (n : At) (L : List AO) (K : AV → Prop) : Prop := match v with
  | .ref i => (match nth L i with
    | some (.inst _ fs) => (match lookA fs n with | some (.glob _) => False | some x => K x | none => False)
    | _ => False)
  | _ => False
noncomputable def wpSetA (v : AV) (n : At) (x : AV) (L : List AO) (K : List AO → Prop) : Prop := match v with
  | .ref i => (match nth L i with
    | some (.inst C fs) => fs.length < 800 ∧ putA fs n x fun fs' => putNth L i (.inst C fs') K
    | _ => False)
  | _ => False
noncomputable def idx (vs : List AV) (k : Int) : Option AV := if 0 ≤ k then vs[k.toNat]? else if -(vs.length : Int) ≤ k then vs[(vs.length + k).toNat]? else none
noncomputable def intsOf : List PyData → Option (List Int)
  | [] => some []
  | .int i :: r => (match intsOf r with | some l => some (i :: l) | none => none)
  | _ => none
noncomputable def kvGet {K : Type} [DecidableEq K] (kvs : List (K × AV)) (k : K) : Option AV := (kvs.find? fun kv => kv.1 = k).map (·.2)
noncomputable def kvPut {K : Type} [DecidableEq K] (kvs : List (K × AV)) (k : K) (v : AV) : List (K × AV) :=
  if kvs.any (fun kv => kv.1 = k) then kvs.map (fun kv => if kv.1 = k then (kv.1, v) else kv) else kvs ++ [(k, v)]
noncomputable def obj (v : AV) (L : List AO) (T : Tm) (K : AO → Prop) : Prop := match v with
  | .ref i => (match nth L i with | some o => K o | none => False)
  | .tmp a => ∃ o, T a = some o ∧ K o
  | _ => False
noncomputable def AO.isDict : AO → Prop
  | .dS _ | .dI _ | .dT _ => True
  | _ => False
noncomputable def putObj (v : AV) (o : AO) (L : List AO) (T : Tm) (K : LT) : Prop := match v with
  | .ref i => putNth L i o fun L' => K L' T
  | .tmp a => K L (upd T a o)
  | _ => False
noncomputable def wpSub (v i : AV) (L : List AO) (T : Tm) (K : AV → Prop) : Prop := match v, i with
  | .d (.tuple xs), .d (.int (.ofNat n)) => (match nth xs n with | some x => n < 1000 ∧ K (.d x) | none => False)
  | .ref j, .d (.int k) => wpGetL (.ref j) L T fun vs => ∃ x, idx vs k = some x ∧ K x
  | .tmp a, .d (.int k) => wpGetL (.tmp a) L T fun vs => ∃ x, idx vs k = some x ∧ K x
  | _, _ => False
noncomputable def asI (x : PyData) (K : Int → Prop) : Prop := match x with | .int k => K k | _ => False
noncomputable def asS (x : PyData) (K : Str → Prop) : Prop := match x with | .str k => K k | _ => False
noncomputable def asI2 (x y : PyData) (K : Int → Int → Prop) : Prop := asI x fun x => asI y fun y => K x y
noncomputable def asS2 (x y : PyData) (K : Str → Str → Prop) : Prop := asS x fun x => asS y fun y => K x y
theorem asI2_elim {x y : PyData} {K : Int → Int → Prop} (h : asI2 x y K) : ∃ a b, x = .int a ∧ y = .int b ∧ K a b := by
  cases x <;> first | exact h.elim | (cases y <;> first | exact h.elim | exact ⟨_, _, rfl, rfl, h⟩)
theorem asS2_elim {x y : PyData} {K : Str → Str → Prop} (h : asS2 x y K) : ∃ a b, x = .str a ∧ y = .str b ∧ K a b := by
  cases x <;> first | exact h.elim | (cases y <;> first | exact h.elim | exact ⟨_, _, rfl, rfl, h⟩)
noncomputable def isStr (x : PyData) : Bool := match x with | .str _ => true | _ => false
noncomputable def wpD (op : Bop) (x y : PyData) (K : AV → Prop) : Prop := match op with
  | .add => wpIf (isStr x) (asS2 x y fun x y => x.length ≤ 1000 ∧ y.length ≤ 1000 ∧ ∀ z, (PyData.strOk x = true → PyData.strOk y = true → PyData.strOk z = true) → K (.d (.str z))) (asI2 x y fun x y => K (.d (.int (x + y))))
  | .sub => asI2 x y fun x y => K (.d (.int (x - y)))
  | .mod => asI2 x y fun x y => y ≠ 0 ∧ K (.d (.int (x.fmod y)))
  | .fdiv => asI2 x y fun x y => (y ≠ 0 ∧ y.natAbs.log2 < 9000) ∧ K (.d (.int (x.fdiv y)))
noncomputable def asD (v : AV) (K : PyData → Prop) : Prop := match v with | .d x => K x | _ => False
theorem asD_elim {v : AV} {K : PyData → Prop} (h : asD v K) : ∃ k, v = .d k ∧ K k := by cases v <;> first | exact ⟨_, rfl, h⟩ | exact h.elim
noncomputable def wpBin (op : Bop) (a b : AV) (K : AV → Prop) : Prop := asD a fun x => asD b fun y => wpD op x y K
mutual
inductive DataIs (L : List AO) (T : Tm) : AV → PyData → Prop
  | d {x} : DataIs L T (.d x) x
  | ref {i vs xs} : nth L i = some (.list vs) → DataAll L T vs xs → DataIs L T (.ref i) (.list xs)
  | tmp {a vs xs} : T a = some (.list vs) → DataAll L T vs xs → DataIs L T (.tmp a) (.list xs)
inductive DataAll (L : List AO) (T : Tm) : List AV → List PyData → Prop
  | nil : DataAll L T [] []
  | cons {v x vs xs} : DataIs L T v x → DataAll L T vs xs → DataAll L T (v :: vs) (x :: xs)
end
noncomputable def wpEq (a b : AV) (L : List AO) (T : Tm) (K : Bool → Prop) : Prop := match a, b with
  | .d (.int x), .d (.int y) => K (decide (x = y))
  | .d x, .d y => wpIf (SeqAt.shaped x && SeqAt.shaped y) (K (PyData.eqv x y)) False
  | a, b => ∃ x y, DataIs L T a x ∧ DataIs L T b y ∧ SeqAt.shaped x = true ∧ SeqAt.shaped y = true ∧ K (PyData.eqv x y)
noncomputable def wpCmp (op : Cop) (a b : AV) (L : List AO) (T : Tm) (K : Bool → Prop) : Prop := match op with
  | .eq => wpEq a b L T K
  | .ne => wpEq a b L T fun r => K (!r)
  | .lt => (match a, b with | .d (.int x), .d (.int y) => K (decide (x < y)) | _, _ => False)
  | .le => (match a, b with | .d (.int x), .d (.int y) => K (decide (x ≤ y)) | _, _ => False)
  | .gt => (match a, b with | .d (.int x), .d (.int y) => K (decide (y < x)) | _, _ => False)
  | .ge => (match a, b with | .d (.int x), .d (.int y) => K (decide (y ≤ x)) | _, _ => False)
noncomputable def wpIn (x c : AV) (L : List AO) (T : Tm) (K : Bool → Prop) : Prop := match c, x with
  | .d (.tuple ys), .d y => wpIf (SeqAt.shaped (.tuple ys) && SeqAt.shaped y) (K (ys.any fun z => PyData.eqv z y)) False
  | c, .d y => obj c L T fun o => (match o with
    | .dI kvs => (match y with | .int k => K (kvGet kvs k).isSome | _ => False)
    | .list vs => ∃ ys, DataAll L T vs ys ∧ SeqAt.shaped (.list ys) = true ∧ SeqAt.shaped y = true ∧ K (ys.any fun z => PyData.eqv z y)
    | _ => False)
  | _, _ => False
noncomputable def allD : List AV → Option (List PyData)
  | [] => some []
  | .d x :: r => (match allD r with | some l => some (x :: l) | none => none)
  | _ => none
noncomputable def wpTup (vs : List AV) (K : AV → Prop) : Prop := match allD vs with
  | some xs => K (.d (.tuple xs))
  | none => (match vs with | [a, b] => K (.mk a b) | _ => False)
noncomputable def wpNewL (vs : List AV) (L : List AO) (T : Tm) (K : AV → LT) : Prop :=
  vs.length ≤ lid ∧ (K (.ref L.length) (L ++ [.list vs]) T ∨ ∀ a, T a = none → K (.tmp a) L (upd T a (.list vs)))
noncomputable def wpNewO (o : AO) (L : List AO) (T : Tm) (K : AV → LT) : Prop := K (.ref L.length) (L ++ [o]) T ∨ ∀ a, T a = none → K (.tmp a) L (upd T a o)
noncomputable def rangeAV (a : Int) : Nat → List AV
  | 0 => []
  | n + 1 => .d (.int a) :: rangeAV (a + 1) n
noncomputable def bigI : Int := 1000000000
noncomputable def live (v : Option (AV × List AV)) (L : List AO) (T : Tm) (P : Prop) : Prop := match v with
  | none => P
  | some (v, vs) => wpGetL v L T fun ws => ws = vs ∧ P
noncomputable def wpFr (lv : Option (AV × List AV)) (i : Nat) (body : Loc → List AO → Tm → (Loc → LT) → Prop) : List AV → Loc → List AO → Tm → (Loc → LT) → Prop
  | [], l, L, T, K => live lv L T (K l L T)
  | v :: r, l, L, T, K => live lv L T (putNth l i (some v) fun l' => body l' L T fun l2 L2 T2 => wpFr lv i body r l2 L2 T2 K)
noncomputable def wpWhl (cond : Loc → List AO → Tm → (Bool → LT) → Prop) (body : Loc → List AO → Tm → (Loc → LT) → Prop) : Nat → Loc → List AO → Tm → (Loc → LT) → Prop
  | 0, _, _, _, _ => False
  | n + 1, l, L, T, K => cond l L T fun b L1 T1 => wpIf b (body l L1 T1 fun l2 L2 T2 => wpWhl cond body n l2 L2 T2 K) (K l L1 T1)
noncomputable def wpTgt (two : Bool) (v : AV) (l : Loc) (K : Loc → Prop) : Prop := match two, v with
  | false, v => putNth l 0 (some v) K
  | true, .d (.tuple [x, y]) => putNth l 0 (some (.d x)) fun l' => putNth l' 1 (some (.d y)) K
  | _, _ => False
noncomputable def wpCp (acc : Addr) (two : Bool) (lv : Option (AV × List AV)) (cond : Loc → List AO → Tm → (Bool → LT) → Prop) (elt : Loc → List AO → Tm → (AV → LT) → Prop) : List AV → List AV → Loc → List AO → Tm → LT → Prop
  | [], done, _, L, T, K => live lv L T (T acc = some (.list done) ∧ K L T)
  | v :: r, done, l, L, T, K => live lv L T (wpTgt two v l fun l' => cond l' L T fun b L1 T1 =>
      wpIf b (elt l' L1 T1 fun x L2 T2 => T2 acc = some (.list done) ∧ done.length < lid ∧ wpCp acc two lv cond elt r (done ++ [x]) l' L2 (upd T2 acc (.list (done ++ [x]))) K)
        (wpCp acc two lv cond elt r done l' L1 T1 K))
noncomputable def inner (two : Bool) (frs : List Nat) (l : Loc) : Option Loc := match two with
  | false => (frs.mapM fun i => nth l i).map fun r => none :: r
  | true => (frs.mapM fun i => nth l i).map fun r => none :: none :: r
noncomputable def strShort : AV → Prop
  | .d (.int i) => i.natAbs < 10 ^ 12
  | .d (.str x) => x.length ≤ 1000 ∧ PyData.strOk x = true
  | _ => False
end Mine
end
section
set_option tactic.hygienic false
namespace Mine
structure Cx where
  w : World
  hR : Heap
  n : Nat
structure Room (n : Nat) (A : Around) : Prop where
  h : A.handled = none
  d : A.depth + 3 * n ≤ 990
  u : A.units + 60 * n ≤ 9000
noncomputable def Back (w : World) (hR : Heap) (s : Shared) (ρ : RefMap) (T : Tm) (Q : AV → LT) (v : Value) (s' : Shared) : Prop :=
  ∃ ρ' av L' T', Gd w hR ρ' L' T' s' ∧ Ev no s ρ T s' ρ' T' ∧ Rep ρ' s'.heap v av ∧ Q av L' T'
noncomputable def Res (w : World) (hR : Heap) (s : Shared) (ρ : RefMap) (T : Tm) (Q : AV → LT) (r : Result) (s' : Shared) : Prop := match r with
  | .ok (.ret v) => Back w hR s ρ T Q v s'
  | _ => False
structure CallOk (c : Cx) (f : Value) (args : List AV) (L : List AO) (T : Tm) (Q : AV → LT) : Prop where
  ok : ∀ (A : Around) (s : Shared) (ρ : RefMap) (vs : List Value), Room c.n A → Stat c.w c.hR → Gd c.w c.hR ρ L T s → RepL ρ s.heap vs args → codeAny (model pp c.w) A (.call f ⟨vs, []⟩) (Res c.w c.hR s ρ T Q) s
noncomputable def Cx.dn (c : Cx) : Cx := { c with n := c.n - 1 }
mutual
noncomputable def wpE (c : Cx) : E → Loc → List AO → Tm → (AV → LT) → Prop
  | .loc i, l, L, T, Q => (match nth l i with | some (some v) => Q v L T | _ => False)
  | .gl g, _, L, T, Q => Q g.val L T
  | .int k, _, L, T, Q => Q (.d (.int k)) L T
  | .str x, _, L, T, Q => Q (.d (.str x)) L T
  | .bool b, _, L, T, Q => Q (.d (.bool b)) L T
  | .none, _, L, T, Q => Q (.d .none) L T
  | .attr e a, l, L, T, Q => wpE c e l L T fun v L1 T1 => wpAttr v a L1 fun x => Q x L1 T1
  | .sub e i, l, L, T, Q => wpE c e l L T fun v L1 T1 => wpE c i l L1 T1 fun j L2 T2 => wpSub v j L2 T2 fun x => Q x L2 T2
  | .slHi e hi, l, L, T, Q => wpE c e l L T fun v L1 T1 => wpE c hi l L1 T1 fun j L2 T2 => (match j with
      | .d (.int k) => 0 ≤ k ∧ k < bigI ∧ ((wpGetL v L2 T2 fun vs => wpNewL (vs.take k.toNat) L2 T2 Q) ∨
          ∃ a ws ns, v = .glob (.ref a) ∧ c.hR.IsList a (List.toArray ws) ∧ IntsAre ws ns ∧ ns.length ≤ lid ∧ wpNewL ((ns.map fun k => AV.d (.int k)).take k.toNat) L2 T2 Q)
      | _ => False)
  | .slLo e lo, l, L, T, Q => wpE c e l L T fun v L1 T1 => wpE c lo l L1 T1 fun j L2 T2 => (match j with
      | .d (.int k) => 0 ≤ k ∧ k < bigI ∧ wpGetL v L2 T2 fun vs => wpNewL (vs.drop k.toNat) L2 T2 Q
      | _ => False)
  | .bin op a b, l, L, T, Q => wpE c a l L T fun x L1 T1 => wpE c b l L1 T1 fun y L2 T2 => wpBin op x y fun z => Q z L2 T2
  | .ofC k, l, L, T, Q => wpC c k l L T fun b L1 T1 => Q (.d (.bool b)) L1 T1
  | .ife k a b, l, L, T, Q => wpC c k l L T fun r L1 T1 => wpIf r (wpE c a l L1 T1 Q) (wpE c b l L1 T1 Q)
  | .tup es, l, L, T, Q => wpEs c es l L T fun vs L1 T1 => wpTup vs fun v => Q v L1 T1
  | .lst es, l, L, T, Q => wpEs c es l L T fun vs L1 T1 => wpNewL vs L1 T1 Q
  | .comp two _ frs it k elt, l, L, T, Q => wpIt c it l L T fun vs lv L1 T1 => (match inner two frs l with
      | some l0 => 1 ≤ c.n ∧ ∀ acc, T1 acc = none → wpCp acc two lv (fun l' L2 T2 K => wpC c.dn k l' L2 T2 K) (fun l' L2 T2 K => wpE c.dn elt l' L2 T2 K) vs [] l0 L1 (upd T1 acc (.list [])) fun L3 T3 => Q (.tmp acc) L3 T3
      | none => False)
  | .callF g es, l, L, T, Q => wpEs c es l L T fun vs L1 T1 => CallOk c.dn g.raw vs L1 T1 Q
  | .mcall e m es, l, L, T, Q => wpE c e l L T fun v L1 T1 => (match v with
      | .ref i => (match nth L1 i with
        | some (.inst C _) => (match methOf C m with
          | some f => wpEs c es l L1 T1 fun vs L2 T2 => CallOk c.dn (.ref f) (.ref i :: vs) L2 T2 Q
          | none => False)
        | _ => False)
      | _ => False)
  | .new g es, l, L, T, Q => wpEs c es l L T fun vs L1 T1 => 1 ≤ c.n ∧ CallOk c.dn (.ref (initOf g.addr)) (.ref L1.length :: vs) (L1 ++ [.inst g.addr []]) T1 fun r L2 T2 => r = .d .none ∧ Q (.ref L1.length) L2 T2
  | .lapp e v, l, L, T, Q => wpE c e l L T fun o L1 T1 => wpGetL o L1 T1 fun _ => wpE c v l L1 T1 fun x L2 T2 => wpGetL o L2 T2 fun vs => vs.length < lid ∧ wpPutL o (vs ++ [x]) L2 T2 fun L3 T3 => Q (.d .none) L3 T3
  | .lpop e, l, L, T, Q => wpE c e l L T fun o L1 T1 => wpGetL o L1 T1 fun vs => ∃ r x, vs = r ++ [x] ∧ wpPutL o r L1 T1 fun L3 T3 => Q x L3 T3
  | .lrev e, l, L, T, Q => wpE c e l L T fun o L1 T1 => wpGetL o L1 T1 fun vs => wpPutL o vs.reverse L1 T1 fun L3 T3 => Q (.d .none) L3 T3
  | .dget e k d, l, L, T, Q => wpE c e l L T fun o L1 T1 => obj o L1 T1 fun ob0 => ob0.isDict ∧ wpE c k l L1 T1 fun x L2 T2 => wpE c d l L2 T2 fun y L3 T3 => obj o L3 T3 fun ob => (match ob, x with
      | .dS kvs, .d (.str z) => Q ((kvGet kvs z).getD y) L3 T3
      | .dI kvs, .d (.int z) => Q ((kvGet kvs z).getD y) L3 T3
      | .dT kvs, .d (.tuple zs) => (match intsOf zs with | some ks => Q ((kvGet kvs ks).getD y) L3 T3 | none => False)
      | _, _ => False)
  | .len e, l, L, T, Q => wpE c e l L T fun o L1 T1 => wpGetL o L1 T1 fun vs => Q (.d (.int vs.length)) L1 T1
  | .listOf e, l, L, T, Q => wpE c e l L T fun o L1 T1 => wpGetL o L1 T1 fun vs => wpNewL vs L1 T1 Q
  | .sorted e, l, L, T, Q => wpE c e l L T fun o L1 T1 => wpGetL o L1 T1 fun vs => ∃ ns : List Int, vs = ns.map (fun k => AV.d (.int k)) ∧ ∀ ms : List Int, ms.Perm ns → wpNewL (ms.map fun k => AV.d (.int k)) L1 T1 Q
  | .fstr ps, l, L, T, Q => wpPs c ps l L T fun L1 T1 => ∀ z, PyData.strOk z = true → Q (.d (.str z)) L1 T1
  | .dnew, _, L, T, Q => wpNewO (.dI []) L T Q ∨ wpNewO (.dS []) L T Q ∨ wpNewO (.dT []) L T Q
  | .bad, _, _, _, _ => False
noncomputable def wpC (c : Cx) : C → Loc → List AO → Tm → (Bool → LT) → Prop
  | .cmp op a b, l, L, T, Q => wpE c a l L T fun x L1 T1 => wpE c b l L1 T1 fun y L2 T2 => wpCmp op x y L2 T2 fun r => Q r L2 T2
  | .chain o1 o2 a b d, l, L, T, Q => wpE c a l L T fun x L1 T1 => wpE c b l L1 T1 fun y L2 T2 => wpCmp o1 x y L2 T2 fun r => wpIf r (wpE c d l L2 T2 fun z L3 T3 => wpCmp o2 y z L3 T3 fun r' => Q r' L3 T3) (Q false L2 T2)
  | .isin neg x d, l, L, T, Q => wpE c x l L T fun u L1 T1 => wpE c d l L1 T1 fun v L2 T2 => wpIn u v L2 T2 fun r => Q (if neg then !r else r) L2 T2
  | .not k, l, L, T, Q => wpC c k l L T fun r L1 T1 => Q (!r) L1 T1
  | .and a b, l, L, T, Q => wpC c a l L T fun r L1 T1 => wpIf r (wpC c b l L1 T1 Q) (Q false L1 T1)
  | .or a b, l, L, T, Q => wpC c a l L T fun r L1 T1 => wpIf r (Q true L1 T1) (wpC c b l L1 T1 Q)
  | .tru e, l, L, T, Q => wpE c e l L T fun v L1 T1 => (match v with | .d (.bool b) => Q b L1 T1 | _ => False)
  | .tt, _, L, T, Q => Q true L T
noncomputable def wpIt (c : Cx) : It → Loc → List AO → Tm → (List AV → Option (AV × List AV) → LT) → Prop
  | .r1 e, l, L, T, Q => wpE c e l L T fun v L1 T1 => (match v with | .d (.int k) => -bigI ≤ k ∧ k ≤ bigI ∧ Q (rangeAV 0 k.toNat) none L1 T1 | _ => False)
  | .r2 a b, l, L, T, Q => wpE c a l L T fun x L1 T1 => wpE c b l L1 T1 fun y L2 T2 => (match x, y with
      | .d (.int i), .d (.int k) => -bigI ≤ i ∧ i ≤ bigI ∧ -bigI ≤ k ∧ k ≤ bigI ∧ Q (rangeAV i (k - i).toNat) none L2 T2
      | _, _ => False)
  | .val e, l, L, T, Q => wpE c e l L T fun v L1 T1 => (match v with
      | .d (.tuple xs) => Q (xs.map AV.d) none L1 T1
      | v => wpGetL v L1 T1 fun vs => Q vs (some (v, vs)) L1 T1)
noncomputable def wpEs (c : Cx) : Es → Loc → List AO → Tm → (List AV → LT) → Prop
  | .nil, _, L, T, Q => Q [] L T
  | .cons e es, l, L, T, Q => wpE c e l L T fun v L1 T1 => wpEs c es l L1 T1 fun vs L2 T2 => Q (v :: vs) L2 T2
noncomputable def wpPs (c : Cx) : Es → Loc → List AO → Tm → LT → Prop
  | .nil, _, L, T, Q => Q L T
  | .cons e es, l, L, T, Q => wpE c e l L T fun v L1 T1 => strShort v ∧ wpPs c es l L1 T1 Q
end
noncomputable def wpS (c : Cx) : S → Loc → List AO → Tm → (Loc → LT) → (AV → LT) → Prop
  | .nil, l, L, T, K, _ => K l L T
  | .seq a b, l, L, T, K, R => wpS c a l L T (fun l1 L1 T1 => wpS c b l1 L1 T1 K R) R
  | .asg i e, l, L, T, K, _ => wpE c e l L T fun v L1 T1 => putNth l i (some v) fun l1 => K l1 L1 T1
  | .asg2 i j e, l, L, T, K, _ => wpE c e l L T fun v L1 T1 => (match v with
      | .d (.tuple [x, y]) => putNth l i (some (.d x)) fun l1 => putNth l1 j (some (.d y)) fun l2 => K l2 L1 T1
      | .mk x y => putNth l i (some x) fun l1 => putNth l1 j (some y) fun l2 => K l2 L1 T1
      | _ => False)
  | .setA o a e, l, L, T, K, _ => wpE c e l L T fun v L1 T1 => wpE c o l L1 T1 fun u L2 T2 => wpSetA u a v L2 fun L3 => K l L3 T2
  | .setI o i e, l, L, T, K, _ => wpE c e l L T fun v L1 T1 => wpE c o l L1 T1 fun u L2 T2 => wpE c i l L2 T2 fun j L3 T3 => obj u L3 T3 fun ob => (match ob, j with
      | .list vs, .d (.int k) => 0 ≤ k ∧ k < vs.length ∧ putObj u (.list (vs.set k.toNat v)) L3 T3 fun L4 T4 => K l L4 T4
      | .dS kvs, .d (.str z) => kvs.length < lid ∧ putObj u (.dS (kvPut kvs z v)) L3 T3 fun L4 T4 => K l L4 T4
      | .dI kvs, .d (.int z) => kvs.length < lid ∧ putObj u (.dI (kvPut kvs z v)) L3 T3 fun L4 T4 => K l L4 T4
      | .dT kvs, .d (.tuple zs) => (match intsOf zs with | some ks => kvs.length < lid ∧ putObj u (.dT (kvPut kvs ks v)) L3 T3 fun L4 T4 => K l L4 T4 | none => False)
      | _, _ => False)
  | .augL i e, l, L, T, K, _ => (match nth l i with
      | some (some (.d x)) => wpE c e l L T fun v L1 T1 => wpBin .add (.d x) v fun r => putNth l i (some r) fun l1 => K l1 L1 T1
      | some (some u) => wpE c e l L T fun v L1 T1 => wpGetL u L1 T1 fun vs => wpGetL v L1 T1 fun ws => (vs ++ ws).length ≤ lid ∧ wpPutL u (vs ++ ws) L1 T1 fun L2 T2 => putNth l i (some u) fun l1 => K l1 L2 T2
      | _ => False)
  | .augA o a e, l, L, T, K, _ => wpE c o l L T fun u L1 T1 => wpAttr u a L1 fun x => wpE c e l L1 T1 fun v L2 T2 => wpBin .add x v fun r => wpSetA u a r L2 fun L3 => K l L3 T2
  | .ex e, l, L, T, K, _ => wpE c e l L T fun _ L1 T1 => K l L1 T1
  | .ret e, l, L, T, _, R => wpE c e l L T R
  | .retN, _, L, T, _, R => R (.d .none) L T
  | .ite k a b, l, L, T, K, R => wpC c k l L T fun r L1 T1 => wpIf r (wpS c a l L1 T1 K R) (wpS c b l L1 T1 K R)
  | .whl k b, l, L, T, K, R => ∃ n, wpWhl (fun l' L1 T1 Q => wpC c k l' L1 T1 Q) (fun l' L1 T1 Q => wpS c b l' L1 T1 Q R) n l L T K
  | .fr i it b, l, L, T, K, R => wpIt c it l L T fun vs lv L1 T1 => wpFr lv i (fun l' L2 T2 Q => wpS c b l' L2 T2 Q R) vs l L1 T1 K
  | .delLo e lo, l, L, T, K, _ => wpE c e l L T fun o L1 T1 => wpE c lo l L1 T1 fun j L2 T2 => (match j with
      | .d (.int k) => 0 ≤ k ∧ k < bigI ∧ wpGetL o L2 T2 fun vs => wpPutL o (vs.take k.toNat) L2 T2 fun L3 T3 => K l L3 T3
      | _ => False)
  | .bad, _, _, _, _, _ => False
end Mine
end
section
namespace Mine
theorem nth_eq {α : Type} : ∀ (l : List α) (i : Nat), nth l i = l[i]?
  | [], _ => by simp [nth]
  | _ :: _, 0 => rfl
  | _ :: l, n + 1 => by rw [nth, nth_eq l n]; simp
theorem putNth_elim {α : Type} : ∀ {l : List α} {i : Nat} {x : α} {K : List α → Prop}, putNth l i x K → i < l.length ∧ K (l.set i x)
  | _ :: _, 0, _, _, h => ⟨Nat.zero_lt_succ _, h⟩
  | a :: l, n + 1, x, K, h => by
    have z := putNth_elim (l := l) (i := n) (x := x) (K := fun l' => K (a :: l')) h
    exact ⟨Nat.succ_lt_succ z.1, z.2⟩
noncomputable def FA (env : Env) (a : Addr) : Prop := a = env.locals ∨ ∃ n, (n, a) ∈ env.cells
noncomputable def SlotAt (env : Env) (m : Str → Option Value) (h : Heap) (ρ : RefMap) (x : Str) (v : AV) : Prop :=
  (env.kindOf x = some .local ∧ ∃ u, m x = some u ∧ Rep ρ h u v) ∨ ((env.kindOf x = some .cell ∨ env.kindOf x = some .free) ∧ ∃ c u, env.cells.lookup x = some c ∧ h.IsCell c (some u) ∧ Rep ρ h u v)
structure Frm (hR : Heap) (env : Env) (vars : List Str) (ρ : RefMap) (l : Loc) (T : Tm) (h : Heap) : Prop where
  kind : env.scope.kind = .function
  glob : env.globals = mainGlobals
  bi : env.builtins = builtinsNs
  len : l.length = vars.length
  nodup : vars.Nodup
  slot : ∃ m, h.Ns env.locals m ∧ ∀ (i : Nat) x v, vars[i]? = some x → l[i]? = some (some v) → SlotAt env m h ρ x v
  cells : ∀ x, env.kindOf x = some .cell → ∃ c u, env.cells.lookup x = some c ∧ h.IsCell c u
  apart : env.cells.Pairwise fun x y => x.2 ≠ y.2
  nl : ∀ p ∈ env.cells, p.2 ≠ env.locals
  addr : ∀ a, FA env a → ¬Own ρ T a ∧ hR.get? a = none ∧ ∃ o, h.get? a = some o
section
variable {hR : Heap} {env : Env} {vars : List Str} {ρ ρ' : RefMap} {l : Loc} {T T' : Tm} {s s' : Shared} {w : World} {L : List AO}
theorem Frm.ev (F : Frm hR env vars ρ l T s.heap) (e : Ev no s ρ T s' ρ' T') : Frm hR env vars ρ' l T' s'.heap := by
  have kp : ∀ a o, FA env a → s.heap.get? a = some o → s'.heap.get? a = some o := fun a o ha ho => e.keep a o ho (F.addr a ha).1 id
  refine ⟨F.kind, F.glob, F.bi, F.len, F.nodup, ?_, ?_, F.apart, F.nl, fun a ha => ⟨fun ho => ?_, (F.addr a ha).2.1, let ⟨o, z⟩ := (F.addr a ha).2.2; ⟨o, kp a o ha z⟩⟩⟩
  · refine e1a2 F.slot fun m x1_ hs => ?_; refine e3a4 x1_ fun o es ep h1 h2 h3 h4 => ?_
    refine ⟨m, ⟨o, es, ep, kp _ _ (.inl rfl) h1, h2, h3, h4⟩, fun i x v hx hv => ?_⟩
    rcases hs i x v hx hv with ⟨k, u, hu, r⟩ | ⟨k, c, u, hc, ⟨o, ho, hd⟩, r⟩
    · exact .inl ⟨k, u, hu, e.rep r⟩
    · exact .inr ⟨k, c, u, hc, ⟨o, kp _ _ (.inr ⟨x, mem_of_lookup hc⟩) ho, hd⟩, e.rep r⟩
  · intro x hx
    refine e2a2 (F.cells x hx) fun c u hc x3_ => ?_; refine e1a2 x3_ fun o ho hd => ?_
    exact ⟨c, u, hc, ⟨o, kp _ _ (.inr ⟨x, mem_of_lookup hc⟩) ho, hd⟩⟩
  · rcases e.own a ho with q | q
    · exact (F.addr a ha).1 q
    · refine e1a1 ((F.addr a ha).2.2) fun o z => ?_; rw [q] at z; cases z
theorem not_tup_dict {o : Obj} {es ep} (h : o.data = .dict es ep) : ¬TupObj o := fun ⟨_, _, _, e⟩ => by rw [h] at e; cases e
theorem not_tup_cell {o : Obj} {v} (h : o.data = .cell v) : ¬TupObj o := fun ⟨_, _, _, e⟩ => by rw [h] at e; cases e
theorem P_load {M : Model} {A : Around} {E : Value → Shared → Prop} {i : Nat} {x : Str} {v : AV} (F : Frm hR env vars ρ l T s.heap) (hx : vars[i]? = some x) (hn : (x == ("__classdict__" : Str)) = false) (hv : nth l i = some (some v)) :
    wpAny M A (loadName env x) (fun u s' => s' = s ∧ Rep ρ s.heap u v) E s := by
  rw [nth_eq] at hv
  refine e1a2 F.slot fun m hns hs => ?_
  rcases hs i x v hx hv with ⟨k, u, hu, r⟩ | ⟨k, c, u, hc, hcell, r⟩
  · exact wpAny_loadName_local F.kind k hns hu ⟨rfl, r⟩
  · rcases k with k | k
    · exact wpAny_loadName_cell F.kind k hc hcell ⟨rfl, r⟩
    · exact wpAny_loadName_free F.kind k hc hcell ⟨rfl, r⟩ hn
theorem set_get_ne {α : Type} {l : List α} {i j : Nat} {x : α} (h : i ≠ j) : (l.set i x)[j]? = l[j]? := List.getElem?_set_ne h
theorem P_store {M : Model} {A : Around} {E : Value → Shared → Prop} {i : Nat} {x : Str} {u : Value} {v : AV} (F : Frm hR env vars ρ l T s.heap) (G : Gd w hR ρ L T s) (hx : vars[i]? = some x) (hk : env.kindOf x = some .local ∨ env.kindOf x = some .cell) (r : Rep ρ s.heap u v) :
    wpAny M A (storeName env x u) (fun _ s' => Gd w hR ρ L T s' ∧ Ev (FA env) s ρ T s' ρ T ∧ Frm hR env vars ρ (l.set i (some v)) T s'.heap) E s := by
  have hil : i < l.length := by rw [F.len]; exact lt_of_get hx
  have ne : ∀ (j : Nat) y, vars[j]? = some y → j ≠ i → y ≠ x := fun j y hy hj q => by
    subst q
    have x7_ := List.getElem?_eq_some_iff.mp hx; have h1 := x7_.1; have e1 := x7_.2
    have x8_ := List.getElem?_eq_some_iff.mp hy; have h2 := x8_.1; have e2 := x8_.2
    exact hj ((List.getElem_inj F.nodup).mp (e2.trans e1.symm))
  refine e1a2 F.slot fun m hns hs => ?_
  rcases hk with hk | hk
  · refine wpAny_storeName_local hk hns (fun h' hn' hsb => ?_) (by rw [F.kind]; rfl)
    have hnt : ∀ o, s.heap.get? env.locals = some o → ¬TupObj o := by
      refine e3a3 hns fun o es ep ho hd _ => ?_
      intro o' ho'; rw [ho] at ho'; cases ho'; exact not_tup_dict hd
    obtain ⟨G', E'⟩ := G.stay (s' := { s with heap := h', toks := s.toks + 1 }) (fun a => a = env.locals) (fun b hb => by subst hb; exact ⟨(F.addr _ (.inl rfl)).1, (F.addr _ (.inl rfl)).2.1, hnt⟩) rfl rfl (fun b o hb _ => by subst hb; refine e3a2 hn' fun o' _ _ z _ => ?_; exact ⟨o', z⟩)
      (fun b o hb e => (hsb.2 b hb).trans e)
    have ck : ∀ {n c v}, env.cells.lookup n = some c → s.heap.IsCell c v → h'.IsCell c v := fun {n c v} hc ⟨o, ho, hd⟩ => ⟨o, (hsb.2 c (F.nl _ (mem_of_lookup hc))).trans ho, hd⟩
    refine ⟨G', E'.mono fun b hb => .inl hb, ⟨F.kind, F.glob, F.bi, by rw [List.length_set]; exact F.len, F.nodup, ⟨_, hn', fun j y z hy hz => ?_⟩, fun y hy => ?_, F.apart, F.nl, fun a ha => ⟨(F.addr a ha).1, (F.addr a ha).2.1, let ⟨o, z⟩ := (F.addr a ha).2.2; E'.alive a o z⟩⟩⟩
    · by_cases hj : j = i
      · subst hj
        rw [hx] at hy; cases hy
        rw [List.getElem?_set_self hil] at hz; cases hz
        exact .inl ⟨hk, u, by simp, E'.rep r⟩
      · rw [set_get_ne (Ne.symm hj)] at hz
        rcases hs j y z hy hz with ⟨k, u', hu, r'⟩ | ⟨k, c, u', hc, hcell, r'⟩
        · exact .inl ⟨k, u', by simpa [ne j y hy hj] using hu, E'.rep r'⟩
        · exact .inr ⟨k, c, u', hc, ck hc hcell, E'.rep r'⟩
    · refine e2a2 (F.cells y hy) fun c u' hc hcell => ?_
      exact ⟨c, u', hc, ck hc hcell⟩
  · refine e2a2 (F.cells x hk) fun c u₀ hc hcell => ?_
    refine wpAny_storeName_cell F.kind hk hc hcell fun h' hcl hsb => ?_
    have hca : FA env c := .inr ⟨x, mem_of_lookup hc⟩
    have hnt : ∀ o, s.heap.get? c = some o → ¬TupObj o := by
      refine e1a2 hcell fun o ho hd => ?_
      intro o' ho'; rw [ho] at ho'; cases ho'; exact not_tup_cell hd
    obtain ⟨G', E'⟩ := G.stay (s' := { s with heap := h' }) (fun a => a = c) (fun b hb => by subst hb; exact ⟨(F.addr _ hca).1, (F.addr _ hca).2.1, hnt⟩) rfl rfl (fun b o hb _ => by subst hb; refine e1a2 hcl fun o' z _ => ?_; exact ⟨o', z⟩)
      (fun b o hb e => (hsb.2 b hb).trans e)
    have cne : env.locals ≠ c := (F.nl _ (mem_of_lookup hc)).symm
    have ck : ∀ {n c' v}, n ≠ x → env.cells.lookup n = some c' → s.heap.IsCell c' v → h'.IsCell c' v := fun {n c' v} hnx hc' ⟨o, ho, hd⟩ => ⟨o, (hsb.2 c' (fun q => by
      subst q; exact hnx (name_of_addr F.apart (mem_of_lookup hc') (mem_of_lookup hc)))).trans ho, hd⟩
    refine ⟨G', E'.mono fun b hb => hb ▸ hca, ⟨F.kind, F.glob, F.bi, by rw [List.length_set]; exact F.len, F.nodup, ⟨m, hns.sameBut hsb cne, fun j y z hy hz => ?_⟩, fun y hy => ?_, F.apart, F.nl, fun a ha => ⟨(F.addr a ha).1, (F.addr a ha).2.1, let ⟨o, z⟩ := (F.addr a ha).2.2; E'.alive a o z⟩⟩⟩
    · by_cases hj : j = i
      · subst hj
        rw [hx] at hy; cases hy
        rw [List.getElem?_set_self hil] at hz; cases hz
        exact .inr ⟨.inl hk, c, u, hc, hcl, E'.rep r⟩
      · rw [set_get_ne (Ne.symm hj)] at hz
        rcases hs j y z hy hz with ⟨k, u', hu, r'⟩ | ⟨k, c', u', hc', hcell', r'⟩
        · exact .inl ⟨k, u', hu, E'.rep r'⟩
        · exact .inr ⟨k, c', u', hc', ck (ne j y hy hj) hc' hcell', E'.rep r'⟩
    · by_cases hyx : y = x
      · subst hyx; exact ⟨c, _, hc, hcl⟩
      · refine e2a2 (F.cells y hy) fun c' u' hc' hcell' => ?_
        exact ⟨c', u', hc', ck hyx hc' hcell'⟩
end
theorem tab_rep {ρ : RefMap} {h : Heap} {r : List Value} {vs : List Value} {as : List AV} (k : RepL ρ h vs as) : ∀ n, Rep ρ h (tab .none (vs ++ r) n) (tab (.glob (tab .none (vs ++ r) n)) as n) := by
  induction k with
  | nil => exact fun n => .glob
  | cons a _ ih => exact fun n => n.casesOn a ih
theorem gl_look (P : Params) (g : Gl) : nsIn (Kof pp P) mainGlobals g.nm = some (some g.raw) := by
  have k : ∀ P, (glAll.all fun g => nsIn (Kof pp P) mainGlobals g.nm == some (some g.raw)) = true := by intro P; kernel_rfl!
  exact beq_iff_eq.mp (List.all_eq_true.mp (k P) g (gl_mem g))
theorem gl_rep {w : World} {h : Heap} (X : (Kof pp w.params).In h) (ρ : RefMap) (g : Gl) : Rep ρ h g.raw g.val := by
  have v : h.get? 180 = some ⟨.type "tuple", none, .seq #[.int 5 425, .int 0 429] 0, #[]⟩ := X _ _ (by kernel_rfl!)
  have k : RepL ρ h glV glA := .cons (.d (.int _ _)) <| .cons (.d (.int _ _)) <| .cons (.d (.int _ _)) <| .cons (.d (.int _ _)) <| .cons (.d (.int _ _)) <| .cons (.d (.int _ _)) <| .cons (.d (.int _ _)) <| .cons (.d (.int _ _)) <| .cons (.d (.int _ _)) <| .cons (.d (.int _ _)) <| .cons (.d (.int _ _)) <| .cons (.d (.tuple v rfl rfl (.cons (as := []) (.int _ _) (.cons (as := []) (.int _ _) .nil)))) <| .cons (.d (.str _ _)) <| .cons (.d (.int _ _)) <| .cons (.d (.int _ _)) <| .cons (.d (.int _ _)) <| .cons (.d (.int _ _)) <| .cons (.d (.int _ _)) <| .cons (.d (.int _ _)) <| .cons (.d (.int _ _)) <| .cons (.d (.int _ _)) <| .nil
  exact tab_rep k g.1
structure ClsFacts (K : Frag) (C : Addr) : Prop where
  ga : findIn K (.ref C) "__getattribute__" = some (some (.builtin "object.__getattribute__"))
  gt : findIn K (.ref C) "__getattr__" = some none
  hd : hasDictIn K C = true
  sa : findIn K (.ref C) "__setattr__" = some (some (.builtin "object.__setattr__"))
  po : plainOver K C = true
  at_ : ∀ a : At, findIn K (.ref C) a.name = some none
  tk : ∀ a : At, takerIn K C a.name = some none
theorem clsFacts (P : Params) {C : Addr} (hC : C ∈ ownCls) : ClsFacts (Kof pp P) C := by
  have k : ∀ P, (ownCls.all fun C => findIn (Kof pp P) (.ref C) "__getattribute__" == some (some (.builtin "object.__getattribute__")) && findIn (Kof pp P) (.ref C) "__getattr__" == some none && hasDictIn (Kof pp P) C &&
      findIn (Kof pp P) (.ref C) "__setattr__" == some (some (.builtin "object.__setattr__")) && plainOver (Kof pp P) C && atAll.all fun a => findIn (Kof pp P) (.ref C) a.name == some none && takerIn (Kof pp P) C a.name == some none) = true := by intro P; kernel_rfl!
  have z := List.all_eq_true.mp (k P) C hC
  simp only [Bool.and_eq_true, beq_iff_eq] at z
  obtain ⟨⟨⟨⟨⟨z1, z2⟩, z3⟩, z4⟩, z5⟩, z6⟩ := z
  have y := fun a : At => List.all_eq_true.mp z6 a (at_mem a)
  simp only [Bool.and_eq_true, beq_iff_eq] at y
  exact ⟨z1, z2, z3, z4, z5, fun a => (y a).1, fun a => (y a).2⟩
theorem meth_look (P : Params) {C f : Addr} {m : Mt} (hC : C ∈ ownCls) (e : methOf C m = some f) : findIn (Kof pp P) (.ref C) m.nm = some (some (.ref f)) ∧ keepIn (Kof pp P) (.ref f) = true ∧ isFn (Kof pp P) (.ref f) = true := by
  have k : ∀ P, (ownCls.all fun C => mtAll.all fun m => match methOf C m with | some f => findIn (Kof pp P) (.ref C) m.nm == some (some (.ref f)) && keepIn (Kof pp P) (.ref f) && isFn (Kof pp P) (.ref f) | none => true) = true := by intro P; kernel_rfl!
  have z := List.all_eq_true.mp (List.all_eq_true.mp (k P) C hC) m (mt_mem m)
  rw [e] at z
  simp only [Bool.and_eq_true, beq_iff_eq] at z
  exact ⟨z.1.1, z.1.2, z.2⟩
theorem repA_none {ρ : RefMap} {h : Heap} {es fs} (r : RepA ρ h es fs) {x : Str} (hx : ∀ a ∈ fs, a.1.name ≠ x) : getL x es = some none := by
  have h1 : es.find? (·.key.isStr x) = none := by
    induction r with
    | nil => rfl
    | @cons e es k t v a as hk _ _ _ ih =>
      rw [List.find?_cons, hk]
      have : (Value.str k.name t).isStr x = false := by
        have := hx (k, a) (.head _)
        show (k.name == x) = false
        exact beq_eq_false_iff_ne.mpr this
      rw [this]; exact ih fun a ha => hx a (.tail _ ha)
  have h2 : es.any (·.refKey) = false := by
    clear h1 hx
    induction r with
    | nil => rfl
    | @cons e es k t v a as hk _ _ _ ih => rw [List.any_cons, ih, Bool.or_false]; simp [DictEntry.refKey, hk]
  unfold getL
  rw [h1, h2]; rfl
theorem repA_noref {ρ : RefMap} {h : Heap} {es fs} (r : RepA ρ h es fs) (x : Str) : (getL x es).isSome = true := by
  have h2 : es.any (·.refKey) = false := by
    induction r with
    | nil => rfl
    | @cons e es k t v a as hk _ _ _ ih => rw [List.any_cons, ih, Bool.or_false]; simp [DictEntry.refKey, hk]
  unfold getL
  rw [h2]
  split <;> rfl
theorem repA_get {ρ : RefMap} {h : Heap} {es fs} (r : RepA ρ h es fs) {a : At} {v : AV} (e : lookA fs a = some v) : ∃ u, getL a.name es = some (some u) ∧ Rep ρ h u v := by
  have k : ∃ en, es.find? (·.key.isStr a.name) = some en ∧ Rep ρ h en.val v := by
    induction r with
    | nil => cases e
    | @cons en es k t u x as hk hu hr _ ih =>
      rw [List.find?_cons, hk]
      unfold lookA at e
      split at e
      · rename_i q _
        cases e
        subst q
        have : (Value.str k.name t).isStr k.name = true := by show (k.name == k.name) = true; exact beq_self_eq_true _
        rw [this]; exact ⟨en, rfl, hu ▸ hr⟩
      · rename_i q _
        have : (Value.str k.name t).isStr a.name = false := by show (k.name == a.name) = false; exact beq_eq_false_iff_ne.mpr fun z => q (at_inj z)
        rw [this]; exact ih e
  refine e1a2 k fun en h1 h2 => ?_
  refine ⟨en.val, ?_, h2⟩
  unfold getL; rw [h1]
theorem putA_elim {fs : List (At × AV)} {a : At} {v : AV} {K : List (At × AV) → Prop} (h : putA fs a v K) : ∃ fs', K fs' ∧ fs'.length ≤ fs.length + 1 ∧
    ∀ ρ h es (hsh : Int) (t : Tok) (u : Value), RepA ρ h es fs → Rep ρ h u v → RepA ρ h (putL a.name hsh (.str a.name t) u es) fs' := by
  induction fs generalizing K with
  | nil => exact ⟨_, h, by simp, fun ρ h es hsh t u r q => by cases r; exact .cons rfl rfl q .nil⟩
  | cons p r ih =>
    obtain ⟨m, x⟩ := p
    unfold putA at h
    split at h
    · rename_i q _
      subst q
      refine ⟨_, h, by simp, fun ρ h es hsh t u r q => ?_⟩
      cases r with
      | cons hk hu hr r' =>
        unfold putL
        rw [hk]
        have : ∀ t, (Value.str m.name t).isStr m.name = true := fun t => by show (m.name == m.name) = true; exact beq_self_eq_true _
        rw [this, if_pos rfl]; exact .cons rfl rfl q r'
    · rename_i q _
      obtain ⟨fs', k, hl, hh⟩ := ih h
      refine ⟨_, k, by simp only [List.length_cons]; lia, fun ρ h es hsh t u r z => ?_⟩
      cases r with
      | cons hk hu hr r' =>
        unfold putL
        rw [hk]
        have : ∀ t, (Value.str m.name t).isStr a.name = false := fun t => by show (m.name == a.name) = false; exact beq_eq_false_iff_ne.mpr fun z => q (at_inj z)
        rw [this, if_neg Bool.false_ne_true]; exact .cons hk hu hr (hh ρ h _ hsh t u r' z)
theorem repA_len {ρ : RefMap} {h : Heap} {es fs} (r : RepA ρ h es fs) : es.length = fs.length := by
  induction r with
  | nil => rfl
  | cons _ _ _ _ i => simp [i]
theorem putL_len (name : Str) (hsh : Int) (key v : Value) : ∀ es : List DictEntry, (putL name hsh key v es).length ≤ es.length + 1
  | [] => by simp [putL]
  | e :: r => by
    unfold putL
    split
    · simp
    · simp only [List.length_cons]; have := putL_len name hsh key v r; lia
section
variable {c : Cx} {A : Around} {s : Shared} {ρ : RefMap} {L : List AO} {T : Tm} {u : Value} {v : AV}
abbrev Bk (c : Cx) (s : Shared) (ρ : RefMap) (T : Tm) (Q : AV → LT) : Value → Shared → Prop := Back c.w c.hR s ρ T Q
abbrev M (c : Cx) : Model := model pp c.w
abbrev E0 : Value → Shared → Prop := fun _ _ => False
theorem Stat.here {w : World} {hR : Heap} (S : Stat w hR) (G : Gd w hR ρ L T s) : (Kof pp w.params).In s.heap := S.K.keeps G.root
theorem bk_now (G : Gd c.w c.hR ρ L T s) {Q : AV → LT} (r : Rep ρ s.heap u v) (q : Q v L T) : Bk c s ρ T Q u s := ⟨ρ, v, L, T, G, Ev.refl .., r, q⟩
theorem bk_toks {s : Shared} (G : Gd c.w c.hR ρ L T s) {Q : AV → LT} (t : Nat) (r : Rep ρ s.heap u v) (q : Q v L T) : Bk c s ρ T Q u { s with toks := t } :=
  let z := G.toks t; ⟨ρ, v, L, T, z.1, z.2, z.2.rep r, q⟩
theorem get_inst {i : Nat} {o : AO} (G : Gd c.w c.hR ρ L T s) (r : Rep ρ s.heap u (.ref i)) (e : nth L i = some o) : ∃ a d, u = .ref a ∧ ρ[i]? = some (a, d) ∧ L[i]? = some o ∧ ObjRep c.w ρ s.heap a d o := by
  rw [nth_eq] at e
  cases r with
  | ref h => exact ⟨_, _, rfl, h, e, G.ob.rep i _ _ _ h e⟩
theorem inst_at {h : Heap} {a d C : Addr} {fs : List (At × AV)} (r : ObjRep c.w ρ h a d (.inst C fs)) : ∃ es n, InstAt h a (instObj C d) C (some (dictOf es n)) ∧ es.length ≤ 900 ∧ RepA ρ h es fs := by
  obtain ⟨_, _, h3, es, n, h4, h5, h6⟩ := r
  exact ⟨es, n, ⟨h3, rfl, rfl, h4⟩, h5, h6⟩
theorem handed_ref {ρ : RefMap} {h : Heap} {u : Value} {v : AV} (r : Rep ρ h u v) (hg : ∀ x, v = .glob x → handedIn x = true) : handedIn u = true := by
  cases r with
  | d r => cases r <;> rfl
  | ref => rfl
  | tmp => rfl
  | glob => exact hg _ rfl
  | mk => rfl
theorem P_getAttr {a : At} {b : Bool} {Q : AV → LT} (S : Stat c.w c.hR) (G : Gd c.w c.hR ρ L T s) (r : Rep ρ s.heap u v) (h : wpAttr v a L fun x => Q x L T) : wpAny (M c) A (getAttr u a.name b) (Bk c s ρ T Q) E0 s := by
  unfold wpAttr at h
  split at h
  · rename_i i
    split at h
    · rename_i C fs e
      split at h
      · exact h.elim
      · rename_i x hng hx
        refine e2a4 (get_inst G r e) fun p d x13_ h1 h2 h3 => ?_; subst x13_
        refine e2a3 (inst_at h3) fun es n I h5 h6 => ?_
        have CF := clsFacts c.w.params h3.2.1
        have X := S.here G
        refine e1a2 (repA_get h6 hx) fun y hy ry => ?_
        exact get_value X I CF.ga (findObj_own CF.hd (CF.at_ a) rfl hy) (handed_ref ry fun z hz => (hng z hz).elim) (bk_toks G _ ry h)
      · exact h.elim
    · exact h.elim
  · exact h.elim
theorem dict_set_at {K : Frag} {C x dx : Addr} {name : Str} {v : Value} {es : List DictEntry} {n : Nat} {M' : Program} {w : World} {Q : Unit → Shared → Prop} (X : K.In s.heap) (I : InstAt s.heap x (instObj C dx) C (some (dictOf es n)))
    (hs : findIn K (.ref C) "__setattr__" = some (some (.builtin "object.__setattr__"))) (hp : plainOver K C = true) (ht : takerIn K C name = some none) (hh : hasDictIn K C = true) (hl : (getL name es).isSome = true) (hz : es.length ≤ 900)
    (h : ∀ h' tk, Heap.SameBut dx s.heap h' → h'.get? dx = some (dictOf (putL name (PyData.keyHash w.params name) (.str name tk) v es) (putN name es n)) → Q () { s with heap := h', toks := s.toks + 2 }) :
    wpAny (model M' w) A (setAttr (.ref x) name v) Q E0 s := by
  refine set_plain X I hs (osa_open (s := { s with toks := s.toks + 1 }) X I hp ht fun b => ?_)
  refine e1a2 (any_some hh) fun cd hc hd' => ?_
  obtain ⟨hx, hcl, hn, hD⟩ := I
  have D : s.heap.get? dx = some (dictOf es n) := hD
  have e' := putName_dict name (PyData.keyHash w.params name) (.str name (s.toks + 1)) v es n
  have D' : (s.heap.update dx (Obj.putName name (PyData.keyHash w.params name) (.str name (s.toks + 1)) v)).get? dx = some (dictOf (putL name (PyData.keyHash w.params name) (.str name (s.toks + 1)) v es) (putN name es n)) := by
    have := Heap.get?_update_self (Obj.putName name (PyData.keyHash w.params name) (.str name (s.toks + 1)) v) D (by rw [e']; rfl)
    rw [e'] at this; exact this
  refine wpAny_bind (wpAny_pure (wpAny_bind (wpAny_bind (wpAny_loadPart hx (wpAny_bind (Looks.here (s := { s with toks := s.toks + 1 }) (looks_clsIn X hc) ?_))))))
  rw [hd']
  refine wpAny_pure (a := some dx) (wpAny_bind (wpAny_pure (wpAny_bind ?_)))
  unfold nsSet
  refine wpAny_bind (wpAny_bind (wpAny_askSetting (wpAny_pure (wpAny_bind (wpAny_mkText (wpAny_bind (wpAny_loadPart D ?_)))))))
  have hq : (!es.any (·.key.isStr name) && es.any (·.refKey)) = false := by
    unfold getL at hl
    split at hl
    · rename_i en he
      rw [List.any_eq_true.mpr ⟨en, List.mem_of_find?_eq_some he, List.find?_some he⟩]; rfl
    · split at hl
      · cases hl
      · rename_i z; rw [Bool.not_eq_true] at z; rw [z, Bool.and_false]
  dsimp only
  rw [aRefKeyMayBeTheName_at]
  have hq' : (!es.toArray.any (·.key.isStr name) && es.toArray.any (·.refKey)) = false := by rw [← Array.any_toList, ← Array.any_toList]; exact hq
  rw [hq']
  refine wpAny_updatePart D ?_
  refine wpAny_bind (wpAny_lookBehind D' (pastItsLine_dict (by rw [List.size_toArray, sizeLine_eq]; have := putL_len name (PyData.keyHash w.params name) (.str name (s.toks + 1)) v es; lia)) ?_)
  exact wpAny_pure (h _ _ (Heap.SameBut.update ..) D')
theorem P_setAttr {a : At} {x : AV} {ux : Value} {K : List AO → Prop} (S : Stat c.w c.hR) (G : Gd c.w c.hR ρ L T s) (r : Rep ρ s.heap u v) (rx : Rep ρ s.heap ux x) (h : wpSetA v a x L K) :
    wpAny (M c) A (setAttr u a.name ux) (fun _ s' => ∃ L', Gd c.w c.hR ρ L' T s' ∧ Ev no s ρ T s' ρ T ∧ K L') E0 s := by
  unfold wpSetA at h
  split at h
  · rename_i i
    split at h
    · rename_i C fs e
      have hlen := h.1; have h := h.2
      refine e1a3 (putA_elim h) fun fs' hK hl hput => ?_
      have x19_ := putNth_elim hK; have hi := x19_.1; have hK := x19_.2
      refine e2a4 (get_inst G r e) fun p d x20_ h1 h2 h3 => ?_; subst x20_
      refine e2a3 (inst_at h3) fun es n I h5 h6 => ?_
      have CF := clsFacts c.w.params h3.2.1
      have X := S.here G
      have hlen' : es.length < 800 := by rw [repA_len h6]; exact hlen
      refine dict_set_at X I CF.sa CF.po (CF.tk a) CF.hd (repA_noref h6 _) (by lia) fun h' tk hs hd => ?_
      have ts : TupStay s.heap h' := fun b o e' ht => (hs.2 b (by rintro rfl; exact (I.dict : s.heap.get? b = some (dictOf es n)) |> fun q => by rw [q] at e'; cases e'; exact not_tup_dict rfl ht)).trans e'
      have nd : p ≠ d := fun q => h3.1 q.symm
      have ob : ObjRep c.w ρ h' p d (.inst C fs') := ⟨h3.1, h3.2.1, (hs.2 p nd).trans h3.2.2.1, _, _, hd, by have := putL_len a.name (PyData.keyHash c.w.params a.name) (.str a.name tk) ux es; lia, hput ρ h' _ _ tk ux (h6.stay ts fun _ _ e => e) (rx.stay ts fun _ _ e => e)⟩
      have x23_ := G.setL (s' := { s with heap := h', toks := s.toks + 2 }) h1 (.inr rfl) hs rfl rfl ob; have G' := x23_.1; have E' := x23_.2
      exact ⟨_, G', E', hK⟩
    · exact h.elim
  · exact h.elim
end
end Mine
end
section
namespace Mine
section
variable {c : Cx} {A : Around} {s : Shared} {ρ : RefMap} {L : List AO} {T : Tm} {u u' : Value} {v v' : AV}
theorem seqIndex_nat {n k : Nat} (h : n < k) : seqIndex? (Int.ofNat n) k = some n := by
  have h1 : ¬((Int.ofNat n) < 0) := by simp only [Int.ofNat_eq_natCast]; lia
  have h2 : (decide (0 ≤ Int.ofNat n) && decide (Int.ofNat n < (k : Int))) = true := by
    simp only [Int.ofNat_eq_natCast, Bool.and_eq_true, decide_eq_true_eq]; lia
  unfold seqIndex?
  simp only [h1, if_false, h2, if_true]
  rfl
theorem lid_fits {n : Nat} (h : n ≤ lid) : n ≤ sizeLine := by rw [sizeLine_eq]; exact Nat.le_trans h (by decide)
structure AtL (c : Cx) (ρ : RefMap) (L : List AO) (T : Tm) (s : Shared) (v : AV) (a : Addr) (vs : List AV) : Prop where
  len : vs.length ≤ lid
  at_ : ∃ ws n, IsL s.heap a (List.toArray ws) n ∧ RepL ρ s.heap ws vs
  put : ∀ (K : LT) (vs' : List AV) (s' : Shared) (ws' : List Value) (n' : Nat), wpPutL v vs' L T K → vs'.length ≤ lid → Heap.SameBut a s.heap s'.heap → s'.gens = s.gens → s'.os = s.os → IsL s'.heap a (List.toArray ws') n' → RepL ρ s.heap ws' vs' →
    ∃ L' T', Gd c.w c.hR ρ L' T' s' ∧ Ev no s ρ T s' ρ T' ∧ K L' T'
theorem getL_elim {K : List AV → Prop} (G : Gd c.w c.hR ρ L T s) (r : Rep ρ s.heap u v) (h : wpGetL v L T K) : ∃ a vs, u = .ref a ∧ AtL c ρ L T s v a vs ∧ K vs := by
  have ts : ∀ {a : Addr} {h' : Heap}, NotTup s.heap a → Heap.SameBut a s.heap h' → TupStay s.heap h' := fun ⟨o, ho, hn⟩ hs b o' e ht => (hs.2 b (by rintro rfl; rw [ho] at e; cases e; exact hn ht)).trans e
  unfold wpGetL at h
  split at h
  · rename_i i
    split at h
    · rename_i vs e
      refine e2a4 (get_inst G r e) fun a d x1_ h1 h2 h3 => ?_; subst x1_
      have nt := h3.there.1
      obtain ⟨rfl, hl, ws, n, h4, h5⟩ := h3
      refine ⟨_, vs, rfl, ⟨hl, ⟨ws, n, h4, h5⟩, fun K vs' s' ws' n' hK hl' hs hg hos hat hr => ?_⟩, h⟩
      have x3_ := putNth_elim hK; have hi := x3_.1; have hK := x3_.2
      have x4_ := G.setL (s' := s') h1 (.inl rfl) hs hg hos (o := .list vs') ⟨rfl, hl', ws', n', hat, hr.stay (ts nt hs) fun _ _ e => e⟩; have G' := x4_.1; have E' := x4_.2
      exact ⟨_, _, G', E', hK⟩
    · exact h.elim
  · rename_i a
    refine e1a2 h fun vs hT hK => ?_
    cases r
    have h3 := (G.ob.tmp a _ hT).1
    have nt := h3.there.1
    obtain ⟨_, hl, ws, n, h4, h5⟩ := h3
    refine ⟨_, vs, rfl, ⟨hl, ⟨ws, n, h4, h5⟩, fun K vs' s' ws' n' hK hl' hs hg hos hat hr => ?_⟩, hK⟩
    have x5_ := G.setT (s' := s') hT hs hg hos (o := .list vs') ⟨rfl, hl', ws', n', hat, hr.stay (ts nt hs) fun _ _ e => e⟩ trivial; have G' := x5_.1; have E' := x5_.2
    exact ⟨_, _, G', E', hK⟩
  · exact h.elim
theorem newL_elim {vs : List AV} {ws : List Value} {Q : AV → LT} (G : Gd c.w c.hR ρ L T s) {s' : Shared} (r : RepL ρ s.heap ws vs) (hg : s'.gens = s.gens) (hos : s'.os = s.os) (hk : ∀ b o, s.heap.get? b = some o → s'.heap.get? b = some o)
    {a : Addr} {n : Nat} (ha : s.heap.objs.size ≤ a) (hat : s'.heap.get? a = some (listOf (List.toArray ws) n)) (h : wpNewL vs L T Q) : Bk c s ρ T Q (.ref a) s' := by
  have hl := h.1; have h := h.2
  have ts := TupStay.of_keep hk
  rcases h with h | h
  · obtain ⟨G', E', e⟩ := G.addL (s' := s') ha ha hg hos hk (o := .list vs) ⟨rfl, hl, ws, n, hat, r.stay ts fun i q h => by rw [List.getElem?_append_left (lt_of_get h)]; exact h⟩
    exact ⟨_, _, _, _, G', E', .ref e, h⟩
  · have x6_ := G.addT (s' := s') ha hg hos hk (o := .list vs) ⟨rfl, hl, ws, n, hat, r.stay ts fun _ _ e => e⟩ trivial; have e := x6_.1; have G' := x6_.2.1; have E' := x6_.2.2
    exact ⟨_, _, _, _, G', E', .tmp, h a e⟩
theorem P_newList {vs : List AV} {ws : List Value} {Q : AV → LT} (G : Gd c.w c.hR ρ L T s) (r : RepL ρ s.heap ws vs) (h : wpNewL vs L T Q) : wpAny (M c) A (newList ws) (Bk c s ρ T Q) E0 s :=
  wpAny_newList (newL_elim (s' := { s with heap := s.heap.push { cls := .type "list", data := .seq ws.toArray } }) G r rfl rfl (fun _ _ e => Heap.get?_push_of_some _ e) (Nat.le_refl _) (Heap.get?_push_size _ rfl) h) (by rw [r.length]; exact lid_fits h.1)
theorem allD_cons {a : AV} {vs : List AV} {xs : List PyData} (e : allD (a :: vs) = some xs) : ∃ x l, a = .d x ∧ allD vs = some l ∧ xs = x :: l := by
  cases a with
  | d x =>
    cases hl : allD vs with
    | none => rw [allD, hl] at e; cases e
    | some l => rw [allD, hl] at e; cases e; exact ⟨x, l, rfl, rfl, rfl⟩
  | _ => cases e
theorem readsAll_of {ρ : RefMap} {h : Heap} {ws : List Value} {vs : List AV} (r : RepL ρ h ws vs) : ∀ {xs : List PyData}, allD vs = some xs → ReadsAll h ws xs [] := by
  induction r with
  | nil => intro xs e; cases e; exact .nil
  | cons r _ ih =>
    intro xs e
    refine e2a3 (allD_cons e) fun x l e1 e2 e3 => ?_
    subst e1; subst e3
    cases r with
    | d r => exact .cons (as := []) r (ih e2)
theorem P_newTuple {vs : List AV} {ws : List Value} {Q : AV → LT} (G : Gd c.w c.hR ρ L T s) (r : RepL ρ s.heap ws vs) (hl : vs.length ≤ lid) (h : wpTup vs fun x => Q x L T) : wpAny (M c) A (newTuple ws) (Bk c s ρ T Q) E0 s := by
  have hk : ∀ b o, s.heap.get? b = some o → (s.heap.push { cls := .type "tuple", data := .seq ws.toArray }).get? b = some o := fun _ _ e => Heap.get?_push_of_some _ e
  obtain ⟨G', E'⟩ := G.keepAll (s' := { s with heap := s.heap.push { cls := .type "tuple", data := .seq ws.toArray } }) rfl rfl hk
  have r' := r.stay (TupStay.of_keep hk) (ρ' := ρ) fun _ _ e => e
  have ha : (s.heap.push { cls := .type "tuple", data := .seq ws.toArray }).get? s.heap.objs.size = some { cls := .type "tuple", data := .seq ws.toArray } := Heap.get?_push_size _ rfl
  refine wpAny_newTuple ?_ (by rw [r.length]; exact lid_fits hl)
  unfold wpTup at h
  split at h
  · rename_i xs e
    exact ⟨_, _, _, _, G', E', .d (.tuple ha rfl rfl (readsAll_of r' e)), h⟩
  · split at h
    · rename_i a b
      cases r' with
      | cons r1 r2 => cases r2 with
        | cons r2 r3 => cases r3; exact ⟨_, _, _, _, G', E', .mk ha r1 r2, h⟩
    · exact h.elim
theorem idx_elim {vs : List AV} {k : Int} {x : AV} (h : idx vs k = some x) : (0 ≤ k ∧ vs[k.toNat]? = some x) ∨ (k < 0 ∧ -(vs.length : Int) ≤ k ∧ vs[(k + vs.length).toNat]? = some x) := by
  unfold idx at h
  split at h
  · rename_i h0; exact .inl ⟨h0, h⟩
  · split at h
    · rename_i h0 h1; exact .inr ⟨by lia, h1, by rw [Int.add_comm]; exact h⟩
    · cases h
theorem readsAll_get {h : Heap} {ws : List Value} {xs : List PyData} {as : List Addr} (r : ReadsAll h ws xs as) : as = [] → ∀ {n : Nat} {x : PyData}, nth xs n = some x → ∃ y, ws[n]? = some y ∧ Reads h y x [] :=
  ReadsAll.rec (motive_1 := fun _ _ _ _ => True) (motive_2 := fun ws xs as _ => as = [] → ∀ {n : Nat} {x : PyData}, nth xs n = some x → ∃ y, ws[n]? = some y ∧ Reads h y x [])
    trivial (fun _ => trivial) (fun _ _ => trivial) (fun _ _ => trivial) (fun _ _ _ _ _ => trivial) (fun _ _ _ _ _ => trivial) (fun _ _ _ _ _ _ _ => trivial)
    (fun _ _ _ e => nomatch e) (fun {v _ _ _ as _} r _ _ ih q n x e => by
      have q1 := (List.append_eq_nil_iff.mp q).1
      subst q1
      cases n with
      | zero => cases e; exact ⟨v, rfl, r⟩
      | succ n => exact ih q e) r
theorem sub_elim {v i : AV} {K : AV → Prop} (h : wpSub v i L T K) : (∃ xs n x, v = .d (.tuple xs) ∧ i = .d (.int (.ofNat n)) ∧ nth xs n = some x ∧ n < 1000 ∧ K (.d x)) ∨ ∃ k, i = .d (.int k) ∧ wpGetL v L T fun vs => ∃ x, idx vs k = some x ∧ K x := by
  cases v with
  | d x => cases x with
    | tuple xs => cases i with
      | d y => cases y with
        | int k => cases k with
          | ofNat n =>
            change (match nth xs n with | some x => n < 1000 ∧ K (.d x) | none => False) at h
            cases e : nth xs n with
            | none => rw [e] at h; exact h.elim
            | some x => rw [e] at h; exact .inl ⟨xs, n, x, rfl, rfl, e, h.1, h.2⟩
          | negSucc n => exact h.elim
        | _ => exact h.elim
      | _ => exact h.elim
    | _ => cases i <;> exact h.elim
  | ref j => cases i with
    | d y => cases y with
      | int k => exact .inr ⟨k, rfl, h⟩
      | _ => exact h.elim
    | _ => exact h.elim
  | tmp a => cases i with
    | d y => cases y with
      | int k => exact .inr ⟨k, rfl, h⟩
      | _ => exact h.elim
    | _ => exact h.elim
  | _ => cases i <;> exact h.elim
theorem P_sub {value slice : Expr} {Q : AV → LT} (G : Gd c.w c.hR ρ L T s) (r : Rep ρ s.heap u v) (r' : Rep ρ s.heap u' v') (hs : ∀ o i, subscripted slice false o i = operate [o, i] (getItem o i)) (h : wpSub v v' L T fun x => Q x L T) :
    wpAny (M c) A (subscriptTail value slice u u') (Bk c s ρ T Q) E0 s := by
  have hInt : ∀ {k : Int} {w}, Rep ρ s.heap w (.d (.int k)) → ∃ t, w = .int k t := fun r => by cases r with | d r => cases r; exact ⟨_, rfl⟩
  have lst : ∀ {v : AV} {k : Int}, Rep ρ s.heap u v → Rep ρ s.heap u' (.d (.int k)) → (wpGetL v L T fun vs => ∃ x, idx vs k = some x ∧ Q x L T) → wpAny (M c) A (subscriptTail value slice u u') (Bk c s ρ T Q) E0 s := by
    intro v k r r' h
    obtain ⟨a, vs, rfl, Z, x, hx, hq⟩ := getL_elim G r h
    refine e1a1 (hInt r') fun t x7_ => ?_; subst x7_
    refine e2a2 Z.at_ fun ws n h4 h5 => ?_
    have hlen : ws.length = vs.length := h5.length
    have hlid := Z.len
    have l63 : (lid : Int) < 2 ^ 63 := by decide
    rcases idx_elim hx with ⟨h0, hx⟩ | ⟨h0, h1, hx⟩
    · refine e1a2 (h5.get hx) fun y hy ry => ?_
      have hlt := lt_of_get hx
      exact tail_any h4.isList.typeIs slot_list_getitem.lookup (wpAny_getItem_list h4.isList h0 (by lia) (by simpa using hy) (bk_now G ry hq)) (hs _ _)
    · refine e1a2 (h5.get hx) fun y hy ry => ?_
      exact tail_any h4.isList.typeIs slot_list_getitem.lookup (wpAny_getItem_list_neg h4.isList h0 (by simp only [List.size_toArray, hlen]; exact h1) (by lia) (by simp only [List.size_toArray, hlen]; simpa using hy) (bk_now G ry hq)) (hs _ _)
  rcases sub_elim h with ⟨xs, n, x, rfl, rfl, hx, hn, hq⟩ | ⟨k, rfl, hq⟩
  · cases r with
    | d r =>
      generalize hx0 : PyData.tuple xs = X at r
      generalize has : ([] : List Addr) = as at r
      cases r with
      | tuple ho hc hd ra =>
        cases hx0
        rename_i a o ws m
        refine e1a1 (hInt r') fun t x12_ => ?_; subst x12_
        refine e1a2 (readsAll_get ra has.symm hx) fun y hy ry => ?_
        have hlt := lt_of_get hy
        have ht : IsTup s.heap a ws := ⟨o, ho, hc, m, hd⟩
        refine tail_any ht.typeIs slot_tuple_getitem.lookup (getItem_tuple (j := n) ht (Int.le_trans (by decide) (Int.natCast_nonneg n)) (Int.lt_trans (Int.ofNat_lt.mpr hn) (by decide)) ?_ (by simpa using hy) (bk_now G (.d ry) hq)) (hs _ _)
        exact seqIndex_nat (by simpa using hlt)
      | _ => cases hx0
  · exact lst r r' hq
end
end Mine
end
section
open PySem.Calls
set_option tactic.hygienic false
namespace Mine
noncomputable def plainArg (x : PySem.Expr) : Bool := !(x.ctorIdx == 22)
noncomputable def evals (args : List PySem.Expr) (env : Env) : List (Bool × Sem Value) := args.map fun e => (false, eval e env)
theorem starEach_plain (env : Env) : ∀ args : List PySem.Expr, args.all plainArg = true → starEach args env = evals args env
  | [], _ => rfl
  | e :: r, h => by
    rw [List.all_cons, Bool.and_eq_true] at h
    have ih := starEach_plain env r h.2
    cases e <;> first | (exact absurd h.1 (by show ¬(false = true); decide)) | (exact congrArg (List.cons (false, _)) ih)
theorem backTo_evals (pos : Pos) (args : List PySem.Expr) (env : Env) : backTo pos (evals args env) = evals args env := by
  unfold backTo evals
  rw [List.map_map]
  rfl
noncomputable def baseOk (x : PySem.Expr) : Bool := x.ctorIdx == 23 || x.ctorIdx == 20
theorem attrBase {o : PySem.Expr} (h : baseOk o = true) (attr : Str) (env : Env) (whole : Sem Value) : attributeBase o attr env whole = whole := by
  cases o <;> first | rfl | cases h
theorem evals_plain (args : List PySem.Expr) (env : Env) : (evals args env).any (·.1) = false := by
  unfold evals; induction args with | nil => rfl | cons e r ih => simp
section
variable {c : Cx} {A : Around} {s : Shared} {ρ : RefMap} {L : List AO} {T : Tm} {env : Env} {Q : Value → Shared → Prop} {E : Value → Shared → Prop}
theorem eval_attr {value : PySem.Expr} {attr : Str} {pos : Pos} (hb : baseOk value = true) (h : wpAny (M c) A (eval value env) (fun o s₁ => wpAny (M c) A (getAttr o attr true) Q E s₁) E s) : wpAny (M c) A (eval (.Attribute value attr pos) env) Q E s :=
  Attribute_any_ h (by
    have e : eval (.Attribute value attr pos) env = (do
      let o ← attributeBase value attr env (eval value env)
      standAt pos.atName
      let r ← holding [o] (getAttr o attr true)
      letTemporaryGo value o r
      pure r) := rfl
    rw [e, attrBase hb])
theorem eval_meth {o : PySem.Expr} {name : Str} {apos pos : Pos} {args : List PySem.Expr} (hb : baseOk o = true) (hp : (apos.endLine == pos.line) = true) (ha : args.all plainArg = true) (hl : args.length < 30)
    (h : wpAny (M c) A (eval o env) (fun ov s₁ => ∀ pl, wpAny (M c) A (getMethod ov name pl) (fun fx s₂ => wpAny (M c) A (callWith pos fx.1 fx.2 (evals args env) []) Q E s₂) E s₁) E s) :
    wpAny (M c) A (eval (.Call (.Attribute o name apos) args [] pos) env) Q E s := by
  have e : eval (.Call (.Attribute o name apos) args [] pos) env = (do
    let ov ← attributeBase o name env (eval o env)
    standAt apos.atName
    methodCall o name apos pos env ov (args.length + ([] : List Keyword).length) (backTo pos (starEach args env)) (backToKw pos (keywordEach [] env))) := rfl
  rw [e, attrBase hb, starEach_plain env args ha, backTo_evals]
  refine wpAny_bind (wpAny_mono h (fun ov s₁ h₁ => wpAny_bind (wpAny_standAt ?_)) fun _ _ x => x)
  unfold methodCall
  have hf : methodCallForm (args.length + ([] : List Keyword).length) (evals args env) (backToKw pos (keywordEach [] env)) = true := by
    unfold methodCallForm
    have : (evals args env).all (!·.1) = true := by unfold evals; simp
    rw [this]
    show (true && true && decide (args.length + 0 + 0 < 30)) = true
    simp; omega
  rw [hf]
  refine wpAny_bind (wpAny_holding (wpAny_mono (h₁ _) (fun fx s₂ h₂ => ?_) fun _ _ x => x))
  have hm : methodCallPos true o env apos pos = pure pos := by
    unfold methodCallPos
    rw [hp]; rfl
  dsimp only
  rw [hm]
  exact wpAny_bind (wpAny_pure h₂)
theorem evalArgs_evals {f : Value} {args : List PySem.Expr} {Q : Args → Shared → Prop} (h : wpAny (M c) A (spliced (evals args env)) (fun vs s' => Q ⟨vs, []⟩ s') E s) : wpAny (M c) A (evalArgs f true (evals args env) []) Q E s := by
  cases args with
  | nil =>
    unfold evalArgs
    show wpAny (M c) A (spliced [] >>= _) Q E s
    refine wpAny_bind (wpAny_mono h (fun vs s' h' => ?_) fun _ _ x => x)
    exact wpAny_holding (wpAny_bind (wpAny_pure (wpAny_bind (wpAny_pure (wpAny_pure h')))))
  | cons e r => exact evalArgs_plain h
end
end Mine
end
section
open PySem.Calls
namespace Mine
section
variable {c : Cx} {A : Around} {s : Shared} {ρ : RefMap} {L : List AO} {T : Tm} {u u' : Value} {v v' : AV}
theorem rep_int {h : Heap} {k : Int} (r : Rep ρ h u (.d (.int k))) : ∃ t, u = .int k t := by cases r with | d r => cases r; exact ⟨_, rfl⟩
theorem rep_str {h : Heap} {x : Str} (r : Rep ρ h u (.d (.str x))) : ∃ t, u = .str x t := by cases r with | d r => cases r; exact ⟨_, rfl⟩
theorem rep_bool {h : Heap} {b : Bool} (r : Rep ρ h u (.d (.bool b))) : u = .bool b := by cases r with | d r => cases r; rfl
theorem rep_d {h : Heap} {x : PyData} (r : Rep ρ h u (.d x)) : Reads h u x [] := by cases r with | d r => exact r
theorem ok_append {x y : Str} (h1 : PyData.strOk x = true) (h2 : PyData.strOk y = true) : PyData.strOk (x ++ y) = true := by
  obtain ⟨x⟩ := x; obtain ⟨y⟩ := y
  show (x ++ y).all _ = true
  rw [Array.all_append]
  exact (Bool.and_eq_true _ _).mpr ⟨h1, h2⟩
theorem P_bin {op : Bop} {o : Operator} (ho : (match op with | .add => .Add | .sub => .Sub | .mod => .Mod | .fdiv => Operator.FloorDiv) = o) {Q : AV → LT} (G : Gd c.w c.hR ρ L T s) (r : Rep ρ s.heap u v) (r' : Rep ρ s.heap u' v') (h : wpBin op v v' fun x => Q x L T) :
    wpAny (M c) A (binaryOp o u u') (Bk c s ρ T Q) E0 s := by
  replace h := asD_elim h; obtain ⟨x, rfl, h⟩ := h
  replace h := asD_elim h; obtain ⟨y, rfl, h⟩ := h
  subst ho
  cases op with
  | add =>
    replace h := wpIf_elim h; rcases h with ⟨_, h⟩ | ⟨_, h⟩
    · obtain ⟨x, y, rfl, rfl, h1, h2, h3⟩ := asS2_elim h
      obtain ⟨t, rfl⟩ := rep_str r; obtain ⟨t', rfl⟩ := rep_str r'
      refine P.add_str ?_
      split
      · exact bk_now G r' (h3 _ fun _ e => e)
      · split
        · exact bk_now G r (h3 _ fun e _ => e)
        · exact ⟨by rw [Str.length_append, sizeLine_eq]; lia, bk_toks G _ (.d (.str _ _)) (h3 _ fun e1 e2 => ok_append e1 e2)⟩
    · obtain ⟨x, y, rfl, rfl, h⟩ := asI2_elim h
      obtain ⟨t, rfl⟩ := rep_int r; obtain ⟨t', rfl⟩ := rep_int r'
      exact P.add_int (bk_toks G _ (.d (.int _ _)) h)
  | sub =>
    obtain ⟨x, y, rfl, rfl, h⟩ := asI2_elim h
    obtain ⟨t, rfl⟩ := rep_int r; obtain ⟨t', rfl⟩ := rep_int r'
    exact P.sub_int (bk_toks G _ (.d (.int _ _)) h)
  | mod =>
    obtain ⟨x, y, rfl, rfl, h⟩ := asI2_elim h
    obtain ⟨t, rfl⟩ := rep_int r; obtain ⟨t', rfl⟩ := rep_int r'
    exact mod_int' h.1 (bk_toks G _ (.d (.int _ _)) h.2)
  | fdiv =>
    obtain ⟨x, y, rfl, rfl, h⟩ := asI2_elim h
    obtain ⟨t, rfl⟩ := rep_int r; obtain ⟨t', rfl⟩ := rep_int r'
    exact floordiv_int h.1.1 (bk_toks G _ (.d (.int _ _)) h.2) (.inl (PyProof.noPylong_of_log2 h.1.2))
theorem P_iadd {Q : AV → LT} (G : Gd c.w c.hR ρ L T s) (r : Rep ρ s.heap u v) (r' : Rep ρ s.heap u' v') (h : wpBin .add v v' fun x => Q x L T) : wpAny (M c) A (inplaceOp .Add u u') (Bk c s ρ T Q) E0 s := by
  replace h := asD_elim h; obtain ⟨x, rfl, h⟩ := h
  replace h := asD_elim h; obtain ⟨y, rfl, h⟩ := h
  replace h := wpIf_elim h; rcases h with ⟨_, h⟩ | ⟨_, h⟩
  · obtain ⟨x, y, rfl, rfl, h1, h2, h3⟩ := asS2_elim h
    obtain ⟨t, rfl⟩ := rep_str r; obtain ⟨t', rfl⟩ := rep_str r'
    refine P.iadd_str ?_
    split
    · exact bk_now G r' (h3 _ fun _ e => e)
    · split
      · exact bk_now G r (h3 _ fun e _ => e)
      · exact ⟨by rw [Str.length_append, sizeLine_eq]; lia, bk_toks G _ (.d (.str _ _)) (h3 _ fun e1 e2 => ok_append e1 e2)⟩
  · obtain ⟨x, y, rfl, rfl, h⟩ := asI2_elim h
    obtain ⟨t, rfl⟩ := rep_int r; obtain ⟨t', rfl⟩ := rep_int r'
    exact P.iadd_int (bk_toks G _ (.d (.int _ _)) h)
theorem nth_list {i : Nat} {vs : List AV} (G : Gd c.w c.hR ρ L T s) (r : Rep ρ s.heap u (.ref i)) (e : nth L i = some (.list vs)) : ∃ a ws n, u = .ref a ∧ IsL s.heap a (List.toArray ws) n ∧ RepL ρ s.heap ws vs := by
  refine e2a4 (get_inst G r e) fun a d x1_ h1 h2 h3 => ?_; subst x1_
  obtain ⟨rfl, hl, ws, n, h4, h5⟩ := h3
  exact ⟨_, ws, n, rfl, h4, h5⟩
theorem tmp_list {a : Addr} {vs : List AV} (G : Gd c.w c.hR ρ L T s) (e : T a = some (.list vs)) : ∃ ws n, IsL s.heap a (List.toArray ws) n ∧ RepL ρ s.heap ws vs := by
  obtain ⟨_, hl, ws, n, h4, h5⟩ := (G.ob.tmp a _ e).1
  exact ⟨ws, n, h4, h5⟩
theorem data_reads (G : Gd c.w c.hR ρ L T s) {v : AV} {x : PyData} (d : DataIs L T v x) {u : Value} (r : Rep ρ s.heap u v) : ∃ as, Reads s.heap u x as :=
  DataIs.rec (motive_1 := fun v x _ => ∀ u, Rep ρ s.heap u v → ∃ as, Reads s.heap u x as) (motive_2 := fun vs xs _ => ∀ ws, RepL ρ s.heap ws vs → ∃ as, ReadsAll s.heap ws xs as)
    (fun _ r => ⟨[], rep_d r⟩) (fun e _ i _ r => e3a3 (nth_list G r e) fun p ws n e h1 h2 => e1a1 (i _ h2) fun as h3 => by subst e; exact ⟨_, .list h1 rfl rfl (by simpa using h3)⟩)
    (fun e _ i _ r => by cases r; exact e2a2 (tmp_list G e) fun ws n h1 h2 => e1a1 (i _ h2) fun as h3 => ⟨_, .list h1 rfl rfl (by simpa using h3)⟩)
    (fun _ r => by cases r; exact ⟨_, .nil⟩) (fun _ _ i j _ r => by
      cases r with
      | cons r rs => exact e1a1 (i _ r) fun as h1 => e1a1 (j _ rs) fun bs h2 => ⟨_, .cons h1 h2⟩) d _ r
theorem dataAll_reads (G : Gd c.w c.hR ρ L T s) {vs : List AV} {xs : List PyData} (d : DataAll L T vs xs) {ws : List Value} (r : RepL ρ s.heap ws vs) : ∃ as, ReadsAll s.heap ws xs as :=
  DataAll.rec (motive_1 := fun v x _ => ∀ u, Rep ρ s.heap u v → ∃ as, Reads s.heap u x as) (motive_2 := fun vs xs _ => ∀ ws, RepL ρ s.heap ws vs → ∃ as, ReadsAll s.heap ws xs as)
    (fun _ r => ⟨[], rep_d r⟩) (fun e _ i _ r => e3a3 (nth_list G r e) fun p ws n e h1 h2 => e1a1 (i _ h2) fun as h3 => by subst e; exact ⟨_, .list h1 rfl rfl (by simpa using h3)⟩)
    (fun e _ i _ r => by cases r; exact e2a2 (tmp_list G e) fun ws n h1 h2 => e1a1 (i _ h2) fun as h3 => ⟨_, .list h1 rfl rfl (by simpa using h3)⟩)
    (fun _ r => by cases r; exact ⟨_, .nil⟩) (fun _ _ i j _ r => by
      cases r with
      | cons r rs => exact e1a1 (i _ r) fun as h1 => e1a1 (j _ rs) fun bs h2 => ⟨_, .cons h1 h2⟩) d _ r
theorem P_eq {n : Nat} {ne : Bool} {K : Bool → Prop} (R : Room n A) (G : Gd c.w c.hR ρ L T s) (r : Rep ρ s.heap u v) (r' : Rep ρ s.heap u' v') (h : wpEq v v' L T K) :
    wpAny (M c) A (compareOp (if ne then .NotEq else .Eq) u u') (fun x s' => s' = s ∧ ∃ b, x = .bool (if ne then !b else b) ∧ K b) E0 s := by
  have hu : A.units + 64 < cLine := by have := R.u; have : cLine = 9900 := rfl; lia
  have gen : ∀ {x y : PyData} {as bs}, Reads s.heap u x as → Reads s.heap u' y bs → SeqAt.shaped x = true → SeqAt.shaped y = true → K (PyData.eqv x y) → wpAny (M c) A (compareOp (if ne then .NotEq else .Eq) u u') (fun x s' => s' = s ∧ ∃ b, x = .bool (if ne then !b else b) ∧ K b) E0 s := by
    intro x y as bs q q' e1 e2 k
    cases ne with
    | true => exact ne_dataH q q' e1 e2 hu ⟨rfl, _, rfl, k⟩
    | false => exact eq_dataH q q' e1 e2 hu ⟨rfl, _, rfl, k⟩
  unfold wpEq at h
  split at h
  · rename_i x y
    refine gen (rep_d r) (rep_d r') (by rfl) (by rfl) ?_
    have : PyData.eqv (.int x) (.int y) = decide (x = y) := by by_cases e : x = y <;> simp [PyData.eqv, e]
    rw [this]; exact h
  · rcases wpIf_elim h with ⟨e, k⟩ | ⟨_, k⟩
    · rw [Bool.and_eq_true] at e
      exact gen (rep_d r) (rep_d r') e.1 e.2 k
    · exact k.elim
  · refine e2a5 h fun x y d1 d2 e1 e2 k => ?_
    refine e1a1 (data_reads G d1 r) fun as q => ?_
    refine e1a1 (data_reads G d2 r') fun bs q' => ?_
    exact gen q q' e1 e2 k
noncomputable def Cop.op : Cop → CmpOp
  | .eq => .Eq | .ne => .NotEq | .lt => .Lt | .le => .LtE | .gt => .Gt | .ge => .GtE
theorem P_cmp {n : Nat} {op : Cop} {K : Bool → Prop} (R : Room n A) (G : Gd c.w c.hR ρ L T s) (r : Rep ρ s.heap u v) (r' : Rep ρ s.heap u' v') (h : wpCmp op v v' L T K) :
    wpAny (M c) A (compareOp op.op u u') (fun x s' => s' = s ∧ ∃ b, x = .bool b ∧ K b) E0 s := by
  have int2 : ∀ {x y : Int}, (∀ t t', wpAny (M c) A (compareOp op.op (.int x t) (.int y t')) (fun x s' => s' = s ∧ ∃ b, x = .bool b ∧ K b) E0 s) → Rep ρ s.heap u (.d (.int x)) → Rep ρ s.heap u' (.d (.int y)) → wpAny (M c) A (compareOp op.op u u') (fun x s' => s' = s ∧ ∃ b, x = .bool b ∧ K b) E0 s := by
    intro x y k r r'
    (refine e1a1 (rep_int r) fun t x10_ => ?_; subst x10_); (refine e1a1 (rep_int r') fun t' x12_ => ?_; subst x12_)
    exact k t t'
  unfold wpCmp at h
  split at h
  · exact wpAny_mono (P_eq (ne := false) R G r r' h) (fun _ _ ⟨a, b, e, k⟩ => ⟨a, b, e, k⟩) fun _ _ e => e
  · exact wpAny_mono (P_eq (ne := true) R G r r' h) (fun _ _ ⟨a, b, e, k⟩ => ⟨a, !b, e, k⟩) fun _ _ e => e
  · split at h
    · exact int2 (fun t t' => by show wpAny _ _ (compareOp .Lt _ _) _ _ _; exact P.lt_int ⟨rfl, _, rfl, h⟩) r r'
    · exact h.elim
  · split at h
    · exact int2 (fun t t' => by show wpAny _ _ (compareOp .LtE _ _) _ _ _; exact P.le_int ⟨rfl, _, rfl, h⟩) r r'
    · exact h.elim
  · split at h
    · exact int2 (fun t t' => by show wpAny _ _ (compareOp .Gt _ _) _ _ _; exact P.gt_int ⟨rfl, _, rfl, h⟩) r r'
    · exact h.elim
  · split at h
    · exact int2 (fun t t' => by show wpAny _ _ (compareOp .GtE _ _) _ _ _; exact P.ge_int ⟨rfl, _, rfl, h⟩) r r'
    · exact h.elim
theorem shaped_lay {x : PyData} (h : SeqAt.shaped x = true) : x.canLay0 = true ∧ x.depth ≤ 64 := by
  have z := Bool.and_eq_true_iff.mp h
  exact ⟨z.1, by simpa using z.2⟩
theorem sys_ne {w : World} {hR : Heap} {a : Addr} (G : Gd w hR ρ L T s) (h : Own ρ T a) : (a == sysModules) = false := by
  have h2 : sysModules = 1 := rfl
  rw [h2]; exact beq_eq_false_iff_ne.mpr fun e => absurd (e ▸ (G.low a h).2) (by decide)
end
end Mine
end
section
open PySem.Calls
namespace Mine
section
variable {c : Cx} {A : Around} {s : Shared} {ρ : RefMap} {L : List AO} {T : Tm} {u u' : Value} {v v' : AV}
theorem contains_of_in {M : Model} {E : Value → Shared → Prop} {a b : Value} {Q : Value → Shared → Prop} (h : wpAny M A (compareOp .In a b) Q E s) : wpAny M A (contains b a) (fun r s' => Q (.bool r) s') E s := fun Γ p hΓ => by
  have z := h Γ p hΓ
  have e : compareOp .In a b = (contains b a >>= fun r => pure (.bool r)) := rfl
  rw [e, Sem.wp_bind'] at z
  exact z
theorem in_or_not {M : Model} {E : Value → Shared → Prop} {a b : Value} {neg : Bool} {P : Bool → Shared → Prop} (h : wpAny M A (compareOp .In a b) (fun x s' => ∃ r, x = .bool r ∧ P r s') E s) :
    wpAny M A (compareOp (if neg then .NotIn else .In) a b) (fun x s' => ∃ r, x = .bool (if neg then !r else r) ∧ P r s') E s := by
  cases neg with
  | false => exact h
  | true =>
    have e : compareOp .NotIn a b = (contains b a >>= fun r => pure (.bool (!r))) := rfl
    show wpAny M A (compareOp .NotIn a b) _ E s
    rw [e]
    refine wpAny_bind (wpAny_mono (contains_of_in h) (fun r s' ⟨r', q, k⟩ => wpAny_pure ?_) fun _ _ x => x)
    cases q
    exact ⟨_, rfl, k⟩
theorem obj_elim {K : AO → Prop} (G : Gd c.w c.hR ρ L T s) (r : Rep ρ s.heap u v) (h : obj v L T K) : ∃ a d o, u = .ref a ∧ ObjRep c.w ρ s.heap a d o ∧ Own ρ T a ∧ (∀ (P : AO → Prop), P o → obj v L T P) ∧
    (∀ (o' : AO) (s' : Shared) (K' : LT), o'.flat → putObj v o' L T K' → (o.flat → d = a) → Heap.SameBut a s.heap s'.heap → s'.gens = s.gens → s'.os = s.os → ObjRep c.w ρ s'.heap a d o' → o.flat →
      ∃ L' T', Gd c.w c.hR ρ L' T' s' ∧ Ev no s ρ T s' ρ T' ∧ K' L' T') ∧ K o := by
  unfold obj at h
  split at h
  · rename_i i
    split at h
    · rename_i o e
      refine e2a4 (get_inst G r e) fun a d x1_ h1 h2 h3 => ?_; subst x1_
      refine ⟨a, d, o, rfl, h3, .inl ⟨i, a, d, h1, .inl rfl⟩, fun P p => by unfold obj; dsimp only; rw [e]; exact p, fun o' s' K' hf hp hd hs hg hos hr hfo => ?_, h⟩
      have x3_ := putNth_elim hp; have hi := x3_.1; have hK := x3_.2
      have x4_ := G.setL (s' := s') h1 (.inl rfl) hs hg hos hr; have G' := x4_.1; have E' := x4_.2
      exact ⟨_, _, G', E', hK⟩
    · exact h.elim
  · rename_i a
    refine e1a2 h fun o hT hK => ?_
    cases r
    have h3 := (G.ob.tmp a _ hT).1
    refine ⟨a, a, o, rfl, h3, .inr (by rw [hT]; rfl), fun P p => ⟨o, hT, p⟩, fun o' s' K' hf hp hd hs hg hos hr hfo => ?_, hK⟩
    have x5_ := G.setT (s' := s') hT hs hg hos hr hf; have G' := x5_.1; have E' := x5_.2
    exact ⟨_, _, G', E', hp⟩
  · exact h.elim
theorem repK_get {K : Type} [DecidableEq K] {h : Heap} {xs : List (K × Value)} {kvs : List (K × AV)} (r : RepK ρ h xs kvs) (k : K) : (valueAt xs k = none ∧ kvGet kvs k = none) ∨ ∃ x y, valueAt xs k = some x ∧ kvGet kvs k = some y ∧ Rep ρ h x y := by
  induction r with
  | nil => exact .inl ⟨rfl, rfl⟩
  | @cons k' x xs y kvs q _ ih =>
    by_cases e : k' = k
    · subst e; exact .inr ⟨x, y, by simp [valueAt], by simp [kvGet], q⟩
    · have h1 : valueAt ((k', x) :: xs) k = valueAt xs k := by simp [valueAt, e]
      have h2 : kvGet ((k', y) :: kvs) k = kvGet kvs k := by simp [kvGet, e]
      rw [h1, h2]; exact ih
theorem repK_any {K : Type} [DecidableEq K] {h : Heap} {xs : List (K × Value)} {kvs : List (K × AV)} (r : RepK ρ h xs kvs) (k : K) : xs.any (fun kv => kv.1 = k) = kvs.any (fun kv => kv.1 = k) := by
  induction r with
  | nil => rfl
  | cons q _ ih => simp only [List.any_cons, ih]
theorem RepK.append {K : Type} {h : Heap} {xs ys : List (K × Value)} {kvs lvs : List (K × AV)} (r : RepK ρ h xs kvs) (r' : RepK ρ h ys lvs) : RepK ρ h (xs ++ ys) (kvs ++ lvs) := by
  induction r with
  | nil => exact r'
  | cons q _ ih => exact .cons q ih
theorem RepK.len {K : Type} {h : Heap} {xs : List (K × Value)} {kvs : List (K × AV)} (r : RepK ρ h xs kvs) : xs.length = kvs.length := by
  induction r with
  | nil => rfl
  | cons q _ ih => simp [ih]
theorem repK_map {K : Type} [DecidableEq K] {h : Heap} {xs : List (K × Value)} {kvs : List (K × AV)} (r : RepK ρ h xs kvs) (k : K) {x : Value} {y : AV} (q : Rep ρ h x y) :
    RepK ρ h (xs.map fun kv => if kv.1 = k then (kv.1, x) else kv) (kvs.map fun kv => if kv.1 = k then (kv.1, y) else kv) := by
  induction r with
  | nil => exact .nil
  | @cons k' x' xs y' kvs q' _ ih =>
    simp only [List.map_cons]
    split
    · exact .cons q ih
    · exact .cons q' ih
theorem repK_put {K : Type} [DecidableEq K] {h : Heap} {xs : List (K × Value)} {kvs : List (K × AV)} (r : RepK ρ h xs kvs) (k : K) {x : Value} {y : AV} (q : Rep ρ h x y) : RepK ρ h (stored xs k x) (kvPut kvs k y) := by
  unfold stored kvPut
  rw [repK_any r k]
  split
  · exact repK_map r k q
  · exact r.append (.cons q .nil)
theorem kvPut_len {K : Type} [DecidableEq K] (kvs : List (K × AV)) (k : K) (y : AV) : (kvPut kvs k y).length ≤ kvs.length + 1 := by
  unfold kvPut; split <;> simp
theorem P_in {n : Nat} {neg : Bool} {K : Bool → Prop} (R : Room n A) (S : Stat c.w c.hR) (G : Gd c.w c.hR ρ L T s) (r : Rep ρ s.heap u v) (r' : Rep ρ s.heap u' v') (h : wpIn v v' L T fun b => K (if neg then !b else b)) :
    wpAny (M c) A (compareOp (if neg then .NotIn else .In) u u') (fun x s' => ∃ b, x = .bool b ∧ Gd c.w c.hR ρ L T s' ∧ Ev no s ρ T s' ρ T ∧ K b) E0 s := by
  have hu := R.u
  have hc : cLine = 9900 := rfl
  refine wpAny_mono (in_or_not (neg := neg) (P := fun b s' => Gd c.w c.hR ρ L T s' ∧ Ev no s ρ T s' ρ T ∧ K (if neg then !b else b)) ?_) (fun x s' ⟨b, e, k1, k2, k3⟩ => ⟨_, e, k1, k2, k3⟩) fun _ _ x => x
  have here : ∀ {b : Bool}, K (if neg then !b else b) → ∃ r, Value.bool b = .bool r ∧ Gd c.w c.hR ρ L T s ∧ Ev no s ρ T s ρ T ∧ K (if neg then !r else r) := fun k => ⟨_, rfl, G, Ev.refl .., k⟩
  unfold wpIn at h
  split at h
  · rename_i ys y
    rcases wpIf_elim h with ⟨e, k⟩ | ⟨_, k⟩
    · rw [Bool.and_eq_true] at e
      have x6_ := shaped_lay e.1; have l1 := x6_.1; have d1 := x6_.2
      have x7_ := shaped_lay e.2; have l2 := x7_.1; have d2 := x7_.2
      exact SeqAt.in_tuple_reads (rep_d r') (rep_d r) l1 l2 (by have : min (PyData.depthAll ys) y.depth ≤ y.depth := Nat.min_le_right _ _; lia) (here k)
    · exact k.elim
  · rename_i y _
    refine e3a6 (obj_elim G r' h) fun a d o x8_ h3 how _ _ hK => ?_; subst x8_
    split at hK
    · rename_i kvs
      split at hK
      · rename_i k
        refine e1a1 (rep_int r) fun t x10_ => ?_; subst x10_
        obtain ⟨rfl, hl, xs, hd, rk⟩ := h3
        refine wpAny_in_of (knd := intKind pp c.w) (k := k) (by simp [intKind, Value.isInt]) (sys_ne G how) hd.mapOf ?_
        have z := G.toks (s.toks + 1)
        refine ⟨_, rfl, z.1, z.2, ?_⟩
        rcases repK_get rk k with ⟨e1, e2⟩ | ⟨x, y, e1, e2, _⟩
        · rw [e1]; rw [e2] at hK; exact hK
        · rw [e1]; rw [e2] at hK; exact hK
      · exact hK.elim
    · rename_i vs
      refine e1a4 hK fun ys hA e1 e2 k => ?_
      obtain ⟨rfl, hl, ws, m, h4, h5⟩ := h3
      refine e1a1 (dataAll_reads G hA h5) fun as q => ?_
      have x13_ := shaped_lay e1; have l1 := x13_.1; have d1 := x13_.2
      have x14_ := shaped_lay e2; have l2 := x14_.1; have d2 := x14_.2
      have rl : Reads s.heap (.ref d) (.list ys) (d :: as) := .list h4 rfl rfl (by simpa using q)
      exact SeqAt.in_list_reads rl (rep_d r) l1 l2 (by have : min (PyData.depthAll ys) y.depth ≤ y.depth := Nat.min_le_right _ _; lia) (here k)
    · exact hK.elim
  · exact h.elim
end
end Mine
end
section
open PySem.Calls
set_option tactic.hygienic false
namespace Mine
section
variable {c : Cx} {A : Around} {s : Shared} {ρ : RefMap} {L : List AO} {T : Tm} {u u' : Value} {v v' : AV}
theorem upd_list {a : Addr} {vs vs' : List AV} {items : Array Value} {n : Nat} {f : Array Value → Array Value} {K : LT} (Z : AtL c ρ L T s v a vs) (hat : IsL s.heap a items n) (h : wpPutL v vs' L T K) (hl : vs'.length ≤ lid) (hr : RepL ρ s.heap (f items).toList vs') :
    ∃ L' T', Gd c.w c.hR ρ L' T' { s with heap := s.heap.update a (Obj.mapSeq f) } ∧ Ev no s ρ T { s with heap := s.heap.update a (Obj.mapSeq f) } ρ T' ∧ K L' T' :=
  Z.put K vs' { s with heap := s.heap.update a (Obj.mapSeq f) } (f items).toList _ h hl (Heap.SameBut.update ..) rfl rfl (by simpa using hat.update f) hr
theorem isL_inj {h : Heap} {a : Addr} {i1 i2 : Array Value} {n1 n2 : Nat} (x : IsL h a i1 n1) (y : IsL h a i2 n2) : i1 = i2 ∧ n1 = n2 := by
  unfold IsL at x y
  rw [x] at y; cases y; exact ⟨rfl, rfl⟩
theorem nodict {h : Heap} {a : Addr} {i : Array Value} {n : Nat} (x : IsL h a i n) : h.NoDictAt (.ref a) := ⟨_, x, rfl⟩
theorem P_getm {name : Str} {id : String} {pl : Sem Bool} {Q : Value × List Value → Shared → Prop} {vs : List AV} {a : Addr} (slot : Slot "list" name id) (hty : typeOf (.builtin id) = pure (.type "method_descriptor")) (Z : AtL c ρ L T s v a vs) (h : Q (.builtin id, [.ref a]) s) :
    wpAny (M c) A (getMethod (.ref a) name pl) Q E0 s := by
  refine e2a2 Z.at_ fun ws n h4 h5 => ?_
  exact getMethod_list_of slot hty h4.isList (nodict h4) h
theorem P_append {pos : Pos} {x : Sem Value} {w : AV} {K : LT} {a : Addr}
    (h : wpAny (M c) A x (fun u' s₁ => ∃ ρ₁ L₁ T₁ vs, Gd c.w c.hR ρ₁ L₁ T₁ s₁ ∧ Ev no s ρ T s₁ ρ₁ T₁ ∧ AtL c ρ₁ L₁ T₁ s₁ v a vs ∧ (∃ w, Rep ρ₁ s₁.heap u' w ∧ vs.length < lid ∧ wpPutL v (vs ++ [w]) L₁ T₁ K)) E0 s) :
    wpAny (M c) A (callWith pos (.builtin "list.append") [.ref a] [(false, x)] []) (Bk c s ρ T fun r L' T' => r = .d .none ∧ K L' T') E0 s := by
  refine P.append_list (wpAny_mono h (fun u' s₁ h₁ => ?_) fun _ _ e => e)
  obtain ⟨ρ₁, L₁, T₁, vs, G₁, E₁, Z, w, r, hl, hK⟩ := h₁
  refine e2a2 Z.at_ fun ws n h4 h5 => ?_
  obtain ⟨L', T', G', E', k⟩ := upd_list (f := fun xs => xs.push u') Z h4 hK (by simp; lia) (by simpa using h5.append (.cons r .nil))
  exact ⟨_, n, by rw [List.size_toArray, h5.length]; exact lid_fits (Nat.le_of_lt hl), h4, ρ₁, .d .none, L', T', G', E₁.trans E', .d .none, rfl, k⟩
theorem P_pop {pos : Pos} {Q : AV → LT} {a : Addr} {vs r : List AV} {x : AV} (Z : AtL c ρ L T s v a vs) (e : vs = r ++ [x]) (h : wpPutL v r L T fun L3 T3 => Q x L3 T3) :
    wpAny (M c) A (callWith pos (.builtin "list.pop") [.ref a] [] []) (Bk c s ρ T Q) E0 s := by
  refine e2a2 Z.at_ fun ws n h4 h5 => ?_
  subst e
  have hlen : ws.length = r.length + 1 := by rw [h5.length]; simp
  obtain ⟨y, hy, ry⟩ := h5.get (i := r.length) (x := x) (by simp)
  have hz := Z.len
  have ht : RepL ρ s.heap (ws.eraseIdx r.length) r := by
    have := h5.take r.length
    rw [List.take_left] at this
    have e2 : ws.eraseIdx r.length = ws.take r.length := by
      rw [List.eraseIdx_eq_take_drop_succ, List.drop_of_length_le (by lia), List.append_nil]
    rw [e2]; exact this
  obtain ⟨L', T', G', E', k⟩ := upd_list (f := fun xs => xs.eraseIdxIfInBounds (ws.toArray.size - 1)) Z h4 h (by simp at hz; lia) (by
    simp only [List.size_toArray, hlen, Nat.add_sub_cancel]
    have : (ws.toArray.eraseIdxIfInBounds r.length).toList = ws.eraseIdx r.length := by
      rw [Array.eraseIdxIfInBounds]
      simp [hlen]
    rw [this]; exact ht)
  refine P.pop_list (y := y) h4 (by simp only [List.size_toArray, hlen, Nat.add_sub_cancel]; simpa using hy) ⟨ρ, x, L', T', G', E', E'.rep ry, k⟩ (by rw [List.size_toArray, h5.length]; exact lid_fits hz)
theorem P_rev {pos : Pos} {K : LT} {a : Addr} {vs : List AV} (Z : AtL c ρ L T s v a vs) (h : wpPutL v vs.reverse L T K) :
    wpAny (M c) A (callWith pos (.builtin "list.reverse") [.ref a] [] []) (Bk c s ρ T fun r L' T' => r = .d .none ∧ K L' T') E0 s := by
  refine e2a2 Z.at_ fun ws n h4 h5 => ?_
  obtain ⟨L', T', G', E', k⟩ := upd_list (f := fun xs => xs.reverse) Z h4 h (by simpa using Z.len) (by simpa using h5.reverse)
  exact P.reverse_list h4 ⟨ρ, .d .none, L', T', G', E', .d .none, rfl, k⟩ (by rw [List.size_toArray, h5.length]; exact lid_fits Z.len)
theorem lid63 {n : Nat} (h : n ≤ lid) : (n : Int) < 2 ^ 63 := by have : (lid : Int) < 2 ^ 63 := by decide
                                                                 lia
theorem P_len {K : AV → LT} {a : Addr} {vs : List AV} (G : Gd c.w c.hR ρ L T s) (Z : AtL c ρ L T s v a vs) (h : K (.d (.int vs.length)) L T) : wpAny (M c) A (call (.builtin "len") [.ref a]) (Bk c s ρ T K) E0 s := by
  refine e2a2 Z.at_ fun ws n h4 h5 => ?_
  have e : (ws.toArray.size : Int) = vs.length := by rw [List.size_toArray, h5.length]
  refine call_len_list h4.isList (by rw [e]; exact lid63 Z.len) ?_
  rw [e]
  exact bk_toks G _ (.d (.int _ _)) h
theorem P_listOf {Q : AV → LT} {a : Addr} {vs : List AV} (G : Gd c.w c.hR ρ L T s) (Z : AtL c ρ L T s v a vs) (h : wpNewL vs L T Q) : wpAny (M c) A (call (.type "list") [.ref a]) (Bk c s ρ T Q) E0 s := by
  refine e2a2 Z.at_ fun ws n h4 h5 => ?_
  refine call_list_seq a (.inl rfl) h4 rfl rfl (fun h' c' hk hat => ?_) (by rw [List.size_toArray, h5.length]; exact lid_fits Z.len)
  exact newL_elim (s' := { s with heap := h' }) G h5 rfl rfl hk (Nat.le_refl _) hat h
theorem P_slice {value : PySem.Expr} {lower upper : Option PySem.Expr} {p : Pos} {Q : AV → LT} {a : Addr} {vs : List AV} {ws : List Value} {vl vu : Value} {lo hi : Option Int} {vs' : List AV} (G : Gd c.w c.hR ρ L T s) (h4 : s.heap.IsList a (List.toArray ws)) (h5 : RepL ρ s.heap ws vs) (hlen : vs.length ≤ lid) (pl : IsPart vl lo) (pu : IsPart vu hi)
    (hv : ∀ ws : List Value, RepL ρ s.heap ws vs → ∃ ws', slicePick ws.toArray lo hi none = List.toArray ws' ∧ RepL ρ s.heap ws' vs') (h : wpNewL vs' L T Q) :
    wpAny (M c) A (subscriptTail value (.Slice lower upper none p) (.ref a) (.ref s.heap.objs.size)) (Bk c s ρ T Q) E0 { s with heap := s.heap.push { cls := .type "slice", data := .fields #[vl, vu, .none] } } := by
  refine e1a2 (hv ws h5) fun ws' e r' => ?_
  have h4' := h4.push { cls := .type "slice", data := .fields #[vl, vu, .none] }
  have k1 : ∀ b o, s.heap.get? b = some o → (s.heap.push { cls := .type "slice", data := .fields #[vl, vu, .none] }).get? b = some o := fun _ _ e => Heap.get?_push_of_some _ e
  refine tail_any (ops := [.ref s.heap.objs.size, .ref a]) (s := { s with heap := s.heap.push { cls := .type "slice", data := .fields #[vl, vu, .none] } }) h4'.typeIs slot_list_getitem.lookup
    (wpAny_getItem_list_slice h4' (Heap.IsSliceOf.new ..) pl pu .none (by simp) ?_ (by rw [List.size_toArray, h5.length]; exact lid_fits hlen)) rfl
  rw [e]
  refine newL_elim (n := 0) (s' := { s with heap := (s.heap.push { cls := .type "slice", data := .fields #[vl, vu, .none] }).push { cls := .type "list", data := .seq ws'.toArray } }) G r' rfl rfl (fun b o e => Heap.get?_push_of_some _ (k1 b o e)) (by simp only [Heap.size_push]; lia) (Heap.get?_push_size _ rfl) h
theorem ints_rep {h : Heap} {ws : List Value} {ns : List Int} (x : IntsAre ws ns) : RepL ρ h ws (ns.map fun k => AV.d (.int k)) := by
  induction x with
  | nil => exact .nil
  | cons _ _ _ ih => exact .cons (.d (.int _ _)) ih
end
end Mine
end
section
open PySem.Calls
namespace Mine
section
variable {c : Cx} {A : Around} {s : Shared} {ρ : RefMap} {L : List AO} {T : Tm} {u u' : Value} {v v' : AV}
theorem setItem_exact {M' : Program} {w : World} {E : Value → Shared → Prop} {l : Addr} {items : Array Value} {n : Nat} {k : Int} {t : Tok} {v : Value} {Q : Unit → Shared → Prop} (hl : IsL s.heap l items n) (h0 : 0 ≤ k) (hfit : k < 2 ^ 63) (hn : k < items.size)
    (hQ : Q () { s with heap := s.heap.update l (Obj.mapSeq (·.setIfInBounds k.toNat v)) }) : wpAny (model M' w) A (setItem (.ref l) (.int k t) v) Q E s := by
  have hL := hl.isList
  unfold setItem
  try with_reducible refine wpAny_holding ?_
  refine wpAny_bind (wpAny_sequenceKey hL.typeIs (by decide) ?_)
  refine wpAny_bind (wpAny_callSpecial?_slot (name := Str.ofString "__setitem__") hL.typeIs slot_list_setitem
    (wpAny_call_entry slot_list_setitem hL.typeIs entry_list_setitem ?_ (args_list_setitem _ _ _)))
  show wpAny _ _ (Builtin.List.listSubscript? (.int k t) >>= _) _ _ s
  refine wpAny_bind (wpAny_listSubscript_int (fitsIndex_of h0 hfit) ?_)
  obtain ⟨j, rfl⟩ := Int.eq_ofNat_of_zero_le h0
  have hj : j < items.size := by lia
  have hx' : items[j]? = some items[j] := Array.getElem?_eq_getElem hj
  show wpAny _ _ ((seqItemAt l j >>= fun r => pure (r.map (j, ·))) >>= _) _ _ s
  refine wpAny_bind (wpAny_bind (wpAny_seqItemAt hl rfl (wpAny_pure ?_)))
  rw [hx']
  show wpAny _ _ (setSeqItemAt l j v >>= _) _ _ s
  refine wpAny_bind (wpAny_setSeqItemAt hl rfl ?_)
  first
    | exact wpAny_bind (wpAny_pure (wpAny_pure ⟨.none, rfl, wpAny_pure hQ⟩))
    | exact wpAny_pure ⟨.none, rfl, wpAny_pure hQ⟩
noncomputable def setI (u j v : AV) (L : List AO) (T : Tm) (K : LT) : Prop := obj u L T fun ob => (match ob, j with
  | .list vs, .d (.int k) => 0 ≤ k ∧ k < vs.length ∧ putObj u (.list (vs.set k.toNat v)) L T K
  | .dS kvs, .d (.str z) => kvs.length < lid ∧ putObj u (.dS (kvPut kvs z v)) L T K
  | .dI kvs, .d (.int z) => kvs.length < lid ∧ putObj u (.dI (kvPut kvs z v)) L T K
  | .dT kvs, .d (.tuple zs) => (match intsOf zs with | some ks => kvs.length < lid ∧ putObj u (.dT (kvPut kvs ks v)) L T K | none => False)
  | _, _ => False)
theorem intsOf_cons {d : PyData} {r : List PyData} {ks : List Int} (e : intsOf (d :: r) = some ks) : ∃ i l, d = .int i ∧ intsOf r = some l ∧ ks = i :: l := by
  cases d with
  | int i =>
    cases hl : intsOf r with
    | none => rw [intsOf, hl] at e; cases e
    | some l => rw [intsOf, hl] at e; cases e; exact ⟨i, l, rfl, rfl, rfl⟩
  | _ => cases e
theorem intsOf_key {h : Heap} {zs : List PyData} {ws : List Value} {as : List Addr} (r : ReadsAll h ws zs as) : ∀ {ks : List Int}, intsOf zs = some ks → ItemsAre (intKind pp c.w) ks ws :=
  ReadsAll.rec (motive_1 := fun _ _ _ _ => True) (motive_2 := fun ws zs _ _ => ∀ {ks : List Int}, intsOf zs = some ks → ItemsAre (intKind pp c.w) ks ws)
    trivial (fun _ => trivial) (fun _ _ => trivial) (fun _ _ => trivial) (fun _ _ _ _ _ => trivial) (fun _ _ _ _ _ => trivial) (fun _ _ _ _ _ _ _ => trivial)
    (fun e => by cases e; exact .nil) (fun r _ _ ih ks e => by
      refine e2a3 (intsOf_cons e) fun i l e1 e2 e3 => ?_
      subst e1; subst e3; cases r
      exact .cons (by simp [intKind, Value.isInt]) (ih e2)) r
theorem tupKey {h : Heap} {zs : List PyData} {ks : List Int} (r : Rep ρ h u (.d (.tuple zs))) (e : intsOf zs = some ks) : ∃ a, u = .ref a ∧ (tupleKind (intKind pp c.w)).is h ks a := by
  have r := rep_d r
  generalize hx0 : PyData.tuple zs = X at r
  cases r with
  | tuple ho hc hd ra =>
    cases hx0
    exact ⟨_, rfl, _, _, _, ho, hc, hd, intsOf_key ra e⟩
  | _ => cases hx0
theorem nodup_keys {K : Type} {h : Heap} {xs : List (K × Value)} {kvs : List (K × AV)} (r : RepK ρ h xs kvs) : xs.map (·.1) = kvs.map (·.1) := by
  induction r with
  | nil => rfl
  | cons _ _ ih => simp [ih]
theorem repH_get {h : Heap} {xs : List (List Int × Addr × Value)} {kvs : List (List Int × AV)} (r : RepK ρ h (xs.map fun x => (x.1, x.2.2)) kvs) (k : List Int) : ((atKey xs k).map (·.2) = none ∧ kvGet kvs k = none) ∨ ∃ x y, (atKey xs k).map (·.2) = some x ∧ kvGet kvs k = some y ∧ Rep ρ h x y := by
  have e : (atKey xs k).map (·.2) = valueAt (xs.map fun x => (x.1, x.2.2)) k := by
    unfold atKey valueAt
    induction xs generalizing kvs with
    | nil => rfl
    | cons x xs ih =>
      simp only [List.map_cons] at r ⊢
      cases r with
      | cons q r =>
        by_cases h : x.1 = k
        · simp [h]
        · simp only [List.find?_cons, h, decide_false]
          exact ih r
  rw [e]; exact repK_get r k
theorem repH_put {h : Heap} {xs : List (List Int × Addr × Value)} {kvs : List (List Int × AV)} (r : RepK ρ h (xs.map fun x => (x.1, x.2.2)) kvs) (k : List Int) (a : Addr) {x : Value} {y : AV} (q : Rep ρ h x y) :
    RepK ρ h ((storedH xs k a x).map fun x => (x.1, x.2.2)) (kvPut kvs k y) := by
  have h1 : (storedH xs k a x).map (fun x => (x.1, x.2.2)) = stored (xs.map fun x => (x.1, x.2.2)) k x := by
    cases e : atKey xs k with
    | none =>
      have hno : (xs.map fun x => (x.1, x.2.2)).any (fun kv => kv.1 = k) = false := by
        unfold atKey at e
        rw [Option.map_eq_none_iff, List.find?_eq_none] at e
        rw [List.any_eq_false]
        intro p hp
        refine e1a2 (List.mem_map.mp hp) fun z hz x1_ => ?_; subst x1_
        simpa using e z hz
      rw [storedH_new e]
      unfold stored
      rw [hno]; simp
    | some p =>
      have hyes : (xs.map fun x => (x.1, x.2.2)).any (fun kv => kv.1 = k) = true := by
        unfold atKey at e
        refine e1a2 (Option.map_eq_some_iff.mp e) fun z hz _ => ?_
        refine List.any_eq_true.mpr ⟨(z.1, z.2.2), List.mem_map.mpr ⟨z, List.mem_of_find?_eq_some hz, rfl⟩, ?_⟩
        have := List.find?_some hz
        simpa using this
      rw [storedH_old e]
      unfold stored
      rw [hyes, if_pos rfl, List.map_map, List.map_map]
      refine List.map_congr_left fun z _ => ?_
      simp only [Function.comp_apply, putAt]
      split <;> rfl
  rw [h1]; exact repK_put r k q
theorem P_setItem {n : Nat} {uj uv : Value} {j x : AV} {K : LT} (R : Room n A) (G : Gd c.w c.hR ρ L T s) (r : Rep ρ s.heap u v) (rj : Rep ρ s.heap uj j) (rx : Rep ρ s.heap uv x) (h : setI v j x L T K) :
    wpAny (M c) A (setItem u uj uv) (fun _ s' => ∃ L' T', Gd c.w c.hR ρ L' T' s' ∧ Ev no s ρ T s' ρ T' ∧ K L' T') E0 s := by
  have hu := R.u
  refine e3a6 (obj_elim G r h) fun a d o x4_ h3 how hal put hq => ?_; subst x4_
  clear h hal
  have nt := h3.there.1
  have tsof : ∀ {h' : Heap}, Heap.SameBut a s.heap h' → TupStay s.heap h' := fun hs b o' e ht => (hs.2 b (by rintro rfl; refine e1a2 nt fun o ho hn => ?_; rw [ho] at e; cases e; exact hn ht)).trans e
  split at hq
  · rename_i vs k
    have h0 := hq.1; have h1 := hq.2.1; have hp := hq.2.2
    refine e1a1 (rep_int rj) fun t x6_ => ?_; subst x6_
    obtain ⟨rfl, hl, ws, m, h4, h5⟩ := h3
    have hws := h5.length
    have hlid := lid63 hl
    refine setItem_exact h4 h0 (by lia) (by simp only [List.size_toArray]; lia) ?_
    have hs : Heap.SameBut d s.heap (s.heap.update d (Obj.mapSeq (·.setIfInBounds k.toNat uv))) := Heap.SameBut.update ..
    have hat := IsL.update (n := m) h4 (·.setIfInBounds k.toNat uv)
    have e : (ws.toArray.setIfInBounds k.toNat uv) = (ws.set k.toNat uv).toArray := by simp
    exact put (.list (vs.set k.toNat x)) { s with heap := s.heap.update d (Obj.mapSeq (·.setIfInBounds k.toNat uv)) } K trivial hp (fun _ => rfl) hs rfl rfl
      ⟨rfl, by simpa using hl, ws.set k.toNat uv, _, by simpa only [e] using hat, (h5.set rx _).stay (tsof hs) fun _ _ e => e⟩ trivial
  · rename_i kvs z
    have hl := hq.1; have hp := hq.2
    refine e1a1 (rep_str rj) fun t x8_ => ?_; subst x8_
    obtain ⟨rfl, _, xs, hd, rk⟩ := h3
    refine wpAny_setItem_pairs (knd := strKind pp c.w) (k := z) (strKind_is pp c.w z t) hd (fun h' hd' hs => ?_) (by rw [rk.len]; exact lid_fits (Nat.le_of_lt hl))
    exact put (.dS (kvPut kvs z x)) { s with heap := h', toks := s.toks + 1 } K trivial hp (fun _ => rfl) hs rfl rfl ⟨rfl, by have := kvPut_len kvs z x; lia, _, hd', (repK_put rk z rx).stay (tsof hs) fun _ _ e => e⟩ trivial
  · rename_i kvs z
    have hl := hq.1; have hp := hq.2
    refine e1a1 (rep_int rj) fun t x10_ => ?_; subst x10_
    obtain ⟨rfl, _, xs, hd, rk⟩ := h3
    refine wpAny_setItem_pairs (knd := intKind pp c.w) (k := z) (by simp [intKind, Value.isInt]) hd (fun h' hd' hs => ?_) (by rw [rk.len]; exact lid_fits (Nat.le_of_lt hl))
    exact put (.dI (kvPut kvs z x)) { s with heap := h', toks := s.toks + 1 } K trivial hp (fun _ => rfl) hs rfl rfl ⟨rfl, by have := kvPut_len kvs z x; lia, _, hd', (repK_put rk z rx).stay (tsof hs) fun _ _ e => e⟩ trivial
  · rename_i kvs zs
    split at hq
    · rename_i ks hks
      have hl := hq.1; have hp := hq.2
      refine e1a2 (tupKey (c := c) rj hks) fun b x12_ hkey => ?_; subst x12_
      obtain ⟨rfl, _, xs, hd, rk⟩ := h3
      refine wpAny_setItem_heap (knd := tupleKind (intKind pp c.w)) (tupleKind_room_in1 (by have : cLine = 9900 := rfl; lia)) hkey hd (fun h' hd' hs => ?_) (by have := rk.len; simp only [List.length_map] at this; rw [this]; exact lid_fits (Nat.le_of_lt hl))
      exact put (.dT (kvPut kvs ks x)) { s with heap := h', toks := _ } K trivial hp (fun _ => rfl) hs rfl rfl ⟨rfl, by have := kvPut_len kvs ks x; lia, _, hd', (repH_put rk ks b rx).stay (tsof hs) fun _ _ e => e⟩ trivial
    · exact hq.elim
  · exact hq.elim
noncomputable def dgetW (o k d : AV) (L : List AO) (T : Tm) (Q : AV → LT) : Prop := obj o L T fun ob => (match ob, k with
  | .dS kvs, .d (.str z) => Q ((kvGet kvs z).getD d) L T
  | .dI kvs, .d (.int z) => Q ((kvGet kvs z).getD d) L T
  | .dT kvs, .d (.tuple zs) => (match intsOf zs with | some ks => Q ((kvGet kvs ks).getD d) L T | none => False)
  | _, _ => False)
theorem dict_getm {a : Addr} {pl : Sem Bool} {o : AO} {d : Addr} {Q : Value × List Value → Shared → Prop} (h3 : ObjRep c.w ρ s.heap a d o) (ho : match o with | .dS _ | .dI _ | .dT _ => True | _ => False) (h : Q (.builtin "dict.get", [.ref a]) s) : wpAny (M c) A (getMethod (.ref a) "get" pl) Q E0 s := by
  have key : ∃ o, s.heap.get? a = some o ∧ o.cls = .type "dict" ∧ o.dict = none := by
    cases o with
    | list => exact ho.elim
    | inst => exact ho.elim
    | dS kvs => (obtain ⟨x14_, _, xs, x15_, _⟩ := h3; subst x14_; refine e3a3 x15_ fun o _ _ h1 h2 _ => ?_); exact ⟨o, h1, h2.1, h2.2.1⟩
    | dI kvs => (obtain ⟨x16_, _, xs, x17_, _⟩ := h3; subst x16_; refine e3a3 x17_ fun o _ _ h1 h2 _ => ?_); exact ⟨o, h1, h2.1, h2.2.1⟩
    | dT kvs => (obtain ⟨x18_, _, xs, x19_, _⟩ := h3; subst x18_; refine e3a3 x19_ fun o _ _ h1 h2 _ => ?_); exact ⟨o, h1, h2.1, h2.2.1⟩
  refine e1a3 key fun o' h1 h2 h4 => ?_
  exact getMethod_builtin (T := "dict") ⟨o', h1, h2⟩ PySem.F.plainAttrs_dict PySem.F.slot_dict_get PySem.F.type_dict_get (fun b e => by cases e; exact ⟨o', h1, h4⟩) h
theorem P_dget {n : Nat} {pos : Pos} {a : Addr} {x y : Sem Value} {Q : AV → LT} (R : Room n A) (S : Stat c.w c.hR) (hne : (a == sysModules) = false)
    (h : wpAny (M c) A x (fun ux s₁ => wpAny (M c) A y (fun uy s₂ => ∃ ρ₂ L₂ T₂ k d, Gd c.w c.hR ρ₂ L₂ T₂ s₂ ∧ Ev no s ρ T s₂ ρ₂ T₂ ∧ Rep ρ₂ s₂.heap (.ref a) v ∧ Rep ρ₂ s₂.heap ux k ∧ Rep ρ₂ s₂.heap uy d ∧ dgetW v k d L₂ T₂ Q) E0 s₁) E0 s) :
    wpAny (M c) A (callWith pos (.builtin "dict.get") [.ref a] [(false, x), (false, y)] []) (Bk c s ρ T Q) E0 s := by
  have hu := R.u
  refine method2_meetsIn (T := "dict") PySem.F.slot_dict_get PySem.F.entry_dict_get (wpAny_mono h (fun ux s₁ h₁ => wpAny_mono h₁ (fun uy s₂ h₂ => ?_) fun _ _ e => e) fun _ _ e => e)
  refine e5a6 h₂ fun ρ₂ L₂ T₂ k d G E' ro rk rd hq => ?_
  refine e3a6 (obj_elim G ro hq) fun a' e o he h3 how hal hpt hr => ?_
  clear hq hal hpt
  cases he
  have fin : ∀ {r : Value} {z : AV} (t : Nat), Rep ρ₂ s₂.heap r z → Q z L₂ T₂ → Bk c s ρ T Q r { s₂ with toks := t } := fun t r q => by
    have x21_ := G.toks t; have G' := x21_.1; have E'' := x21_.2
    exact ⟨_, _, _, _, G', E'.trans E'', E''.rep r, q⟩
  split at hr
  · rename_i kvs z
    refine e1a1 (rep_str rk) fun t x22_ => ?_; subst x22_
    obtain ⟨rfl, _, xs, hd, rkv⟩ := h3
    refine ⟨hd.typeIs, PySem.F.args_dict_get_3 _ _ _, _, meets_dict_get_default (strKind pp c.w) e (strKind_is pp c.w z t) hne uy, valueAt xs, hd.mapOf, ?_⟩
    rcases repK_get rkv z with ⟨e1, e2⟩ | ⟨x, y, e1, e2, r⟩
    · rw [e1]; rw [e2] at hr; exact fin _ rd hr
    · rw [e1]; rw [e2] at hr; exact fin _ r hr
  · rename_i kvs z
    refine e1a1 (rep_int rk) fun t x24_ => ?_; subst x24_
    obtain ⟨rfl, _, xs, hd, rkv⟩ := h3
    refine ⟨hd.typeIs, PySem.F.args_dict_get_3 _ _ _, _, meets_dict_get_default (intKind pp c.w) e (k := z) (by simp [intKind, Value.isInt]) hne uy, valueAt xs, hd.mapOf, ?_⟩
    rcases repK_get rkv z with ⟨e1, e2⟩ | ⟨x, y, e1, e2, r⟩
    · rw [e1]; rw [e2] at hr; exact fin _ rd hr
    · rw [e1]; rw [e2] at hr; exact fin _ r hr
  · rename_i kvs zs
    split at hr
    · rename_i ks hks
      refine e1a2 (tupKey (c := c) rk hks) fun b x26_ hkey => ?_; subst x26_
      obtain ⟨rfl, _, xs, hd, rkv⟩ := h3
      refine ⟨hd.typeIs, PySem.F.args_dict_get_3 _ _ _, _, meetsH_dict_get_default (tupleKind (intKind pp c.w)) e b hne uy, tupleKind_room_in1 (by have : cLine = 9900 := rfl; lia), ks, xs, hkey, hd, ?_⟩
      rcases repH_get rkv ks with ⟨e1, e2⟩ | ⟨x, y, e1, e2, r⟩
      · rw [e1]; rw [e2] at hr; exact fin _ rd hr
      · rw [e1]; rw [e2] at hr; exact fin _ r hr
    · exact hr.elim
  · exact hr.elim
end
end Mine
end
section
open PySem.Calls
set_option tactic.hygienic false
namespace Mine
section
variable {c : Cx} {A : Around} {s : Shared} {ρ : RefMap} {L : List AO} {T : Tm} {u u' : Value} {v v' : AV}
inductive ItAt (ρ : RefMap) (h : Heap) (I : Addr) : Option (AV × List AV) → List AV → Prop
  | rng {x : Int} {n : Nat} : IsRangeIter h I x n 1 → ItAt ρ h I none (rangeAV x n)
  | lst {v : AV} {l : Addr} {vs : List AV} (i : Nat) : Rep ρ h (.ref l) v → h.IsListIter I l i → ItAt ρ h I (some (v, vs)) (vs.drop i)
  | tup {t : Addr} {ws : Array Value} {xs : List PyData} (i : Nat) : h.IsTuple t ws → ReadsAll h ws.toList xs [] → h.IsTupleIter I t i → ItAt ρ h I none ((xs.map AV.d).drop i)
theorem tuple_stay {h h' : Heap} {t : Addr} {ws : Array Value} (k : TupStay h h') (x : h.IsTuple t ws) : h'.IsTuple t ws := by
  obtain ⟨o, ho, hc, n, hd⟩ := x
  exact ⟨o, k _ _ ho ⟨hc, _, _, hd⟩, hc, n, hd⟩
theorem ItAt.stay {ρ' : RefMap} {h h' : Heap} {I : Addr} {lv : Option (AV × List AV)} {rest : List AV} (x : ItAt ρ h I lv rest) (k : TupStay h h') (p : ∀ (i : Nat) q, ρ[i]? = some q → ρ'[i]? = some q) (e : h'.get? I = h.get? I) : ItAt ρ' h' I lv rest := by
  cases x with
  | rng a => exact .rng (e.trans a)
  | lst i r a => refine e1a2 a fun o ho hr => ?_; exact .lst i (r.stay k p) ⟨o, e.trans ho, hr⟩
  | tup i a b d => refine e1a2 d fun o ho hr => ?_; exact .tup i (tuple_stay k a) (readsAll_stay k b rfl) ⟨o, e.trans ho, hr⟩
theorem ItAt.notTup {h : Heap} {I : Addr} {lv : Option (AV × List AV)} {rest : List AV} (x : ItAt ρ h I lv rest) : ∀ o, h.get? I = some o → ¬TupObj o := by
  intro o ho ht
  have fl : ∀ {o' : Obj} {f}, h.get? I = some o' → o'.data = .fields f → False := fun h1 h2 => by
    rw [ho] at h1; cases h1
    obtain ⟨_, _, _, e⟩ := ht
    rw [h2] at e; cases e
  cases x with
  | rng a => exact fl a rfl
  | lst i r a => refine e1a3 a fun o' h1 _ h2 => ?_; exact fl h1 h2
  | tup i a b d => refine e1a3 d fun o' h1 _ h2 => ?_; exact fl h1 h2
theorem live_elim {v : AV} {vs : List AV} {P : Prop} {l : Addr} (G : Gd c.w c.hR ρ L T s) (r : Rep ρ s.heap (.ref l) v) (h : live (some (v, vs)) L T P) : AtL c ρ L T s v l vs ∧ P := by
  obtain ⟨a, ws, e, Z, rfl, p⟩ := getL_elim G r h
  cases e
  exact ⟨Z, p⟩
theorem readsAll_len {h : Heap} {ws : List Value} {xs : List PyData} {as : List Addr} (r : ReadsAll h ws xs as) : ws.length = xs.length :=
  ReadsAll.rec (motive_1 := fun _ _ _ _ => True) (motive_2 := fun ws xs _ _ => ws.length = xs.length)
    trivial (fun _ => trivial) (fun _ _ => trivial) (fun _ _ => trivial) (fun _ _ _ _ _ => trivial) (fun _ _ _ _ _ => trivial) (fun _ _ _ _ _ _ _ => trivial)
    rfl (fun _ _ _ ih => congrArg Nat.succ ih) r
structure ItOk (c : Cx) (ρ : RefMap) (T : Tm) (s : Shared) (I : Addr) (lv : Option (AV × List AV)) (rest : List AV) : Prop where
  at_ : ItAt ρ s.heap I lv rest
  own : ¬Own ρ T I
  low : c.hR.get? I = none
theorem ItOk.there {ρ : RefMap} {T : Tm} {s : Shared} {I : Addr} {lv : Option (AV × List AV)} {rest : List AV} (x : ItOk c ρ T s I lv rest) : ∃ o, s.heap.get? I = some o := by
  cases x.at_ with
  | rng a => exact ⟨_, a⟩
  | lst i r a => refine e1a2 a fun o h1 _ => ?_; exact ⟨o, h1⟩
  | tup i a b d => refine e1a2 d fun o h1 _ => ?_; exact ⟨o, h1⟩
theorem ItOk.ev {X : Addr → Prop} {s s' : Shared} {ρ ρ' : RefMap} {T T' : Tm} {I : Addr} {lv : Option (AV × List AV)} {rest : List AV} (x : ItOk c ρ T s I lv rest) (e : Ev X s ρ T s' ρ' T') (hX : ¬X I) : ItOk c ρ' T' s' I lv rest := by
  refine e1a1 x.there fun o ho => ?_
  refine ⟨x.at_.stay e.tup e.pre ?_, fun w => (e.own I w).elim x.own fun z => (by rw [ho] at z; cases z), x.low⟩
  rw [ho]; exact e.keep I o ho x.own hX
noncomputable def NextPost (c : Cx) (s : Shared) (ρ : RefMap) (T : Tm) (I : Addr) (lv : Option (AV × List AV)) (rest : List AV) (r : Option Value) (s' : Shared) : Prop := match rest, r with
  | [], none => Heap.ExtBut I s.heap s'.heap ∧ s'.os = s.os
  | a :: rest', some u => Ev (fun a => a = I) s ρ T s' ρ T ∧ Rep ρ s'.heap u a ∧ ItOk c ρ T s' I lv rest'
  | _, _ => False
theorem P_next {n : Nat} {I : Addr} {lv : Option (AV × List AV)} {rest : List AV} {P : Prop} (R : Room n A) (G : Gd c.w c.hR ρ L T s) (x : ItOk c ρ T s I lv rest) (h : live lv L T P) :
    wpAny (M c) A (pyNext (.ref I)) (fun r s' => Gd c.w c.hR ρ L T s' ∧ P ∧ NextPost c s ρ T I lv rest r s') E0 s := by
  have bad : ∀ b, b = I → ¬Own ρ T b ∧ c.hR.get? b = none ∧ ∀ o, s.heap.get? b = some o → ¬TupObj o := fun b hb => by subst hb; exact ⟨x.own, x.low, x.at_.notTup⟩
  have big : ∀ {s' : Shared}, Heap.SameBut I s.heap s'.heap → s'.gens = s.gens → s'.os = s.os → (∃ o, s'.heap.get? I = some o) → Gd c.w c.hR ρ L T s' ∧ Ev (fun a => a = I) s ρ T s' ρ T := fun he hg hos ⟨o', hI⟩ =>
    G.stay (fun a => a = I) bad hg hos (fun b o hb _ => ⟨o', by rw [hb]; exact hI⟩) fun b o hb e => (he.2 b hb).trans e
  have fin : ∀ {h' : Heap}, Heap.ExtBut I s.heap h' → Gd c.w c.hR ρ L T { s with heap := h' } := fun he => G.stayG (fun a => a = I) bad rfl fun b o hb e => he b o hb e
  obtain ⟨xa, xo, xl⟩ := x
  cases xa with
  | @rng x k a =>
    cases k with
    | zero =>
      exact wpAny_pyNext_range_end R.h a (by simp) fun h' he => ⟨fin he, h, he, rfl⟩
    | succ k =>
      refine wpAny_pyNext_range_item a (by lia) fun h' hit hs => ?_
      have x2_ := big (s' := { s with heap := h', toks := s.toks + 1 }) hs rfl rfl ⟨_, hit⟩; have G' := x2_.1; have E' := x2_.2
      have : ((k + 1 : Nat) : Int) - 1 = (k : Int) := by lia
      rw [this] at hit
      exact ⟨G', h, E', .d (.int _ _), .rng hit, xo, xl⟩
  | @lst v l vs i r a =>
    have x3_ := live_elim G r h; have Z := x3_.1; have p := x3_.2
    refine e2a2 Z.at_ fun ws m h4 h5 => ?_
    cases e : vs[i]? with
    | none =>
      have hn : ws.toArray[i]? = none := by
        simp only [List.getElem?_toArray]
        rw [List.getElem?_eq_none_iff] at e ⊢
        rw [h5.length]; exact e
      have hd : vs.drop i = [] := List.drop_eq_nil_of_le (List.getElem?_eq_none_iff.mp e)
      rw [hd]
      exact wpAny_pyNext_list_end R.h a h4.isList hn fun h' he => ⟨fin he, p, he, rfl⟩
    | some y =>
      refine e1a2 (h5.get e) fun u hu ru => ?_
      have hd : vs.drop i = y :: vs.drop (i + 1) := by
        have x6_ := List.getElem?_eq_some_iff.mp e; have h1 := x6_.1; have h2 := x6_.2
        rw [List.drop_eq_getElem_cons h1, h2]
      rw [hd]
      refine wpAny_pyNext_list_item a h4.isList (by simpa using hu) fun h' hit hs => ?_
      have x7_ := big (s' := { s with heap := h' }) hs rfl rfl (let ⟨o, z, _⟩ := hit; ⟨o, z⟩); have G' := x7_.1; have E' := x7_.2
      exact ⟨G', p, E', E'.rep ru, .lst (i + 1) (E'.rep r) hit, xo, xl⟩
  | @tup t ws xs i a b d =>
    cases e : xs[i]? with
    | none =>
      have hn : ws[i]? = none := by
        rw [← Array.getElem?_toList]
        rw [List.getElem?_eq_none_iff] at e ⊢
        rw [readsAll_len b]; exact e
      have hd : (xs.map AV.d).drop i = [] := List.drop_eq_nil_of_le (by simpa using List.getElem?_eq_none_iff.mp e)
      rw [hd]
      exact wpAny_pyNext_tuple_end R.h d a hn fun h' he => ⟨fin he, h, he, rfl⟩
    | some y =>
      obtain ⟨u, hu, ru⟩ := readsAll_get b rfl (by rw [nth_eq]; exact e)
      have hd : (xs.map AV.d).drop i = .d y :: (xs.map AV.d).drop (i + 1) := by
        have x8_ := List.getElem?_eq_some_iff.mp e; have h1 := x8_.1; have h2 := x8_.2
        rw [List.drop_eq_getElem_cons (by simpa using h1)]
        simp [h2]
      rw [hd]
      refine wpAny_pyNext_tuple_item d a (by rw [← Array.getElem?_toList]; exact hu) fun h' hit hs => ?_
      have x9_ := big (s' := { s with heap := h' }) hs rfl rfl (let ⟨o, z, _⟩ := hit; ⟨o, z⟩); have G' := x9_.1; have E' := x9_.2
      exact ⟨G', h, E', .d (reads_stay E'.tup ru rfl), .tup (i + 1) (tuple_stay E'.tup a) (readsAll_stay E'.tup b rfl) hit, xo, xl⟩
end
end Mine
end
section
open PySem.Calls
set_option tactic.hygienic false
namespace Mine
noncomputable def selD (start stop step : Int) (i : Nat) : Bool :=
  if step > 0 then start ≤ i && i < stop && (i - start) % step == 0
  else stop < i && i ≤ start && (start - i) % (-step) == 0
theorem delitem_eq : Builtin.«list.__delitem__» = fun args => (do
  let (self, [i]) ← slotArgs "__delitem__" 1 args | unsupported "internal:list.__delitem__"
  if let some k ← Builtin.List.listSubscript? i then
    match seqIndex? k (← Builtin.List.listItems self).size with
    | some k => Builtin.List.listUpdate self (·.eraseIdxIfInBounds k); return ← ret .none
    | none => rule "list.__delitem__.out-of-range"; raiseError "IndexError" "list assignment index out of range"
  if (← typeOf i) != .type "slice" then Builtin.List.listBadSubscript i
  let (lo, hi, st) ← Builtin.List.listSliceParts i
  let old ← Builtin.List.listItems self
  let (start, stop, step) ← sliceIndices lo hi st old.size
  rule "list.__delitem__.slice"
  Builtin.List.listUpdate self fun xs => (xs.toList.zipIdx.filterMap fun (x, k) => if selD start stop step k then none else some x).toArray
  let gone := old.toList.zipIdx.filterMap fun (x, k) => if selD start stop step k then some x else none
  letGo (if step == 1 then gone.reverse else gone)
  ret .none) := rfl
theorem selD_one (a n : Int) (i : Nat) : selD a n 1 i = decide (a ≤ (i : Int) ∧ (i : Int) < n) := by
  unfold selD
  rw [if_pos (by decide)]
  by_cases h1 : a ≤ (i : Int) <;> by_cases h2 : (i : Int) < n <;> simp [h1, h2]
theorem del_filter (a n : Int) : ∀ (l : List Value) (o : Nat), (o : Int) + l.length ≤ n → (l.zipIdx o).filterMap (fun (x, k) => if selD a n 1 k then none else some x) = l.take (a - o).toNat
  | [], _, _ => by simp
  | x :: r, o, h => by
    have ih := del_filter a n r (o + 1) (by simp only [List.length_cons] at h; lia)
    rw [List.zipIdx_cons, List.filterMap_cons]
    simp only [List.length_cons] at h
    have hm : (match ((x, o) : Value × Nat) with | (x, k) => if selD a n 1 k = true then none else some x) = if a ≤ (o : Int) then none else some x := by
      show (if selD a n 1 o = true then none else some x) = _
      rw [selD_one]
      by_cases hc : a ≤ (o : Int)
      · have : a ≤ (o : Int) ∧ (o : Int) < n := ⟨hc, by lia⟩
        simp [this, hc]
      · simp [hc]
    rw [hm]
    by_cases hc : a ≤ (o : Int)
    · have e2 : (a - o).toNat = 0 := by lia
      have e3 : (a - ((o + 1 : Nat) : Int)).toNat = 0 := by lia
      rw [e3] at ih
      rw [if_pos hc, e2]
      simpa using ih
    · obtain ⟨k, hk⟩ : ∃ k, (a - o).toNat = k + 1 := ⟨(a - o).toNat - 1, by lia⟩
      have e3 : (a - ((o + 1 : Nat) : Int)).toNat = k := by lia
      rw [e3] at ih
      rw [if_neg hc, hk, List.take_succ_cons]
      exact congrArg _ ih
section
variable {c : Cx} {A : Around} {s : Shared} {ρ : RefMap} {L : List AO} {T : Tm} {u u' : Value} {v v' : AV}
theorem P_delLo {K : LT} {a sl : Addr} {vs : List AV} {k : Int} {t : Tok} (Z : AtL c ρ L T s v a vs) (hsl : s.heap.IsSliceOf sl (.int k t) .none .none) (h0 : 0 ≤ k) (h : wpPutL v (vs.take k.toNat) L T K) :
    wpAny (M c) A (delItem (.ref a) (.ref sl)) (fun _ s' => ∃ L' T', Gd c.w c.hR ρ L' T' s' ∧ Ev no s ρ T s' ρ T' ∧ K L' T') E0 s := by
  refine e2a2 Z.at_ fun ws n h4 h5 => ?_
  refine e1a3 (id hsl) fun os hos hcs hds => ?_
  have hTs : s.TypeIs (.ref sl) "slice" := ⟨os, hos, hcs⟩
  have hL := h4.isList
  have hlen := h5.length
  have hz := Z.len
  refine wpAny_delItem_slot (T := "list") hL.typeIs (by decide) PySem.F.slot_list_delitem (wpAny_call_entry PySem.F.slot_list_delitem hL.typeIs PySem.F.entry_list_delitem ?_ (PySem.F.args_list_delitem_2 _ _))
  rw [delitem_eq]
  refine wpAny_bind (m := slotArgs "__delitem__" 1 _) (wpAny_pure ?_)
  refine wpAny_bind ?_
  · unfold Builtin.List.listSubscript?
    refine wpAny_bind (wpAny_specialOf hTs slice_no_index ?_)
    simp only [Option.isNone_none, if_true]
    refine wpAny_pure ?_
    show wpAny _ _ (typeOf (.ref sl) >>= _) _ _ s
    refine wpAny_bind (wpAny_typeOf hTs ?_)
    rw [if_neg (by decide)]
    rw [listSliceParts_eq]
    refine wpAny_bind (wpAny_bind (wpAny_field hos hds (x := .none) rfl (wpAny_bind (wpAny_listPart .none ?_))))
    rw [if_neg (show ¬((rawPart none == rawInt 0) = true) from Bool.false_ne_true)]
    refine wpAny_bind (wpAny_field hos hds (x := .int k t) rfl (wpAny_bind (wpAny_listPart (.int k t) ?_)))
    refine wpAny_bind (wpAny_field hos hds (x := .none) rfl (wpAny_bind (wpAny_listPart .none (wpAny_pure ?_))))
    refine wpAny_bind (m := Builtin.List.listItems (.ref a)) (listItems_at h4 rfl ?_)
    refine wpAny_bind (wpAny_of_eq (sliceIndices_raw (some k) none none ws.toArray.size (by simp)) ?_)
    refine wpAny_bind (wpAny_rule ?_)
    have e : ∀ xs : Array Value, xs = ws.toArray → (xs.toList.zipIdx.filterMap fun (x, i) => if selD (sliceBounds (some k) none none ws.toArray.size).1 (sliceBounds (some k) none none ws.toArray.size).2.1 (sliceBounds (some k) none none ws.toArray.size).2.2 i then none else some x).toArray = (ws.take k.toNat).toArray := by
      rintro xs rfl
      have hb : sliceBounds (some k) none none ws.toArray.size = (max 0 (min k ws.length), (ws.length : Int), 1) := by
        simp only [sliceBounds, Option.getD_none, List.size_toArray, show (1 : Int) > 0 from by decide, if_true, if_neg (show ¬k < 0 from by lia)]
      rw [hb]
      simp only [List.toList_toArray]
      rw [del_filter _ _ ws 0 (by simp)]
      congr 1
      by_cases hk : k ≤ ws.length
      · congr 1; lia
      · rw [List.take_of_length_le (by lia), List.take_of_length_le (by lia)]
    generalize hf : (fun xs : Array Value => (xs.toList.zipIdx.filterMap fun (x, i) => if selD (sliceBounds (some k) none none ws.toArray.size).1 (sliceBounds (some k) none none ws.toArray.size).2.1 (sliceBounds (some k) none none ws.toArray.size).2.2 i then none else some x).toArray) = f
    have ef : f ws.toArray = (ws.take k.toNat).toArray := by rw [← hf]; exact e _ rfl
    have fits : (f ws.toArray).size ≤ sizeLine + 1 := by
      rw [ef, List.size_toArray, List.length_take]; have := lid_fits hz; lia
    obtain ⟨L', T', G', E', q⟩ := upd_list (f := f) Z h4 h (by rw [List.length_take]; lia) (by rw [ef]; simpa using h5.take k.toNat)
    refine wpAny_bind (listUpdate_at h4 rfl ?_ (by rw [List.size_toArray, hlen]; exact lid_fits hz) fits)
    refine wpAny_bind (wpAny_letGo (wpAny_pure ⟨_, rfl, ?_⟩))
    exact ⟨L', T', G', E', q⟩
theorem P_iaddL {K : LT} {a b : Addr} {vs ws : List AV} (G : Gd c.w c.hR ρ L T s) (Z : AtL c ρ L T s v a vs) (Y : AtL c ρ L T s v' b ws) (hl : (vs ++ ws).length ≤ lid) (h : wpPutL v (vs ++ ws) L T K) :
    wpAny (M c) A (inplaceOp .Add (.ref a) (.ref b)) (fun r s' => r = .ref a ∧ ∃ L' T', Gd c.w c.hR ρ L' T' s' ∧ Ev no s ρ T s' ρ T' ∧ K L' T') E0 s := by
  refine e2a2 Z.at_ fun xs n h4 h5 => ?_
  refine e2a2 Y.at_ fun ys m k4 k5 => ?_
  have hi : typeLookup (.type "list") (dunderI "add") = pure (some (.builtin "list.__iadd__")) := PySem.F.slot_list_iadd.lookup
  have iss : isSeqSlot (some (.builtin "list.__iadd__")) = true := by decide +kernel
  have hfi : fillsInplaceSlot (.type "list") Operator.Add.info.2 (Operator.Add == .Add) = pure false := by
    unfold fillsInplaceSlot
    show (typeLookup (.type "list") (dunderI "add") >>= fun fi => pure (fi.isSome && !isSeqSlot fi)) = pure false
    rw [hi, pure_bind, iss]; rfl
  unfold inplaceOp
  refine wpAny_holding ?_
  refine wpAny_bind (wpAny_typeOf h4.isList.typeIs (wpAny_bind (wpAny_of_eq hfi ?_)))
  simp only [Bool.false_eq_true, if_false]
  refine wpAny_bind (wpAny_binaryOp1_none (nm := "add") h4.isList.typeIs k4.isList.typeIs noFill_list_add ?_)
  refine wpAny_bind (wpAny_of_eq (PySem.seqSlot_of (T := "list") hi iss) ?_)
  refine wpAny_bind (wpAny_rule ?_)
  refine wpAny_call_entry PySem.F.slot_list_iadd h4.isList.typeIs PySem.F.entry_list_iadd ?_ (PySem.F.args_list_iadd_2 _ _)
  unfold Builtin.«list.__iadd__»
  refine wpAny_bind (m := slotArgs "__iadd__" 1 _) (wpAny_pure ?_)
  show wpAny _ _ (Builtin.List.listExtendWith (.ref a) (.ref b) (.ref a)) _ _ s
  unfold Builtin.List.listExtendWith
  refine wpAny_bind (wpAny_typeOf k4.isList.typeIs ?_)
  have ht : (Value.type "list" == Value.type "list") = true := by rfl
  rw [if_pos (by rw [ht]; simp)]
  refine wpAny_bind (listItems_at k4 rfl (wpAny_bind (listItems_at h4 rfl ?_)))
  have hz := Z.len
  have hsz : xs.toArray.size + ys.toArray.size ≤ sizeLine := by
    simp only [List.size_toArray, h5.length, k5.length]
    rw [List.length_append] at hl; exact lid_fits hl
  rw [if_neg (by unfold Builtin.List.listTooLong; simp; intro _; simpa using hsz)]
  obtain ⟨L', T', G', E', q⟩ := upd_list (f := fun z => z ++ ys.toArray) Z h4 h hl (by simpa using h5.append k5)
  refine wpAny_bind (listUpdate_at h4 rfl ?_ (by rw [List.size_toArray, h5.length]; exact lid_fits hz) (by rw [Array.size_append]; lia))
  exact wpAny_bind (wpAny_pure (wpAny_pure ⟨_, rfl, rfl, L', T', G', E', q⟩))
theorem P_dnew {pos : Pos} {env : Env} {Q : AV → LT} (G : Gd c.w c.hR ρ L T s) (h : wpNewO (.dI []) L T Q ∨ wpNewO (.dS []) L T Q ∨ wpNewO (.dT []) L T Q) : wpAny (M c) A (eval (.Dict [] [] pos) env) (Bk c s ρ T Q) E0 s := by
  have hk : ∀ b o, s.heap.get? b = some o → (s.heap.push { cls := .type "dict", data := .dict #[] }).get? b = some o := fun _ _ e => Heap.get?_push_of_some _ e
  have go : ∀ o : AO, o.flat → (∀ ρ', ObjRep c.w ρ' (s.heap.push { cls := .type "dict", data := .dict #[] }) s.heap.objs.size s.heap.objs.size o) → wpNewO o L T Q → Bk c s ρ T Q (.ref s.heap.objs.size) { s with heap := s.heap.push { cls := .type "dict", data := .dict #[] } } := by
    intro o hf r h
    rcases h with h | h
    · obtain ⟨G', E', e⟩ := G.addL (s' := { s with heap := s.heap.push { cls := .type "dict", data := .dict #[] } }) (Nat.le_refl _) (Nat.le_refl _) rfl rfl hk (r _)
      exact ⟨_, _, _, _, G', E', .ref e, h⟩
    · obtain ⟨e, G', E'⟩ := G.addT (s' := { s with heap := s.heap.push { cls := .type "dict", data := .dict #[] } }) (Nat.le_refl _) rfl rfl hk (r _) hf
      exact ⟨_, _, _, _, G', E', .tmp, h _ e⟩
  refine wpAny_Dict_empty ?_
  rcases h with h | h | h
  · exact go (.dI []) trivial (fun ρ' => ⟨rfl, Nat.zero_le _, [], Heap.DictOf.new _, .nil⟩) h
  · exact go (.dS []) trivial (fun ρ' => ⟨rfl, Nat.zero_le _, [], Heap.DictOf.new _, .nil⟩) h
  · exact go (.dT []) trivial (fun ρ' => ⟨rfl, Nat.zero_le _, [], Heap.DictOfH.new _, .nil⟩) h
end
end Mine
end
section
open PySem.Calls
set_option tactic.hygienic false
namespace Mine
noncomputable def Gl.isFn (g : Gl) : Bool := match g.raw with | .ref a => !g.isCls && a != 180 | _ => false
theorem gl_keep (P : Params) {g : Gl} (h : (g.isFn || g.isCls) = true) : keepIn (Kof pp P) g.raw = true := by
  have k : ∀ P, (glAll.all fun g => !(g.isFn || g.isCls) || keepIn (Kof pp P) g.raw) = true := by intro P; kernel_rfl!
  have z := List.all_eq_true.mp (k P) g (gl_mem g)
  rw [h] at z
  simpa using z
noncomputable def locOk (sc : Scope) (vars : List Str) (i : Nat) (x : Str) : Bool :=
  vars[i]? == some x && x != ("__debug__" : Str) && x != ("__classdict__" : Str)
noncomputable def glOk (sc : Scope) (g : Gl) (x : Str) : Bool := x == g.nm && sc.names.lookup x == some .globalImplicit && x != ("__debug__" : Str)
noncomputable def blOk (sc : Scope) (b : String) (x : Str) : Bool := x == (Str.ofString b) && sc.names.lookup x == some .globalImplicit
noncomputable def stOk (sc : Scope) (vars : List Str) (i : Nat) (x : Str) : Bool := vars[i]? == some x && (sc.names.lookup x == some .local || sc.names.lookup x == some .cell)
noncomputable def ob {α : Type} {P : α → Prop} (o : Option {q : α // P q}) (f : α → Bool) : Bool := match o with | some a => f a.1 | none => false
theorem ob_elim {α : Type} {P : α → Prop} {o : Option {q : α // P q}} {f : α → Bool} (h : ob o f = true) : ∃ a, P a ∧ f a = true := by
  cases o with
  | none => exact Bool.noConfusion h
  | some a => exact ⟨a.1, a.2, h⟩
theorem bor {a b : Bool} (h : (a || b) = true) : a = true ∨ b = true := by cases a with | true => exact .inl rfl | false => exact .inr h
theorem band {a b : Bool} (h : (a && b) = true) : a = true ∧ b = true := by cases a <;> cases b <;> first | exact ⟨rfl, rfl⟩ | cases h
noncomputable def vName (x : PySem.Expr) : Option {q : Str × Pos // x = .Name q.1 q.2} := if h : x.ctorIdx = 23 then PySem.Expr.Name.elim (motive_1 := fun x => Option {q : Str × Pos // x = .Name q.1 q.2}) x h (fun a0 a1 => some ⟨(a0, a1), rfl⟩) else none
noncomputable def vConst (x : PySem.Expr) : Option {q : Const × Nat × Pos // x = .Constant q.1 q.2.1 q.2.2} := if h : x.ctorIdx = 19 then PySem.Expr.Constant.elim (motive_1 := fun x => Option {q : Const × Nat × Pos // x = .Constant q.1 q.2.1 q.2.2}) x h (fun a0 a1 a2 => some ⟨(a0, a1, a2), rfl⟩) else none
noncomputable def vUn (x : PySem.Expr) : Option {q : UnaryOp × PySem.Expr × Pos // x = .UnaryOp q.1 q.2.1 q.2.2} := if h : x.ctorIdx = 3 then PySem.Expr.UnaryOp.elim (motive_1 := fun x => Option {q : UnaryOp × PySem.Expr × Pos // x = .UnaryOp q.1 q.2.1 q.2.2}) x h (fun a0 a1 a2 => some ⟨(a0, a1, a2), rfl⟩) else none
noncomputable def vAttr (x : PySem.Expr) : Option {q : PySem.Expr × Str × Pos // x = .Attribute q.1 q.2.1 q.2.2} := if h : x.ctorIdx = 20 then PySem.Expr.Attribute.elim (motive_1 := fun x => Option {q : PySem.Expr × Str × Pos // x = .Attribute q.1 q.2.1 q.2.2}) x h (fun a0 a1 a2 => some ⟨(a0, a1, a2), rfl⟩) else none
noncomputable def vSub (x : PySem.Expr) : Option {q : PySem.Expr × PySem.Expr × Pos // x = .Subscript q.1 q.2.1 q.2.2} := if h : x.ctorIdx = 21 then PySem.Expr.Subscript.elim (motive_1 := fun x => Option {q : PySem.Expr × PySem.Expr × Pos // x = .Subscript q.1 q.2.1 q.2.2}) x h (fun a0 a1 a2 => some ⟨(a0, a1, a2), rfl⟩) else none
noncomputable def vSlice (x : PySem.Expr) : Option {q : Option PySem.Expr × Option PySem.Expr × Option PySem.Expr × Pos // x = .Slice q.1 q.2.1 q.2.2.1 q.2.2.2} := if h : x.ctorIdx = 26 then PySem.Expr.Slice.elim (motive_1 := fun x => Option {q : Option PySem.Expr × Option PySem.Expr × Option PySem.Expr × Pos // x = .Slice q.1 q.2.1 q.2.2.1 q.2.2.2}) x h (fun a0 a1 a2 a3 => some ⟨(a0, a1, a2, a3), rfl⟩) else none
noncomputable def vBin (x : PySem.Expr) : Option {q : PySem.Expr × Operator × PySem.Expr × Pos // x = .BinOp q.1 q.2.1 q.2.2.1 q.2.2.2} := if h : x.ctorIdx = 2 then PySem.Expr.BinOp.elim (motive_1 := fun x => Option {q : PySem.Expr × Operator × PySem.Expr × Pos // x = .BinOp q.1 q.2.1 q.2.2.1 q.2.2.2}) x h (fun a0 a1 a2 a3 => some ⟨(a0, a1, a2, a3), rfl⟩) else none
noncomputable def vIf (x : PySem.Expr) : Option {q : PySem.Expr × PySem.Expr × PySem.Expr × Pos // x = .IfExp q.1 q.2.1 q.2.2.1 q.2.2.2} := if h : x.ctorIdx = 5 then PySem.Expr.IfExp.elim (motive_1 := fun x => Option {q : PySem.Expr × PySem.Expr × PySem.Expr × Pos // x = .IfExp q.1 q.2.1 q.2.2.1 q.2.2.2}) x h (fun a0 a1 a2 a3 => some ⟨(a0, a1, a2, a3), rfl⟩) else none
noncomputable def vTup (x : PySem.Expr) : Option {q : List PySem.Expr × Nat × Pos // x = .Tuple q.1 q.2.1 q.2.2} := if h : x.ctorIdx = 25 then PySem.Expr.Tuple.elim (motive_1 := fun x => Option {q : List PySem.Expr × Nat × Pos // x = .Tuple q.1 q.2.1 q.2.2}) x h (fun a0 a1 a2 => some ⟨(a0, a1, a2), rfl⟩) else none
noncomputable def vList (x : PySem.Expr) : Option {q : List PySem.Expr × Pos // x = .List q.1 q.2} := if h : x.ctorIdx = 24 then PySem.Expr.List.elim (motive_1 := fun x => Option {q : List PySem.Expr × Pos // x = .List q.1 q.2}) x h (fun a0 a1 => some ⟨(a0, a1), rfl⟩) else none
noncomputable def vComp (x : PySem.Expr) : Option {q : PySem.Expr × List Comprehension × Scope × Pos // x = .ListComp q.1 q.2.1 q.2.2.1 q.2.2.2} := if h : x.ctorIdx = 8 then PySem.Expr.ListComp.elim (motive_1 := fun x => Option {q : PySem.Expr × List Comprehension × Scope × Pos // x = .ListComp q.1 q.2.1 q.2.2.1 q.2.2.2}) x h (fun a0 a1 a2 a3 => some ⟨(a0, a1, a2, a3), rfl⟩) else none
noncomputable def vCall (x : PySem.Expr) : Option {q : PySem.Expr × List PySem.Expr × List Keyword × Pos // x = .Call q.1 q.2.1 q.2.2.1 q.2.2.2} := if h : x.ctorIdx = 16 then PySem.Expr.Call.elim (motive_1 := fun x => Option {q : PySem.Expr × List PySem.Expr × List Keyword × Pos // x = .Call q.1 q.2.1 q.2.2.1 q.2.2.2}) x h (fun a0 a1 a2 a3 => some ⟨(a0, a1, a2, a3), rfl⟩) else none
noncomputable def vJoin (x : PySem.Expr) : Option {q : List PySem.Expr × Pos // x = .JoinedStr q.1 q.2} := if h : x.ctorIdx = 18 then PySem.Expr.JoinedStr.elim (motive_1 := fun x => Option {q : List PySem.Expr × Pos // x = .JoinedStr q.1 q.2}) x h (fun a0 a1 => some ⟨(a0, a1), rfl⟩) else none
noncomputable def vFmt (x : PySem.Expr) : Option {q : PySem.Expr × Int × Option PySem.Expr × Pos // x = .FormattedValue q.1 q.2.1 q.2.2.1 q.2.2.2} := if h : x.ctorIdx = 17 then PySem.Expr.FormattedValue.elim (motive_1 := fun x => Option {q : PySem.Expr × Int × Option PySem.Expr × Pos // x = .FormattedValue q.1 q.2.1 q.2.2.1 q.2.2.2}) x h (fun a0 a1 a2 a3 => some ⟨(a0, a1, a2, a3), rfl⟩) else none
noncomputable def vDict (x : PySem.Expr) : Option {q : List (Option PySem.Expr) × List PySem.Expr × Pos // x = .Dict q.1 q.2.1 q.2.2} := if h : x.ctorIdx = 6 then PySem.Expr.Dict.elim (motive_1 := fun x => Option {q : List (Option PySem.Expr) × List PySem.Expr × Pos // x = .Dict q.1 q.2.1 q.2.2}) x h (fun a0 a1 a2 => some ⟨(a0, a1, a2), rfl⟩) else none
noncomputable def vCmp (x : PySem.Expr) : Option {q : PySem.Expr × List CmpOp × List PySem.Expr × Pos // x = .Compare q.1 q.2.1 q.2.2.1 q.2.2.2} := if h : x.ctorIdx = 15 then PySem.Expr.Compare.elim (motive_1 := fun x => Option {q : PySem.Expr × List CmpOp × List PySem.Expr × Pos // x = .Compare q.1 q.2.1 q.2.2.1 q.2.2.2}) x h (fun a0 a1 a2 a3 => some ⟨(a0, a1, a2, a3), rfl⟩) else none
noncomputable def vBool (x : PySem.Expr) : Option {q : BoolOp × List PySem.Expr × Pos // x = .BoolOp q.1 q.2.1 q.2.2} := if h : x.ctorIdx = 0 then PySem.Expr.BoolOp.elim (motive_1 := fun x => Option {q : BoolOp × List PySem.Expr × Pos // x = .BoolOp q.1 q.2.1 q.2.2}) x h (fun a0 a1 a2 => some ⟨(a0, a1, a2), rfl⟩) else none
noncomputable def cInt (x : Const) : Option {q : Int // x = .int q} := if h : x.ctorIdx = 2 then PySem.Const.int.elim (motive := fun x => Option {q : Int // x = .int q}) x h (fun a0 => some ⟨a0, rfl⟩) else none
noncomputable def cStr (x : Const) : Option {q : Str // x = .str q} := if h : x.ctorIdx = 5 then PySem.Const.str.elim (motive := fun x => Option {q : Str // x = .str q}) x h (fun a0 => some ⟨a0, rfl⟩) else none
noncomputable def cBool (x : Const) : Option {q : Bool // x = .bool q} := if h : x.ctorIdx = 1 then PySem.Const.bool.elim (motive := fun x => Option {q : Bool // x = .bool q}) x h (fun a0 => some ⟨a0, rfl⟩) else none
noncomputable def cNone (x : Const) : Option {_q : Unit // x = .none} := if h : x.ctorIdx = 0 then PySem.Const.none.elim (motive := fun x => Option {_q : Unit // x = .none}) x h (some ⟨(), rfl⟩) else none
noncomputable def wAssign (x : PySem.Stmt) : Option {q : List PySem.Expr × PySem.Expr × Pos // x = .Assign q.1 q.2.1 q.2.2} := if h : x.ctorIdx = 5 then PySem.Stmt.Assign.elim (motive_2 := fun x => Option {q : List PySem.Expr × PySem.Expr × Pos // x = .Assign q.1 q.2.1 q.2.2}) x h (fun a0 a1 a2 => some ⟨(a0, a1, a2), rfl⟩) else none
noncomputable def wAug (x : PySem.Stmt) : Option {q : PySem.Expr × Operator × PySem.Expr × Pos // x = .AugAssign q.1 q.2.1 q.2.2.1 q.2.2.2} := if h : x.ctorIdx = 7 then PySem.Stmt.AugAssign.elim (motive_2 := fun x => Option {q : PySem.Expr × Operator × PySem.Expr × Pos // x = .AugAssign q.1 q.2.1 q.2.2.1 q.2.2.2}) x h (fun a0 a1 a2 a3 => some ⟨(a0, a1, a2, a3), rfl⟩) else none
noncomputable def wExpr (x : PySem.Stmt) : Option {q : PySem.Expr × Pos // x = .Expr q.1 q.2} := if h : x.ctorIdx = 24 then PySem.Stmt.Expr.elim (motive_2 := fun x => Option {q : PySem.Expr × Pos // x = .Expr q.1 q.2}) x h (fun a0 a1 => some ⟨(a0, a1), rfl⟩) else none
noncomputable def wRet (x : PySem.Stmt) : Option {q : Option PySem.Expr × Pos // x = .Return q.1 q.2} := if h : x.ctorIdx = 3 then PySem.Stmt.Return.elim (motive_2 := fun x => Option {q : Option PySem.Expr × Pos // x = .Return q.1 q.2}) x h (fun a0 a1 => some ⟨(a0, a1), rfl⟩) else none
noncomputable def wIf (x : PySem.Stmt) : Option {q : PySem.Expr × List PySem.Stmt × List PySem.Stmt × Pos // x = .If q.1 q.2.1 q.2.2.1 q.2.2.2} := if h : x.ctorIdx = 12 then PySem.Stmt.If.elim (motive_2 := fun x => Option {q : PySem.Expr × List PySem.Stmt × List PySem.Stmt × Pos // x = .If q.1 q.2.1 q.2.2.1 q.2.2.2}) x h (fun a0 a1 a2 a3 => some ⟨(a0, a1, a2, a3), rfl⟩) else none
noncomputable def wWhile (x : PySem.Stmt) : Option {q : PySem.Expr × List PySem.Stmt × List PySem.Stmt × Pos // x = .While q.1 q.2.1 q.2.2.1 q.2.2.2} := if h : x.ctorIdx = 11 then PySem.Stmt.While.elim (motive_2 := fun x => Option {q : PySem.Expr × List PySem.Stmt × List PySem.Stmt × Pos // x = .While q.1 q.2.1 q.2.2.1 q.2.2.2}) x h (fun a0 a1 a2 a3 => some ⟨(a0, a1, a2, a3), rfl⟩) else none
noncomputable def wFor (x : PySem.Stmt) : Option {q : PySem.Expr × PySem.Expr × List PySem.Stmt × List PySem.Stmt × Pos // x = .For q.1 q.2.1 q.2.2.1 q.2.2.2.1 q.2.2.2.2} := if h : x.ctorIdx = 9 then PySem.Stmt.For.elim (motive_2 := fun x => Option {q : PySem.Expr × PySem.Expr × List PySem.Stmt × List PySem.Stmt × Pos // x = .For q.1 q.2.1 q.2.2.1 q.2.2.2.1 q.2.2.2.2}) x h (fun a0 a1 a2 a3 a4 => some ⟨(a0, a1, a2, a3, a4), rfl⟩) else none
noncomputable def wDel (x : PySem.Stmt) : Option {q : List PySem.Expr × Pos // x = .Delete q.1 q.2} := if h : x.ctorIdx = 4 then PySem.Stmt.Delete.elim (motive_2 := fun x => Option {q : List PySem.Expr × Pos // x = .Delete q.1 q.2}) x h (fun a0 a1 => some ⟨(a0, a1), rfl⟩) else none
noncomputable def l0 {α : Type} (l : List α) : Option {_q : Unit // l = []} := match l with | [] => some ⟨(), rfl⟩ | _ :: _ => none
noncomputable def l1 {α : Type} (l : List α) : Option {q : α // l = [q]} := match l with | [a] => some ⟨a, rfl⟩ | _ => none
noncomputable def l2 {α : Type} (l : List α) : Option {q : α × α // l = [q.1, q.2]} := match l with | [a, b] => some ⟨(a, b), rfl⟩ | _ => none
noncomputable def lc {α : Type} (l : List α) : Option {q : α × List α // l = q.1 :: q.2} := match l with | a :: r => some ⟨(a, r), rfl⟩ | [] => none
noncomputable def oS {α : Type} (l : Option α) : Option {q : α // l = some q} := match l with | some a => some ⟨a, rfl⟩ | none => none
noncomputable def oN {α : Type} (l : Option α) : Option {_q : Unit // l = none} := match l with | none => some ⟨(), rfl⟩ | some _ => none
noncomputable def vCallN (x : PySem.Expr) : Option {q : Str × Pos × List PySem.Expr × Pos // x = .Call (.Name q.1 q.2.1) q.2.2.1 [] q.2.2.2} :=
  (vCall x).bind fun ⟨(f, as, kw, p), e⟩ => (vName f).bind fun ⟨(n, q), e'⟩ => (l0 kw).map fun ⟨_, e''⟩ => ⟨(n, q, as, p), by subst e' e''; exact e⟩
noncomputable def vCallA (x : PySem.Expr) : Option {q : PySem.Expr × Str × Pos × List PySem.Expr × Pos // x = .Call (.Attribute q.1 q.2.1 q.2.2.1) q.2.2.2.1 [] q.2.2.2.2} :=
  (vCall x).bind fun ⟨(f, as, kw, p), e⟩ => (vAttr f).bind fun ⟨(o, n, q), e'⟩ => (l0 kw).map fun ⟨_, e''⟩ => ⟨(o, n, q, as, p), by subst e' e''; exact e⟩
noncomputable def vInt (x : PySem.Expr) : Option {q : Int × Nat × Pos // x = .Constant (.int q.1) q.2.1 q.2.2} :=
  (vConst x).bind fun ⟨(k, n, p), e⟩ => (cInt k).map fun ⟨j, e'⟩ => ⟨(j, n, p), by subst e'; exact e⟩
noncomputable def vStr (x : PySem.Expr) : Option {q : Str × Nat × Pos // x = .Constant (.str q.1) q.2.1 q.2.2} :=
  (vConst x).bind fun ⟨(k, n, p), e⟩ => (cStr k).map fun ⟨j, e'⟩ => ⟨(j, n, p), by subst e'; exact e⟩
noncomputable def is {α : Type} {P : α → Prop} (o : Option {q : α // P q}) : Bool := ob o fun _ => true
noncomputable def notSl (x : PySem.Expr) : Bool := !is (vSlice x)
noncomputable def notComp (x : PySem.Expr) : Bool := !(x.ctorIdx == 8 || (x.ctorIdx == 9 || x.ctorIdx == 10))
noncomputable def notTup (x : PySem.Expr) : Bool := !is (vTup x)
noncomputable def iterOk (x : PySem.Expr) : Bool := is (vName x) || is (vAttr x) || is (vCall x) || is (vSub x)
noncomputable def testOk (x : PySem.Expr) : Bool := is (vName x) || is (vCall x)
noncomputable def Bop.op : Bop → Operator
  | .add => .Add | .sub => .Sub | .mod => .Mod | .fdiv => .FloorDiv
noncomputable def relabelS (scope outer : Scope) : Scope :=
  { scope with names := scope.names.map fun (n, k) => if (k == .free && outer.kind == .function && outer.names.lookup n == some .cell) then (n, .cell) else (n, k) }
noncomputable def compOk (sc : Scope) (vars : List Str) (scope : Scope) (tg : List Str) (cv : List Str) (frs : List Nat) : Bool :=
  scope.kind == .function && scope.names.all (fun x => x.2 != .cell) && scope.names.all (fun x => x.2 != .local || scope.names.lookup x.1 == some .local) &&
  sc.kind == .function && scope.names.all (fun x => x.2 != .free || sc.names.lookup x.1 == some .cell) &&
  tg.all (fun x => scope.names.lookup x == some .local) &&
  cv == tg ++ frs.map (fun i => vars.getD i "") && frs.all (fun i => decide (i < vars.length)) && (frs.all fun i => scope.names.lookup (vars.getD i "") == some .free && sc.names.lookup (vars.getD i "") == some .cell) && decide cv.Nodup && decide (scope.names.map (·.1)).Nodup
noncomputable def tgOk (sc : Scope) (vars : List Str) (scope : Scope) (two : Bool) (tg : PySem.Expr) (cv : List Str) (frs : List Nat) : Bool := match two with
  | false => ob (vName tg) fun q => compOk sc vars scope [q.1] cv frs
  | true => ob (vTup tg) fun q => ob (l2 q.1) fun r => ob (vName r.1) fun n => ob (vName r.2) fun m => compOk sc vars scope [n.1, m.1] cv frs
noncomputable def C.isTt : C → Bool
  | .tt => true
  | _ => false
noncomputable def spl (l : List PySem.Expr) (fa fb : PySem.Expr → Bool) (fr : List PySem.Expr → Bool) : Bool := ob (lc l) fun q => fa q.1 && (ob (l1 q.2) (fun r => fb r) || fr q.2)
noncomputable def E.isStr : E → Str → Bool
  | .str s, t => s == t
  | _, _ => false
mutual
noncomputable def chkE (sc : Scope) (vars : List Str) : E → PySem.Expr → Bool
  | .loc i, x => ob (vName x) fun q => locOk sc vars i q.1
  | .gl g, x => ob (vName x) fun q => glOk sc g q.1
  | .int k, x => ob (vInt x) (fun q => k == q.1) || ob (vUn x) fun q => q.1 == .USub && ob (vInt q.2.1) fun r => k == -r.1
  | .str s, x => ob (vStr x) fun q => s == q.1
  | .bool b, x => ob (vConst x) fun q => ob (cBool q.1) fun r => b == r
  | .none, x => ob (vConst x) fun q => ob (cNone q.1) fun _ => true
  | .attr e a, x => ob (vAttr x) fun q => q.2.1 == a.name && (baseOk q.1 && chkE sc vars e q.1)
  | .sub e i, x => ob (vSub x) fun q => notSl q.2.1 && (chkE sc vars e q.1 && chkE sc vars i q.2.1)
  | .slHi e hi, x => ob (vSub x) fun q => ob (vSlice q.2.1) fun r => ob (oN r.1) fun _ => ob (oS r.2.1) fun u => ob (oN r.2.2.1) fun _ => chkE sc vars e q.1 && chkE sc vars hi u
  | .slLo e lo, x => ob (vSub x) fun q => ob (vSlice q.2.1) fun r => ob (oS r.1) fun u => ob (oN r.2.1) fun _ => ob (oN r.2.2.1) fun _ => chkE sc vars e q.1 && chkE sc vars lo u
  | .bin op a b, x => ob (vBin x) fun q => q.2.1 == op.op && (chkE sc vars a q.1 && chkE sc vars b q.2.2.1)
  | .ofC k, x => chkC sc vars true k x
  | .ife k a b, x => ob (vIf x) fun q => chkC sc vars false k q.1 && (chkE sc vars a q.2.1 && chkE sc vars b q.2.2.1)
  | .tup es, x => ob (vTup x) fun q => chkEs sc vars es q.1 && decide (q.1.length ≤ 1000)
  | .lst es, x => ob (vList x) fun q => chkEs sc vars es q.1
  | .comp two cv frs it k elt, x => ob (vComp x) fun q => ob (l1 q.2.1) fun g => g.is_async == 0 && (chkIt sc vars it g.iter && (tgOk sc vars q.2.2.1 two g.target cv frs &&
      (((ob (l1 g.ifs) fun t => !two && chkC (relabelS q.2.2.1 sc) cv false k t) || (ob (l0 g.ifs) fun _ => k.isTt)) && chkE (relabelS q.2.2.1 sc) cv elt q.1)))
  | .callF g es, x => ob (vCallN x) fun q => glOk sc g q.1 && (g.isFn && chkEs sc vars es q.2.2.1)
  | .new g es, x => ob (vCallN x) fun q => glOk sc g q.1 && (g.isCls && chkEs sc vars es q.2.2.1)
  | .mcall e m es, x => ob (vCallA x) fun q => q.2.1 == m.nm && (baseOk q.1 && (q.2.2.1.endLine == q.2.2.2.2.line && (decide (q.2.2.2.1.length < 30) && (chkE sc vars e q.1 && chkEs sc vars es q.2.2.2.1))))
  | .lapp e v, x => ob (vCallA x) fun q => q.2.1 == ("append" : Str) && (baseOk q.1 && (q.2.2.1.endLine == q.2.2.2.2.line && ob (l1 q.2.2.2.1) fun y => plainArg y && (chkE sc vars e q.1 && chkE sc vars v y)))
  | .lpop e, x => ob (vCallA x) fun q => q.2.1 == ("pop" : Str) && (baseOk q.1 && (q.2.2.1.endLine == q.2.2.2.2.line && ob (l0 q.2.2.2.1) fun _ => chkE sc vars e q.1))
  | .lrev e, x => ob (vCallA x) fun q => q.2.1 == ("reverse" : Str) && (baseOk q.1 && (q.2.2.1.endLine == q.2.2.2.2.line && ob (l0 q.2.2.2.1) fun _ => chkE sc vars e q.1))
  | .dget e k d, x => ob (vCallA x) fun q => q.2.1 == ("get" : Str) && (baseOk q.1 && (q.2.2.1.endLine == q.2.2.2.2.line && ob (l2 q.2.2.2.1) fun y => plainArg y.1 && (plainArg y.2 && (chkE sc vars e q.1 && (chkE sc vars k y.1 && chkE sc vars d y.2)))))
  | .len e, x => ob (vCallN x) fun q => blOk sc "len" q.1 && ob (l1 q.2.2.1) fun y => plainArg y && chkE sc vars e y
  | .listOf e, x => ob (vCallN x) fun q => blOk sc "list" q.1 && ob (l1 q.2.2.1) fun y => plainArg y && chkE sc vars e y
  | .sorted e, x => ob (vCallN x) fun q => blOk sc "sorted" q.1 && ob (l1 q.2.2.1) fun y => plainArg y && chkE sc vars e y
  | .fstr ps, x => ob (vJoin x) fun q => decide (2 ≤ q.1.length) && (decide (q.1.length ≤ 20) && chkPs sc vars ps q.1)
  | .dnew, x => ob (vDict x) fun q => ob (l0 q.1) fun _ => ob (l0 q.2.1) fun _ => true
  | .bad, _ => true
noncomputable def chkC (sc : Scope) (vars : List Str) (val : Bool) : C → PySem.Expr → Bool
  | .cmp op a b, x => ob (vCmp x) fun q => ob (l1 q.2.1) fun o => ob (l1 q.2.2.1) fun r => o == op.op && (!behindInMarks o r && (chkE sc vars a q.1 && chkE sc vars b r))
  | .chain o1 o2 a b d, x => ob (vCmp x) fun q => ob (l2 q.2.1) fun o => ob (l2 q.2.2.1) fun r => o.1 == o1.op && (o.2 == o2.op && (!behindInMarks o.2 r.2 && (chkE sc vars a q.1 && (chkE sc vars b r.1 && chkE sc vars d r.2))))
  | .isin neg a b, x => ob (vCmp x) fun q => ob (l1 q.2.1) fun o => ob (l1 q.2.2.1) fun r => o == (if neg then .NotIn else .In) && (!behindInMarks o r && (chkE sc vars a q.1 && chkE sc vars b r))
  | .not k, x => ob (vUn x) fun q => q.1 == .Not && chkC sc vars val k q.2.1
  | .and a b, x => ob (vBool x) fun q => !val && (q.1 == .And && spl q.2.1 (fun y => chkC sc vars false a y) (fun y => chkC sc vars false b y) (fun r => chkAll sc vars .And b r))
  | .or a b, x => ob (vBool x) fun q => !val && (q.1 == .Or && spl q.2.1 (fun y => chkC sc vars false a y) (fun y => chkC sc vars false b y) (fun r => chkAll sc vars .Or b r))
  | .tru e, x => testOk x && chkE sc vars e x
  | .tt, x => ob (vConst x) fun q => ob (cBool q.1) fun r => r
noncomputable def chkAll (sc : Scope) (vars : List Str) (op : BoolOp) : C → List PySem.Expr → Bool
  | .and a b, l => op == .And && spl l (fun y => chkC sc vars false a y) (fun y => chkC sc vars false b y) (fun r => chkAll sc vars .And b r)
  | .or a b, l => op == .Or && spl l (fun y => chkC sc vars false a y) (fun y => chkC sc vars false b y) (fun r => chkAll sc vars .Or b r)
  | .cmp _ _ _, _ => false
  | .chain _ _ _ _ _, _ => false
  | .isin _ _ _, _ => false
  | .not _, _ => false
  | .tru _, _ => false
  | .tt, _ => false
noncomputable def chkIt (sc : Scope) (vars : List Str) : It → PySem.Expr → Bool
  | .r1 e, x => ob (vCallN x) fun q => blOk sc "range" q.1 && ob (l1 q.2.2.1) fun y => plainArg y && chkE sc vars e y
  | .r2 a b, x => ob (vCallN x) fun q => blOk sc "range" q.1 && ob (l2 q.2.2.1) fun y => plainArg y.1 && (plainArg y.2 && (chkE sc vars a y.1 && chkE sc vars b y.2))
  | .val e, x => iterOk x && chkE sc vars e x
noncomputable def chkEs (sc : Scope) (vars : List Str) : Es → List PySem.Expr → Bool
  | .nil, l => l.isEmpty
  | .cons e es, l => ob (lc l) fun q => plainArg q.1 && (chkE sc vars e q.1 && chkEs sc vars es q.2)
noncomputable def chkPs (sc : Scope) (vars : List Str) : Es → List PySem.Expr → Bool
  | .nil, l => l.isEmpty
  | .cons e es, l => ob (lc l) fun q => (ob (vFmt q.1) (fun r => r.2.1 == -1 && ob (oN r.2.2.1) fun _ => chkE sc vars e r.1) || ob (vStr q.1) (fun r => e.isStr r.1)) && chkPs sc vars es q.2
end
noncomputable def E.isComp : E → Bool
  | .comp _ _ _ _ _ _ => true
  | _ => false
noncomputable def swapB (sc : Scope) (value : PySem.Expr) (x : Str) (line line2 : Nat) : Bool := ob (vComp value) fun q =>
  sc.kind == .function && sc.names.lookup x == some .local && line == line2 && !(q.2.2.1.names.any fun (n, k) => n == x && (k == .local || k == .cell))
mutual
noncomputable def chkS (sc : Scope) (vars : List Str) : S → PySem.Stmt → Bool
  | .nil, _ => false
  | .seq _ _, _ => false
  | .asg i e, x => ob (wAssign x) fun q => ob (l1 q.1) fun t => ob (vName t) fun n => stOk sc vars i n.1 && (chkE sc vars e q.2.1 && (notComp q.2.1 || (e.isComp && swapB sc q.2.1 n.1 n.2.line q.2.1.pos.line)))
  | .asg2 i j e, x => ob (wAssign x) fun q => ob (l1 q.1) fun t => ob (vTup t) fun u => ob (l2 u.1) fun r => ob (vName r.1) fun n => ob (vName r.2) fun m =>
      stOk sc vars i n.1 && (stOk sc vars j m.1 && (notComp q.2.1 && (notTup q.2.1 && chkE sc vars e q.2.1)))
  | .setA o a e, x => ob (wAssign x) fun q => ob (l1 q.1) fun t => ob (vAttr t) fun n => n.2.1 == a.name && (notComp q.2.1 && (chkE sc vars e q.2.1 && chkE sc vars o n.1))
  | .setI o i e, x => ob (wAssign x) fun q => ob (l1 q.1) fun t => ob (vSub t) fun n => notSl n.2.1 && (notComp q.2.1 && (chkE sc vars e q.2.1 && (chkE sc vars o n.1 && chkE sc vars i n.2.1)))
  | .augL i e, x => ob (wAug x) fun q => ob (vName q.1) fun n => q.2.1 == .Add && (locOk sc vars i n.1 && (stOk sc vars i n.1 && chkE sc vars e q.2.2.1))
  | .augA o a e, x => ob (wAug x) fun q => ob (vAttr q.1) fun n => q.2.1 == .Add && (n.2.1 == a.name && (chkE sc vars o n.1 && chkE sc vars e q.2.2.1))
  | .ex e, x => ob (wExpr x) fun q => notComp q.1 && chkE sc vars e q.1
  | .ret e, x => ob (wRet x) fun q => ob (oS q.1) fun v => chkE sc vars e v
  | .retN, x => ob (wRet x) fun q => ob (oN q.1) fun _ => true
  | .ite k a b, x => ob (wIf x) fun q => chkC sc vars false k q.1 && (chkSs sc vars a q.2.1 && chkSs sc vars b q.2.2.1)
  | .whl k b, x => ob (wWhile x) fun q => ob (l0 q.2.2.1) fun _ => chkC sc vars false k q.1 && chkSs sc vars b q.2.1
  | .fr i it b, x => ob (wFor x) fun q => ob (vName q.1) fun n => ob (l0 q.2.2.2.1) fun _ => stOk sc vars i n.1 && (chkIt sc vars it q.2.1 && chkSs sc vars b q.2.2.1)
  | .delLo e lo, x => ob (wDel x) fun q => ob (l1 q.1) fun t => ob (vSub t) fun v => ob (vSlice v.2.1) fun r => ob (oS r.1) fun u => ob (oN r.2.1) fun _ => ob (oN r.2.2.1) fun _ => chkE sc vars e v.1 && chkE sc vars lo u
  | .bad, _ => true
noncomputable def chkSs (sc : Scope) (vars : List Str) : S → List PySem.Stmt → Bool
  | .nil, l => l.isEmpty
  | .seq a b, l => ob (lc l) fun q => chkS sc vars a q.1 && chkSs sc vars b q.2
  | .bad, _ => true
  | .asg _ _, _ => false
  | .asg2 _ _ _, _ => false
  | .setA _ _ _, _ => false
  | .setI _ _ _, _ => false
  | .augL _ _, _ => false
  | .augA _ _ _, _ => false
  | .ex _, _ => false
  | .ret _, _ => false
  | .retN, _ => false
  | .ite _ _ _, _ => false
  | .whl _ _, _ => false
  | .fr _ _ _, _ => false
  | .delLo _ _, _ => false
end
end Mine
end
section
open PySem.Calls
namespace Mine
structure Go (c : Cx) (sc : Scope) (vars : List Str) (A : Around) (env : Env) (ρ : RefMap) (l : Loc) (L : List AO) (T : Tm) (s : Shared) : Prop where
  R : Room c.n A
  S : Stat c.w c.hR
  sc : env.scope = sc
  F : Frm c.hR env vars ρ l T s.heap
  G : Gd c.w c.hR ρ L T s
noncomputable def EOk (c : Cx) (sc : Scope) (vars : List Str) (x : PySem.Expr) (e : E) : Prop :=
  ∀ {A env ρ l L T s Q}, Go c sc vars A env ρ l L T s → wpE c e l L T Q → wpAny (M c) A (eval x env) (Bk c s ρ T Q) E0 s
noncomputable def BkB (c : Cx) (s : Shared) (ρ : RefMap) (T : Tm) (Q : Bool → LT) (b : Bool) (s' : Shared) : Prop := ∃ ρ' L' T', Gd c.w c.hR ρ' L' T' s' ∧ Ev no s ρ T s' ρ' T' ∧ Q b L' T'
noncomputable def COk (c : Cx) (sc : Scope) (vars : List Str) (x : PySem.Expr) (k : C) : Prop :=
  ∀ {A env ρ l L T s Q}, Go c sc vars A env ρ l L T s → wpC c k l L T Q → wpAny (M c) A (isTrue x env (eval x env)) (BkB c s ρ T Q) E0 s
noncomputable def CVOk (c : Cx) (sc : Scope) (vars : List Str) (x : PySem.Expr) (k : C) : Prop :=
  ∀ {A env ρ l L T s Q}, Go c sc vars A env ρ l L T s → wpC c k l L T Q → wpAny (M c) A (eval x env) (fun v s' => ∃ b, v = .bool b ∧ BkB c s ρ T Q b s') E0 s
noncomputable def BkL (c : Cx) (n : Nat) (s : Shared) (ρ : RefMap) (T : Tm) (Q : List AV → LT) (vs : List Value) (s' : Shared) : Prop := vs.length = n ∧ ∃ ρ' as L' T', Gd c.w c.hR ρ' L' T' s' ∧ Ev no s ρ T s' ρ' T' ∧ RepL ρ' s'.heap vs as ∧ Q as L' T'
noncomputable def EsOk (c : Cx) (sc : Scope) (vars : List Str) (xs : List PySem.Expr) (es : Es) : Prop :=
  ∀ {A env ρ l L T s Q}, Go c sc vars A env ρ l L T s → wpEs c es l L T Q → wpAny (M c) A (spliced (evals xs env)) (BkL c xs.length s ρ T Q) E0 s
noncomputable def ItPost (c : Cx) (s : Shared) (ρ : RefMap) (T : Tm) (env : Env) (Q : List AV → Option (AV × List AV) → LT) (it : Value) (s' : Shared) : Prop :=
  ∃ ρ' L' T' I vs lv, it = .ref I ∧ Gd c.w c.hR ρ' L' T' s' ∧ Ev no s ρ T s' ρ' T' ∧ ItOk c ρ' T' s' I lv vs ∧ s.heap.get? I = none ∧ Q vs lv L' T'
noncomputable def ItOk' (c : Cx) (sc : Scope) (vars : List Str) (x : PySem.Expr) (it : It) : Prop :=
  (∀ env y, foldedSetIterable x env y = pure y) ∧ ∀ {A env ρ l L T s Q}, Go c sc vars A env ρ l L T s → wpIt c it l L T Q → wpAny (M c) A (eval x env) (fun v s₁ => wpAny (M c) A (pyIter v) (ItPost c s ρ T env Q) E0 s₁) E0 s
section
variable {c : Cx} {sc : Scope} {vars : List Str} {A : Around} {env : Env} {ρ ρ' : RefMap} {l : Loc} {L L' : List AO} {T T' : Tm} {s s' : Shared}
theorem Go.ev (g : Go c sc vars A env ρ l L T s) (G' : Gd c.w c.hR ρ' L' T' s') (e : Ev no s ρ T s' ρ' T') : Go c sc vars A env ρ' l L' T' s' := ⟨g.R, g.S, g.sc, g.F.ev e, G'⟩
theorem bk_trans {Q : AV → LT} {v : Value} {s₂ : Shared} (e : Ev no s ρ T s' ρ' T') (h : Bk c s' ρ' T' Q v s₂) : Bk c s ρ T Q v s₂ := e4a4 h fun a b d f h1 h2 h3 h4 => ⟨a, b, d, f, h1, e.trans h2, h3, h4⟩
theorem bkB_trans {Q : Bool → LT} {b : Bool} {s₂ : Shared} (e : Ev no s ρ T s' ρ' T') (h : BkB c s' ρ' T' Q b s₂) : BkB c s ρ T Q b s₂ := e3a3 h fun a d f h1 h2 h4 => ⟨a, d, f, h1, e.trans h2, h4⟩
theorem wp0 {α : Type} {M' : Model} {t : Sem α} {P P' : α → Shared → Prop} (h : wpAny M' A t P E0 s) (k : ∀ a s', P a s' → P' a s') : wpAny M' A t P' E0 s := wpAny_mono h k fun _ _ e => e
theorem EOk.then {x : PySem.Expr} {e : E} {Q : AV → LT} {P : Value → Shared → Prop} (h : EOk c sc vars x e) (g : Go c sc vars A env ρ l L T s) (w : wpE c e l L T Q)
    (k : ∀ u av ρ₁ L₁ T₁ s₁, Go c sc vars A env ρ₁ l L₁ T₁ s₁ → Ev no s ρ T s₁ ρ₁ T₁ → Rep ρ₁ s₁.heap u av → Q av L₁ T₁ → P u s₁) : wpAny (M c) A (eval x env) P E0 s :=
  wp0 (h g w) fun u s₁ z => e4a4 z fun ρ₁ av L₁ T₁ G₁ E₁ R₁ q₁ => k u av ρ₁ L₁ T₁ s₁ (g.ev G₁ E₁) E₁ R₁ q₁
theorem EsOk.then {x : List PySem.Expr} {e : Es} {Q : List AV → LT} {P : List Value → Shared → Prop} (h : EsOk c sc vars x e) (g : Go c sc vars A env ρ l L T s) (w : wpEs c e l L T Q)
    (k : ∀ u av ρ₁ L₁ T₁ s₁, Go c sc vars A env ρ₁ l L₁ T₁ s₁ → Ev no s ρ T s₁ ρ₁ T₁ → RepL ρ₁ s₁.heap u av → Q av L₁ T₁ → u.length = x.length → P u s₁) : wpAny (M c) A (spliced (evals x env)) P E0 s :=
  wp0 (h g w) fun u s₁ z => e4a4 z.2 fun ρ₁ av L₁ T₁ G₁ E₁ R₁ q₁ => k u av ρ₁ L₁ T₁ s₁ (g.ev G₁ E₁) E₁ R₁ q₁ z.1
theorem COk.then {x : PySem.Expr} {e : C} {Q : Bool → LT} {P : Bool → Shared → Prop} (h : COk c sc vars x e) (g : Go c sc vars A env ρ l L T s) (w : wpC c e l L T Q)
    (k : ∀ b ρ₁ L₁ T₁ s₁, Go c sc vars A env ρ₁ l L₁ T₁ s₁ → Ev no s ρ T s₁ ρ₁ T₁ → Q b L₁ T₁ → P b s₁) : wpAny (M c) A (isTrue x env (eval x env)) P E0 s :=
  wp0 (h g w) fun b s₁ z => e3a3 z fun ρ₁ L₁ T₁ G₁ E₁ q₁ => k b ρ₁ L₁ T₁ s₁ (g.ev G₁ E₁) E₁ q₁
theorem opt_some {α : Type} {o : Option α} {P : α → Prop} (h : match o with | some v => P v | none => False) : ∃ v, o = some v ∧ P v := by
  cases o with
  | none => exact h.elim
  | some v => exact ⟨v, rfl, h⟩
theorem nth_some {l : Loc} {i : Nat} {P : AV → Prop} (h : match nth l i with | some (some v) => P v | _ => False) : ∃ v, nth l i = some (some v) ∧ P v := by
  cases e : nth l i with
  | none => rw [e] at h; exact h.elim
  | some o => cases o with
    | none => rw [e] at h; exact h.elim
    | some v => rw [e] at h; exact ⟨v, rfl, h⟩
theorem nth_some2 {l : Loc} {i : Nat} {P : PyData → Prop} {R : AV → Prop} (h : match nth l i with | some (some (.d x)) => P x | some (some u) => R u | _ => False) : (∃ x, nth l i = some (some (.d x)) ∧ P x) ∨ ∃ u, nth l i = some (some u) ∧ R u := by
  cases e : nth l i with
  | none => rw [e] at h; exact h.elim
  | some o => cases o with
    | none => rw [e] at h; exact h.elim
    | some v => rw [e] at h; cases v with
      | d x => exact .inl ⟨x, rfl, h⟩
      | _ => exact .inr ⟨_, rfl, h⟩
theorem s_loc {n : Str} {p : Pos} {i : Nat} (h : locOk sc vars i n = true) : EOk c sc vars (.Name n p) (.loc i) := by
  intro A env ρ l L T s Q g w
  unfold locOk at h
  simp only [Bool.and_eq_true, beq_iff_eq, bne_iff_ne, ne_eq] at h
  obtain ⟨⟨h1, h2⟩, h3⟩ := h
  obtain ⟨v, hv, w⟩ := nth_some (P := fun v => Q v L T) w
  refine wpAny_Name (wp0 (P_load g.F h1 (beq_eq_false_iff_ne.mpr h3) hv) ?_) (beq_eq_false_iff_ne.mpr h2)
  rintro u s' ⟨rfl, r⟩
  exact bk_now g.G r w
theorem load_gl {b : Gl} {n : Str} {p : Pos} {P : Value → Shared → Prop} (g : Go c sc vars A env ρ l L T s) (h : glOk sc b n = true) (k : P b.raw s) : wpAny (M c) A (eval (.Name n p) env) P E0 s := by
  unfold glOk at h
  simp only [Bool.and_eq_true, beq_iff_eq, bne_iff_ne, ne_eq] at h
  obtain ⟨⟨rfl, h2⟩, h3⟩ := h
  obtain ⟨s₀, mg, mb, TT⟩ := g.S.top
  have e : mg b.nm = some b.raw := mg_of g.S.K TT.g (gl_look c.w.params b)
  exact Name_function_global g.F.kind (by unfold Env.kindOf; rw [g.sc]; exact h2) (loadGlobal_global (by rw [g.F.glob]; exact TT.g.keeps g.G.root) e k) (beq_eq_false_iff_ne.mpr h3)
theorem s_gl {b : Gl} {n : Str} {p : Pos} (h : glOk sc b n = true) : EOk c sc vars (.Name n p) (.gl b) := by
  intro A env ρ l L T s Q g w
  exact load_gl g h (bk_now g.G (gl_rep (g.S.here g.G) _ b) w)
theorem load_bl {b : String} {n : Str} {p : Pos} {v : Value} {P : Value → Shared → Prop} (g : Go c sc vars A env ρ l L T s) (h : blOk sc b n = true) (hv : bootBuiltins (Str.ofString b) = some v) (hm : ∀ P, nsIn (Kof pp P) mainGlobals (Str.ofString b) = some none) (hn : Str.ofString b ≠ "__name__") (hd : ((Str.ofString b) == ("__debug__" : Str)) = false)
    (k : P v s) : wpAny (M c) A (eval (.Name n p) env) P E0 s := by
  unfold blOk at h
  simp only [Bool.and_eq_true, beq_iff_eq] at h
  obtain ⟨rfl, h2⟩ := h
  obtain ⟨s₀, mg, mb, TT⟩ := g.S.top
  have e : mg (Str.ofString b) = none := mg_none_of g.S.K TT.g (hm _)
  exact Name_function_global g.F.kind (by unfold Env.kindOf; rw [g.sc]; exact h2) (loadGlobal_builtin (by rw [g.F.glob]; exact TT.g.keeps g.G.root) e (by rw [g.F.bi]; exact TT.b.keeps g.G.root) ((TT.builtins _ hn).trans hv) k) hd
theorem s_int {k j : Int} {n : Nat} {p : Pos} (h : k = j) : EOk c sc vars (.Constant (.int j) n p) (.int k) := by
  intro A env ρ l L T s Q g w
  subst h
  exact wpAny_Constant_int (bk_toks g.G _ (.d (.int _ _)) w)
theorem s_neg {k j : Int} {n : Nat} {p q : Pos} (h : k = -j) : EOk c sc vars (.UnaryOp .USub (.Constant (.int j) n p) q) (.int k) := by
  intro A env ρ l L T s Q g w
  subst h
  have e : eval (.UnaryOp .USub (.Constant (.int j) n p) q) env = (do let v ← eval (.Constant (.int j) n p) env; standAt q; holding [v] (unaryOp .USub v)) := rfl
  rw [e]
  refine wpAny_bind (wpAny_Constant_int (wpAny_bind (wpAny_standAt (wpAny_holding (P.neg_int ?_)))))
  exact bk_toks (s := s) g.G _ (.d (.int _ _)) w
theorem s_str {x y : Str} {n : Nat} {p : Pos} (h : x = y) : EOk c sc vars (.Constant (.str y) n p) (.str x) := by
  intro A env ρ l L T s Q g w
  subst h
  exact Constant_str (bk_toks g.G _ (.d (.str _ _)) w)
theorem s_bool {x y : Bool} {n : Nat} {p : Pos} (h : x = y) : EOk c sc vars (.Constant (.bool y) n p) (.bool x) := by
  intro A env ρ l L T s Q g w
  subst h
  exact wpAny_pure (bk_now g.G (.d (.bool _)) w)
theorem s_none {n : Nat} {p : Pos} : EOk c sc vars (.Constant .none n p) .none := by
  intro A env ρ l L T s Q g w
  exact wpAny_pure (bk_now g.G (.d .none) w)
theorem s_attr {v : PySem.Expr} {p : Pos} {e : E} {a : At} (h1 : EOk c sc vars v e) (hb : baseOk v = true) : EOk c sc vars (.Attribute v a.name p) (.attr e a) := by
  intro A env ρ l L T s Q g w
  exact eval_attr hb (h1.then g w fun u av ρ₁ L₁ T₁ s₁ g₁ E₁ r q => wp0 (P_getAttr g₁.S g₁.G r q) fun _ _ b => bk_trans E₁ b)
theorem notSl_sub {j : PySem.Expr} (h : notSl j = true) : ∀ o i, subscripted j false o i = operate [o, i] (getItem o i) := by
  intro o i; cases j <;> first | rfl | cases h
theorem s_sub {v j : PySem.Expr} {p : Pos} {e i : E} (h1 : EOk c sc vars v e) (h2 : EOk c sc vars j i) (hs : notSl j = true) : EOk c sc vars (.Subscript v j p) (.sub e i) := by
  intro A env ρ l L T s Q g w
  exact Subscript_ (h1.then g w fun u av ρ₁ L₁ T₁ s₁ g₁ E₁ r q => h2.then g₁ q fun u' av' ρ₂ L₂ T₂ s₂ g₂ E₂ r' q' => wp0 (P_sub g₂.G (E₂.rep r) r' (notSl_sub hs) q') fun _ _ b => bk_trans (E₁.trans E₂) b)
theorem s_slHi {v x : PySem.Expr} {p p' : Pos} {e i : E} (h1 : EOk c sc vars v e) (h2 : EOk c sc vars x i) : EOk c sc vars (.Subscript v (.Slice none (some x) none p') p) (.slHi e i) := by
  intro A env ρ l L T s Q g w
  refine Subscript_ (h1.then g w fun u av ρ₁ L₁ T₁ s₁ g₁ E₁ r q => wpAny_Slice (wpAny_pure (h2.then g₁ q fun u' av' ρ₂ L₂ T₂ s₂ g₂ E₂ r' q' => wpAny_pure ?_)))
  split at q'
  · rename_i k
    have k0 := q'.1; have k1 := q'.2.1; have q' := q'.2.2
    refine e1a1 (rep_int r') fun t x1_ => ?_; subst x1_
    refine e1a1 (Int.eq_ofNat_of_zero_le k0) fun n x3_ => ?_; subst x3_
    rcases q' with q' | ⟨a, ws, ns, rfl, hl, hi, hn, q'⟩
    · refine e2a3 (getL_elim g₂.G (E₂.rep r) q') fun a vs x5_ Z q' => ?_; subst x5_
      refine e2a2 Z.at_ fun ws m h4 h5 => ?_
      exact wp0 (P_slice g₂.G h4.isList h5 Z.len .none (.int _ t) (fun ws hr => ⟨ws.take _, slicePick_upto' _ n, hr.take _⟩) q') fun _ _ b => bk_trans (E₁.trans E₂) b
    · cases r
      refine e1a2 hl fun o ho hl => ?_
      exact wp0 (P_slice g₂.G ⟨o, g₂.G.root _ _ ho, hl⟩ (ints_rep hi) (by rw [List.length_map]; exact hn) .none (.int _ t) (fun ws hr => ⟨ws.take _, slicePick_upto' _ n, hr.take _⟩) q') fun _ _ b => bk_trans (E₁.trans E₂) b
  · exact q'.elim
theorem s_slLo {v x : PySem.Expr} {p p' : Pos} {e i : E} (h1 : EOk c sc vars v e) (h2 : EOk c sc vars x i) : EOk c sc vars (.Subscript v (.Slice (some x) none none p') p) (.slLo e i) := by
  intro A env ρ l L T s Q g w
  refine Subscript_ (h1.then g w fun u av ρ₁ L₁ T₁ s₁ g₁ E₁ r q => wpAny_Slice (h2.then g₁ q fun u' av' ρ₂ L₂ T₂ s₂ g₂ E₂ r' q' => wpAny_pure (wpAny_pure ?_)))
  split at q'
  · rename_i k
    have k0 := q'.1; have k1 := q'.2.1; have q' := q'.2.2
    refine e1a1 (rep_int r') fun t x8_ => ?_; subst x8_
    refine e2a3 (getL_elim g₂.G (E₂.rep r) q') fun a vs x10_ Z q' => ?_; subst x10_
    refine e2a2 Z.at_ fun ws m h4 h5 => ?_
    refine wp0 (P_slice g₂.G h4.isList h5 Z.len (.int k t) .none (fun ws hr => ⟨ws.drop k.toNat, ?_, hr.drop _⟩) q') fun _ _ b => bk_trans (E₁.trans E₂) b
    refine e1a1 (Int.eq_ofNat_of_zero_le k0) fun n x13_ => ?_; subst x13_
    exact slicePick_from' _ n
  · exact q'.elim
theorem s_bin {x y : PySem.Expr} {o : Operator} {p : Pos} {op : Bop} {a b : E} (h1 : EOk c sc vars x a) (h2 : EOk c sc vars y b) (ho : o = op.op) : EOk c sc vars (.BinOp x o y p) (.bin op a b) := by
  intro A env ρ l L T s Q g w
  refine wpAny_BinOp (h1.then g w fun u av ρ₁ L₁ T₁ s₁ g₁ E₁ r q => h2.then g₁ q fun u' av' ρ₂ L₂ T₂ s₂ g₂ E₂ r' q' => wp0 (P_bin (op := op) ?_ g₂.G (E₂.rep r) r' q') fun _ _ b => bk_trans (E₁.trans E₂) b)
  rw [ho]; cases op <;> rfl
theorem s_ofC {x : PySem.Expr} {k : C} (h : CVOk c sc vars x k) : EOk c sc vars x (.ofC k) := by
  intro A env ρ l L T s Q g w
  refine wp0 (h g w) ?_
  rintro v s' ⟨b, rfl, ρ', L', T', G', E', q⟩
  exact ⟨ρ', _, L', T', G', E', .d (.bool _), q⟩
theorem s_ife {t x y : PySem.Expr} {p : Pos} {k : C} {a b : E} (h : COk c sc vars t k) (h1 : EOk c sc vars x a) (h2 : EOk c sc vars y b) : EOk c sc vars (.IfExp t x y p) (.ife k a b) := by
  intro A env ρ l L T s Q g w
  have e : eval (.IfExp t x y p) env = (do if ← isTrue t env (eval t env) then eval x env else eval y env) := rfl
  rw [e]
  refine wpAny_bind (h.then g w fun r ρ₁ L₁ T₁ s₁ g₁ E₁ q => ?_)
  rcases wpIf_elim q with ⟨rfl, q⟩ | ⟨rfl, q⟩
  · exact wp0 (h1 g₁ q) fun _ _ b => bk_trans E₁ b
  · exact wp0 (h2 g₁ q) fun _ _ b => bk_trans E₁ b
theorem es_nil : EsOk c sc vars [] .nil := by
  intro A env ρ l L T s Q g w
  exact wpAny_pure ⟨rfl, ρ, [], L, T, g.G, Ev.refl .., .nil, w⟩
theorem es_cons {x : PySem.Expr} {r : List PySem.Expr} {e : E} {es : Es} (h : EOk c sc vars x e) (h2 : EsOk c sc vars r es) : EsOk c sc vars (x :: r) (.cons e es) := by
  intro A env ρ l L T s Q g w
  exact spliced_cons (h.then g w fun u av ρ₁ L₁ T₁ s₁ g₁ E₁ r q => h2.then g₁ q fun u' av' ρ₂ L₂ T₂ s₂ g₂ E₂ r' q' hl => ⟨by simp [hl], ρ₂, _, L₂, T₂, g₂.G, E₁.trans E₂, .cons (E₂.rep r) r', q'⟩)
end
end Mine
end
section
open PySem.Calls
namespace Mine
section
variable {c : Cx} {sc : Scope} {vars : List Str} {A : Around} {env : Env} {ρ ρ' : RefMap} {l : Loc} {L L' : List AO} {T T' : Tm} {s s' : Shared}
theorem trees_plain {args : List PySem.Expr} {pos : Pos} (hp : args.all plainArg = true) : backTo pos (starEach args env) = evals args env := by
  rw [starEach_plain env args hp, backTo_evals]
theorem s_tup {xs : List PySem.Expr} {k : Nat} {p : Pos} {es : Es} (h : EsOk c sc vars xs es) (hp : xs.all plainArg = true) (hl : xs.length ≤ 1000) : EOk c sc vars (.Tuple xs k p) (.tup es) := by
  intro A env ρ l L T s Q g w
  refine Tuple_ ?_
  rw [trees_plain hp]
  refine h.then g w fun us as ρ₁ L₁ T₁ s₁ g₁ E₁ r q hn => wp0 (P_newTuple g₁.G r ?_ q) fun _ _ b => bk_trans E₁ b
  rw [← r.length, hn]; exact Nat.le_trans hl (by decide)
theorem s_lst {xs : List PySem.Expr} {p : Pos} {es : Es} (h : EsOk c sc vars xs es) (hp : xs.all plainArg = true) : EOk c sc vars (.List xs p) (.lst es) := by
  intro A env ρ l L T s Q g w
  refine List_ ?_
  rw [trees_plain hp]
  exact h.then g w fun us as ρ₁ L₁ T₁ s₁ g₁ E₁ r q hn => wp0 (P_newList g₁.G r q) fun _ _ b => bk_trans E₁ b
theorem Room.dn {n : Nat} (R : Room n A) : Room (n - 1) A := ⟨R.h, by have := R.d; lia, by have := R.u; lia⟩
theorem call_ok {f : Value} {vs : List Value} {as : List AV} {Q : AV → LT} (R : Room c.n A) (S : Stat c.w c.hR) (G : Gd c.w c.hR ρ L T s) (r : RepL ρ s.heap vs as) (h : CallOk c.dn f as L T Q) :
    wpAny (M c) A (call f vs) (Bk c s ρ T Q) E0 s := by
  refine wpAny_call (codeAny_mono (h.ok A s ρ vs R.dn S G r) fun r s' z => ?_)
  rcases r with e | (v | _ | _ | _) <;> first | exact z | exact z.elim
theorem evals_any (args : List PySem.Expr) : ((evals args env).any (·.1) || ([] : List (Option Str × Sem Value)).any (·.1.isNone)) = false := by rw [evals_plain]; rfl
theorem s_callF {n : Str} {p pos : Pos} {b : Gl} {args : List PySem.Expr} {es : Es} (hg : glOk sc b n = true) (hf : b.isFn = true) (h : EsOk c sc vars args es) (hp : args.all plainArg = true) :
    EOk c sc vars (.Call (.Name n p) args [] pos) (.callF b es) := by
  intro A env ρ l L T s Q g w
  refine Call_Name (trees_plain hp) (load_gl g hg ?_)
  refine callWith_of (P := fun h => (Kof pp c.w.params).In h) (evals_any args) (keeps_K (gl_keep _ (by rw [hf]; rfl))) (evalArgs_evals ?_)
  exact h.then g w fun us as ρ₁ L₁ T₁ s₁ g₁ E₁ r q hn => ⟨g₁.S.here g₁.G, wp0 (call_ok g₁.R g₁.S g₁.G r q) fun _ _ b => bk_trans E₁ b⟩
theorem meth_get {i : Nat} {C f : Addr} {fs : List (At × AV)} {m : Mt} {u : Value} {pl : Sem Bool} {P : Value × List Value → Shared → Prop} (g : Go c sc vars A env ρ l L T s) (r : Rep ρ s.heap u (.ref i)) (e : nth L i = some (.inst C fs)) (hm : methOf C m = some f)
    (h : P (.ref f, [u]) s) : wpAny (M c) A (getMethod u m.nm pl) P E0 s := by
  refine e2a4 (get_inst g.G r e) fun p d x1_ h1 h2 h3 => ?_; subst x1_
  refine e2a3 (inst_at h3) fun es n I h5 h6 => ?_
  have CF := clsFacts c.w.params h3.2.1
  have ml := meth_look c.w.params h3.2.1 hm
  refine method_fn (g.S.here g.G) I CF.ga CF.gt ml.1 (beq_iff_eq.mp ml.2.2) ?_ h
  show (lookIn m.nm (dictOf es n)).map _ = _
  rw [lookIn_dict, repA_none h6 fun a _ => at_ne_mt a.1 m]; rfl
theorem s_mcall {o : PySem.Expr} {m : Mt} {ap p : Pos} {args : List PySem.Expr} {e : E} {es : Es} (hb : baseOk o = true) (hl : (ap.endLine == p.line) = true) (ha : args.length < 30) (h1 : EOk c sc vars o e) (h : EsOk c sc vars args es) (hp : args.all plainArg = true) :
    EOk c sc vars (.Call (.Attribute o m.nm ap) args [] p) (.mcall e m es) := by
  intro A env ρ l L T s Q g w
  refine eval_meth hb hl hp ha (h1.then g w fun u av ρ₁ L₁ T₁ s₁ g₁ E₁ r q pl => ?_)
  split at q
  · rename_i i
    split at q
    · rename_i C fs e1
      split at q
      · rename_i f hm
        refine meth_get g₁ r e1 hm ?_
        have hC : C ∈ ownCls := by (refine e2a4 (get_inst g₁.G r e1) fun p d x4_ h1 h2 h3 => ?_; subst x4_); exact h3.2.1
        refine callWith_of (P := fun h => (Kof pp c.w.params).In h) (evals_any args) (keeps_K (meth_look c.w.params hC hm).2.1) (evalArgs_evals ?_)
        exact h.then g₁ q fun us as ρ₂ L₂ T₂ s₂ g₂ E₂ r₂ q₂ hn => ⟨g₂.S.here g₂.G, wp0 (call_ok g₂.R g₂.S g₂.G (.cons (E₂.rep r) r₂) q₂) fun _ _ b => bk_trans (E₁.trans E₂) b⟩
      · exact q.elim
    · exact q.elim
  · exact q.elim
theorem newFacts (P : Params) {b : Gl} (h : b.isCls = true) : b.raw = .ref b.addr ∧ b.addr ∈ ownCls ∧ makesIn (Kof pp P) b.addr = true ∧ findIn (Kof pp P) (.ref b.addr) "__init__" = some (some (.ref (initOf b.addr))) ∧ typeIn (Kof pp P) (.ref (initOf b.addr)) = some (.type "function") := by
  have k : ∀ P, (glAll.all fun b => !b.isCls || (b.raw == .ref b.addr && ownCls.contains b.addr && makesIn (Kof pp P) b.addr && findIn (Kof pp P) (.ref b.addr) "__init__" == some (some (.ref (initOf b.addr))) && typeIn (Kof pp P) (.ref (initOf b.addr)) == some (.type "function"))) = true := by intro P; kernel_rfl!
  have z := List.all_eq_true.mp (k P) b (gl_mem b)
  rw [h] at z
  simp only [Bool.not_true, Bool.false_or, Bool.and_eq_true, beq_iff_eq, List.contains_iff_mem] at z
  exact ⟨z.1.1.1.1, z.1.1.1.2, z.1.1.2, z.1.2, z.2⟩
theorem tc_weight (a : Addr) (rest : List Value) (kw : List (Str × Value)) : (Code.builtin "type.__call__" ⟨.ref a :: rest, kw⟩).weight = 1 ∧ (Code.builtin "type.__call__" ⟨.ref a :: rest, kw⟩).cUnits = 1 := by
  constructor <;> kernel_rfl!
theorem s_new {n : Str} {p pos : Pos} {b : Gl} {args : List PySem.Expr} {es : Es} (hg : glOk sc b n = true) (hf : b.isCls = true) (h : EsOk c sc vars args es) (hp : args.all plainArg = true) :
    EOk c sc vars (.Call (.Name n p) args [] pos) (.new b es) := by
  intro A env ρ l L T s Q g w
  obtain ⟨n1, n2, n3, n4, n5⟩ := newFacts c.w.params hf
  refine Call_Name (trees_plain hp) (load_gl g hg ?_)
  refine callWith_of (P := fun h => (Kof pp c.w.params).In h) (evals_any args) (keeps_K (gl_keep _ (by rw [hf, Bool.or_true]))) (evalArgs_evals ?_)
  refine h.then g w fun us as ρ₁ L₁ T₁ s₁ g₁ E₁ r q hn => ⟨g₁.S.here g₁.G, ?_⟩
  rw [n1]
  refine wp0 (P := Bk c s₁ ρ₁ T₁ Q) (wpAny_call ?_) fun _ _ b => bk_trans E₁ b
  have X := g₁.S.here g₁.G
  obtain ⟨hc1, q⟩ := q
  have R₁ := g₁.R
  have S₁ := g₁.S
  have G₁ := g₁.G
  clear g₁ E₁
  obtain ⟨hh, gg, d, t, os⟩ := s₁
  refine make_core (makes_of X n3) (looks_findIn X n4) (fun self => bind_fn X self n5) (.inl rfl) ?_
  have k : ∀ x o, hh.get? x = some o → ((hh.push emptyDict).push (instObj b.addr hh.objs.size)).get? x = some o := fun x o e => Heap.get?_push_of_some _ (Heap.get?_push_of_some _ e)
  have kx : ((hh.push emptyDict).push (instObj b.addr hh.objs.size)).get? (hh.objs.size + 1) = some (instObj b.addr hh.objs.size) := by heap_get
  have kd : ((hh.push emptyDict).push (instObj b.addr hh.objs.size)).get? hh.objs.size = some emptyDict := by heap_get
  obtain ⟨G', E', e'⟩ := G₁.addL (s' := ⟨(hh.push emptyDict).push (instObj b.addr hh.objs.size), gg, d, t, os⟩) (a := hh.objs.size + 1) (e := hh.objs.size) (Nat.le_succ _) (Nat.le_refl _) rfl rfl k
    (o := .inst b.addr []) ⟨Nat.ne_of_lt (Nat.lt_succ_self _), n2, kx, [], 0, kd, Nat.zero_le _, .nil⟩
  have W := tc_weight b.addr us []
  have RM : Room c.dn.n (A.under (Code.builtin "type.__call__" { pos := Value.ref b.addr :: us })) := by
    have q1 := R₁.d
    have q2 := R₁.u
    refine ⟨R₁.h, ?_, ?_⟩
    · show A.depth + (Code.builtin "type.__call__" { pos := Value.ref b.addr :: us }).weight + 3 * (c.n - 1) ≤ 990
      rw [W.1]; lia
    · show A.units + (Code.builtin "type.__call__" { pos := Value.ref b.addr :: us }).cUnits + 60 * (c.n - 1) ≤ 9000
      rw [W.2]; lia
  refine codeAny_mono (q.ok _ _ _ _ RM S₁ G' (.cons (.ref e') (r.stay (TupStay.of_keep k) E'.pre))) fun r s' z => ?_
  rcases r with e | (v | _ | _ | _) <;> first | exact z.elim | skip
  obtain ⟨ρ2, av, L2, T2, G2, E2, r2, rfl, q2⟩ := z
  cases r2 with
  | d r2 => cases r2; exact ⟨rfl, ρ2, _, L2, T2, G2, E'.trans E2, .ref (E2.pre _ _ e'), q2⟩
end
end Mine
end
section
open PySem.Calls
namespace Mine
section
variable {c : Cx} {sc : Scope} {vars : List Str} {A : Around} {env : Env} {ρ ρ' : RefMap} {l : Loc} {L L' : List AO} {T T' : Tm} {s s' : Shared}
theorem s_lapp {o y : PySem.Expr} {ap p : Pos} {e v : E} (hb : baseOk o = true) (hl : (ap.endLine == p.line) = true) (hy : plainArg y = true) (h1 : EOk c sc vars o e) (h2 : EOk c sc vars y v) :
    EOk c sc vars (.Call (.Attribute o "append" ap) [y] [] p) (.lapp e v) := by
  intro A env ρ l L T s Q g w
  refine eval_meth hb hl (by show (plainArg y && true) = true; rw [hy]; rfl) (by simp) (h1.then g w fun u av ρ₁ L₁ T₁ s₁ g₁ E₁ r q pl => ?_)
  refine e2a3 (getL_elim g₁.G r q) fun a vs x1_ Z q => ?_; subst x1_
  refine P_getm PySem.F.slot_list_append PySem.F.type_list_append Z ?_
  refine wp0 (P_append (w := av) (s := s₁) (ρ := ρ₁) (T := T₁) (v := av) (K := fun L' T' => Q (.d .none) L' T') (h2.then g₁ q fun u' av' ρ₂ L₂ T₂ s₂ g₂ E₂ r' q' => ?_)) ?_
  · obtain ⟨a', vs', e', Z', hl, q'⟩ := getL_elim g₂.G (E₂.rep r) q'
    cases e'
    exact ⟨ρ₂, L₂, T₂, vs', g₂.G, E₂, Z', av', r', hl, q'⟩
  · intro v s₃ x3_; refine e4a5 x3_ fun ρ' x L' T' G' E' r' x4_ q' => ?_; subst x4_
    exact ⟨ρ', _, L', T', G', E₁.trans E', r', q'⟩
theorem s_lpop {o : PySem.Expr} {ap p : Pos} {e : E} (hb : baseOk o = true) (hl : (ap.endLine == p.line) = true) (h1 : EOk c sc vars o e) :
    EOk c sc vars (.Call (.Attribute o "pop" ap) [] [] p) (.lpop e) := by
  intro A env ρ l L T s Q g w
  refine eval_meth hb hl rfl (by decide) (h1.then g w fun u av ρ₁ L₁ T₁ s₁ g₁ E₁ r q pl => ?_)
  obtain ⟨a, vs, rfl, Z, r0, x, e0, q⟩ := getL_elim g₁.G r q
  refine P_getm PySem.F.slot_list_pop PySem.F.type_list_pop Z ?_
  exact wp0 (P_pop Z e0 q) fun _ _ b => bk_trans E₁ b
theorem s_lrev {o : PySem.Expr} {ap p : Pos} {e : E} (hb : baseOk o = true) (hl : (ap.endLine == p.line) = true) (h1 : EOk c sc vars o e) :
    EOk c sc vars (.Call (.Attribute o "reverse" ap) [] [] p) (.lrev e) := by
  intro A env ρ l L T s Q g w
  refine eval_meth hb hl rfl (by decide) (h1.then g w fun u av ρ₁ L₁ T₁ s₁ g₁ E₁ r q pl => ?_)
  refine e2a3 (getL_elim g₁.G r q) fun a vs x5_ Z q => ?_; subst x5_
  refine P_getm PySem.F.slot_list_reverse PySem.F.type_list_reverse Z ?_
  refine wp0 (P_rev Z q) ?_
  intro v s₃ x7_; refine e4a5 x7_ fun ρ' x L' T' G' E' r' x8_ q' => ?_; subst x8_
  exact ⟨ρ', _, L', T', G', E₁.trans E', r', q'⟩
theorem s_dget {o y z : PySem.Expr} {ap p : Pos} {e k d : E} (hb : baseOk o = true) (hl : (ap.endLine == p.line) = true) (hy : plainArg y = true) (hz : plainArg z = true) (h1 : EOk c sc vars o e) (h2 : EOk c sc vars y k) (h3 : EOk c sc vars z d) :
    EOk c sc vars (.Call (.Attribute o "get" ap) [y, z] [] p) (.dget e k d) := by
  intro A env ρ l L T s Q g w
  refine eval_meth hb hl (by show (plainArg y && (plainArg z && true)) = true; rw [hy, hz]; rfl) (by simp) (h1.then g w fun u av ρ₁ L₁ T₁ s₁ g₁ E₁ r q pl => ?_)
  obtain ⟨a, dd, ob, rfl, r3, how, -, -, hd, q⟩ := obj_elim g₁.G r q
  refine dict_getm r3 (by cases ob <;> first | exact hd | trivial) ?_
  refine wp0 (P_dget (v := av) g₁.R g₁.S (sys_ne g₁.G how) (Q := Q) (s := s₁) (ρ := ρ₁) (T := T₁) (h2.then g₁ q fun u' av' ρ₂ L₂ T₂ s₂ g₂ E₂ r' q' => h3.then g₂ q' fun u'' av'' ρ₃ L₃ T₃ s₃ g₃ E₃ r'' q'' => ?_)) fun _ _ b => bk_trans E₁ b
  exact ⟨ρ₃, L₃, T₃, av', av'', g₃.G, E₂.trans E₃, (E₂.trans E₃).rep r, E₃.rep r', r'', q''⟩
theorem bl1 {b : String} {n : Str} {p pos : Pos} {f : Value} {y : PySem.Expr} {P : Value → Shared → Prop} (hf : (∃ i, f = .builtin i) ∨ ∃ i, f = .type i) (g : Go c sc vars A env ρ l L T s) (h : blOk sc b n = true) (hy : plainArg y = true) (hv : bootBuiltins (Str.ofString b) = some f)
    (hm : ∀ P, nsIn (Kof pp P) mainGlobals (Str.ofString b) = some none) (hn : Str.ofString b ≠ "__name__") (hd : ((Str.ofString b) == ("__debug__" : Str)) = false) (k : wpAny (M c) A (eval y env) (fun v s₁ => wpAny (M c) A (call f [v]) P E0 s₁) E0 s) :
    wpAny (M c) A (eval (.Call (.Name n p) [y] [] pos) env) P E0 s := by
  refine Call_Name (trees_plain (by show (plainArg y && true) = true; rw [hy]; rfl)) (load_bl g h hv hm hn hd ?_)
  have e : wpAny (M c) A (spliced (evals [y] env)) (fun vs s₁ => wpAny (M c) A (call f vs) P E0 s₁) E0 s := spliced_cons (wp0 k fun v s₁ k' => spliced_nil k')
  rcases hf with ⟨i, rfl⟩ | ⟨i, rfl⟩
  · exact callWith_builtin rfl (evalArgs_evals e)
  · exact PyProof.Rows.callWith_type rfl (evalArgs_evals e)
theorem bl2 {b : String} {n : Str} {p pos : Pos} {f : Value} {y z : PySem.Expr} {P : Value → Shared → Prop} (hf : (∃ i, f = .builtin i) ∨ ∃ i, f = .type i) (g : Go c sc vars A env ρ l L T s) (h : blOk sc b n = true) (hy : plainArg y = true) (hz : plainArg z = true) (hv : bootBuiltins (Str.ofString b) = some f)
    (hm : ∀ P, nsIn (Kof pp P) mainGlobals (Str.ofString b) = some none) (hn : Str.ofString b ≠ "__name__") (hd : ((Str.ofString b) == ("__debug__" : Str)) = false) (k : wpAny (M c) A (eval y env) (fun v s₁ => wpAny (M c) A (eval z env) (fun v' s₂ => wpAny (M c) A (call f [v, v']) P E0 s₂) E0 s₁) E0 s) :
    wpAny (M c) A (eval (.Call (.Name n p) [y, z] [] pos) env) P E0 s := by
  refine Call_Name (trees_plain (by show (plainArg y && (plainArg z && true)) = true; rw [hy, hz]; rfl)) (load_bl g h hv hm hn hd ?_)
  have e : wpAny (M c) A (spliced (evals [y, z] env)) (fun vs s₁ => wpAny (M c) A (call f vs) P E0 s₁) E0 s := spliced_cons (wp0 k fun v s₁ k' => spliced_cons (wp0 k' fun v' s₂ k'' => spliced_nil k''))
  rcases hf with ⟨i, rfl⟩ | ⟨i, rfl⟩
  · exact callWith_builtin rfl (evalArgs_evals e)
  · exact PyProof.Rows.callWith_type rfl (evalArgs_evals e)
theorem s_len {n : Str} {p pos : Pos} {y : PySem.Expr} {e : E} (hn : blOk sc "len" n = true) (hy : plainArg y = true) (h1 : EOk c sc vars y e) : EOk c sc vars (.Call (.Name n p) [y] [] pos) (.len e) := by
  intro A env ρ l L T s Q g w
  refine bl1 (.inl ⟨_, rfl⟩) g hn hy (f := .builtin "len") (by decide +kernel) (fun P => by kernel_rfl!) (by decide) (by decide) (h1.then g w fun u av ρ₁ L₁ T₁ s₁ g₁ E₁ r q => ?_)
  refine e2a3 (getL_elim g₁.G r q) fun a vs x9_ Z q => ?_; subst x9_
  exact wp0 (P_len (K := Q) g₁.G Z q) fun _ _ b => bk_trans E₁ b
theorem s_listOf {n : Str} {p pos : Pos} {y : PySem.Expr} {e : E} (hn : blOk sc "list" n = true) (hy : plainArg y = true) (h1 : EOk c sc vars y e) : EOk c sc vars (.Call (.Name n p) [y] [] pos) (.listOf e) := by
  intro A env ρ l L T s Q g w
  refine bl1 (.inr ⟨_, rfl⟩) g hn hy (f := .type "list") (by decide +kernel) (fun P => by kernel_rfl!) (by decide) (by decide) (h1.then g w fun u av ρ₁ L₁ T₁ s₁ g₁ E₁ r q => ?_)
  refine e2a3 (getL_elim g₁.G r q) fun a vs x11_ Z q => ?_; subst x11_
  exact wp0 (P_listOf (Q := Q) g₁.G Z q) fun _ _ b => bk_trans E₁ b
theorem s_dnew {p : Pos} : EOk c sc vars (.Dict [] [] p) .dnew := by
  intro A env ρ l L T s Q g w
  exact P_dnew g.G w
noncomputable def PsOk (c : Cx) (sc : Scope) (vars : List Str) (xs : List PySem.Expr) (es : Es) : Prop :=
  ∀ {A env ρ l L T s Q}, Go c sc vars A env ρ l L T s → wpPs c es l L T Q → ∀ (acc : Str) (R : Str → Shared → Prop), PyData.strOk acc = true → acc.length + 1000 * xs.length ≤ 30000 →
    (∀ ρ' L' T' s' out, Gd c.w c.hR ρ' L' T' s' → Ev no s ρ T s' ρ' T' → Q L' T' → PyData.strOk out = true → out.length ≤ 30000 → R out s') → Joins (M c) A E0 (evalEach xs env) acc R s
theorem ps_nil : PsOk c sc vars [] .nil := by
  intro A env ρ l L T s Q g w acc R hs ha k
  exact k _ _ _ _ acc g.G (Ev.refl ..) w hs (by simpa using ha)
theorem ps_str {t x : Str} {n : Nat} {p : Pos} {r : List PySem.Expr} {es : Es} (h : x = t) (h2 : PsOk c sc vars r es) : PsOk c sc vars (.Constant (.str t) n p :: r) (.cons (.str x) es) := by
  intro A env ρ l L T s Q g w acc R hs ha k
  subst h
  have x13_ := w.1; have w := w.2; have w1 := x13_.1; have w2 := x13_.2
  have w1 : x.length ≤ 1000 := w1
  have ha : acc.length + 1000 * (r.length + 1) ≤ 30000 := ha
  have hal : (acc ++ x).length = acc.length + x.length := Str.length_append ..
  have x14_ := g.G.toks (s.toks + 1); have G' := x14_.1; have E' := x14_.2
  refine Constant_str ⟨x, _, rfl, by rw [hal, sizeLine_eq]; lia, ?_⟩
  exact h2 (g.ev G' E') w _ _ (ok_append hs w2) (by rw [hal]; lia) fun ρ' L' T' s' out G2 E2 q ho => k _ _ _ _ _ G2 (E'.trans E2) q ho
theorem ok_of (x : String) : PyData.strOk (Str.ofString x) = true := by
  rw [Str.ofString_eq_toList]
  show (List.toArray (x.toList.map Char.toNat)).all (· < 0x110000) = true
  rw [List.all_toArray, List.all_map, List.all_eq_true]
  intro c _
  rcases c.valid with h | ⟨_, h⟩
  · exact decide_eq_true (Nat.lt_trans h (by decide))
  · exact decide_eq_true h
theorem log_small {i : Int} (h : i.natAbs < 10 ^ 12) : i.natAbs.log2 < 1920 := by
  by_cases e : i.natAbs = 0
  · rw [e]; decide
  · exact (Nat.log2_lt e).mpr (Nat.lt_of_lt_of_le h (by decide +kernel))
theorem ps_fmt {v : PySem.Expr} {p : Pos} {e : E} {r : List PySem.Expr} {es : Es} (h1 : EOk c sc vars v e) (h2 : PsOk c sc vars r es) : PsOk c sc vars (.FormattedValue v (-1) none p :: r) (.cons e es) := by
  intro A env ρ l L T s Q g w acc R hs ha k
  have ha : acc.length + 1000 * (r.length + 1) ≤ 30000 := ha
  refine wpAny_FormattedValue_plain (h1.then g w fun u av ρ₁ L₁ T₁ s₁ g₁ E₁ ru q => ?_)
  have q1 := q.1; have q := q.2
  have go : ∀ (y : Str) (t t' : Nat), PyData.strOk y = true → y.length ≤ 1000 → ∃ y' t'', Value.str y t = .str y' t'' ∧ (acc ++ y').length ≤ sizeLine ∧ Joins (M c) A E0 (evalEach r env) (acc ++ y') R { s₁ with toks := t' } := fun y t t' hys hy => by
    have hal : (acc ++ y).length = acc.length + y.length := Str.length_append ..
    have x15_ := g₁.G.toks t'; have G' := x15_.1; have E' := x15_.2
    exact ⟨y, t, rfl, by rw [hal, sizeLine_eq]; lia, h2 (g₁.ev G' E') q _ _ (ok_append hs hys) (by rw [hal]; lia) fun ρ' L' T' s' out G2 E2 q ho => k _ _ _ _ _ G2 (E₁.trans (E'.trans E2)) q ho⟩
  unfold strShort at q1
  split at q1
  · rename_i i
    refine e1a1 (rep_int ru) fun t x16_ => ?_; subst x16_
    refine wpAny_formatField_int (log_small q1) (go _ _ _ (ok_of _) ?_)
    have := int_text_length_le10 (k := 12) (by decide) q1
    show (Str.ofString (toString i)).length ≤ 1000
    rw [PySem.ofString_length]; lia
  · rename_i x
    refine e1a1 (rep_str ru) fun t x18_ => ?_; subst x18_
    exact wpAny_formatField_str (go x t s₁.toks q1.2 q1.1) (go x _ _ q1.2 q1.1) (by rw [sizeLine_eq]; lia)
  · exact q1.elim
theorem s_fstr {vs : List PySem.Expr} {p : Pos} {ps : Es} (h : PsOk c sc vars vs ps) (h2 : 2 ≤ vs.length) (hl : vs.length ≤ 20) : EOk c sc vars (.JoinedStr vs p) (.fstr ps) := by
  intro A env ρ l L T s Q g w
  match vs, h2 with
  | a :: b :: r, _ =>
    refine wpAny_JoinedStr (h g w _ _ (by decide +kernel) (by have : Str.empty.length = 0 := rfl; lia) fun ρ' L' T' s' out G' E' q hs ho => ⟨by rw [sizeLine_eq]; lia, ?_⟩)
    obtain ⟨G2, E2⟩ := G'.toks (s'.toks + 1)
    exact ⟨ρ', _, L', T', G2, E'.trans E2, .d (.str _ _), q out hs⟩
end
end Mine
end
section
open PySem.Calls
set_option tactic.hygienic false
namespace Mine
section
variable {c : Cx} {sc : Scope} {vars : List Str} {A : Around} {env : Env} {ρ ρ' : RefMap} {l : Loc} {L L' : List AO} {T T' : Tm} {s s' : Shared}
theorem bkB_now (g : Gd c.w c.hR ρ L T s) {Q : Bool → LT} {b : Bool} (q : Q b L T) : BkB c s ρ T Q b s := ⟨ρ, L, T, g, Ev.refl .., q⟩
theorem tr_bool {b : Bool} {P : Bool → Shared → Prop} (h : P b s) : wpAny (M c) A (truthy (.bool b)) P E0 s := wpAny_pure h
theorem CVOk.then {x : PySem.Expr} {e : C} {Q : Bool → LT} {P : Value → Shared → Prop} (h : CVOk c sc vars x e) (g : Go c sc vars A env ρ l L T s) (w : wpC c e l L T Q)
    (k : ∀ b ρ₁ L₁ T₁ s₁, Go c sc vars A env ρ₁ l L₁ T₁ s₁ → Ev no s ρ T s₁ ρ₁ T₁ → Q b L₁ T₁ → P (.bool b) s₁) : wpAny (M c) A (eval x env) P E0 s :=
  wp0 (h g w) fun v s₁ ⟨b, hb, ρ₁, L₁, T₁, G₁, E₁, q₁⟩ => by subst hb; exact k b ρ₁ L₁ T₁ s₁ (g.ev G₁ E₁) E₁ q₁
theorem c_of_cv {x : PySem.Expr} {k : C} (he : ∀ env whole, isTrue x env whole = (do let v ← whole; standAt x.pos; holding [v] (truthy v))) (h : CVOk c sc vars x k) : COk c sc vars x k := by
  intro A env ρ l L T s Q g w
  refine wpAny_isTrue_value (wp0 (h g w) ?_) (he _ _)
  intro v s₁ x1_; refine e1a2 x1_ fun b x2_ q => ?_; subst x2_
  exact tr_bool q
theorem c_cmp {x y : PySem.Expr} {o : CmpOp} {p : Pos} {op : Cop} {a b : E} (ho : o = op.op) (hm : behindInMarks o y = false) (h1 : EOk c sc vars x a) (h2 : EOk c sc vars y b) : COk c sc vars (.Compare x [o] [y] p) (.cmp op a b) := by
  intro A env ρ l L T s Q g w
  subst ho
  refine wpAny_isTrue_Compare1 (h1.then g w fun u av ρ₁ L₁ T₁ s₁ g₁ E₁ r q => h2.then g₁ q fun u' av' ρ₂ L₂ T₂ s₂ g₂ E₂ r' q' => wp0 (P_cmp g₂.R g₂.G (E₂.rep r) r' q') ?_) hm
  rintro v s₃ ⟨rfl, r, rfl, q''⟩
  exact tr_bool (bkB_trans (E₁.trans E₂) (bkB_now g₂.G q''))
theorem cv_cmp {x y : PySem.Expr} {o : CmpOp} {p : Pos} {op : Cop} {a b : E} (ho : o = op.op) (hm : behindInMarks o y = false) (h1 : EOk c sc vars x a) (h2 : EOk c sc vars y b) : CVOk c sc vars (.Compare x [o] [y] p) (.cmp op a b) := by
  intro A env ρ l L T s Q g w
  subst ho
  refine wpAny_Compare1 (h1.then g w fun u av ρ₁ L₁ T₁ s₁ g₁ E₁ r q => h2.then g₁ q fun u' av' ρ₂ L₂ T₂ s₂ g₂ E₂ r' q' => wp0 (P_cmp g₂.R g₂.G (E₂.rep r) r' q') ?_) hm
  rintro v s₃ ⟨rfl, r, rfl, q''⟩
  exact ⟨_, rfl, bkB_trans (E₁.trans E₂) (bkB_now g₂.G q'')⟩
theorem c_isin {x y : PySem.Expr} {o : CmpOp} {p : Pos} {neg : Bool} {a b : E} (ho : o = (if neg then .NotIn else .In)) (hm : behindInMarks o y = false) (h1 : EOk c sc vars x a) (h2 : EOk c sc vars y b) : COk c sc vars (.Compare x [o] [y] p) (.isin neg a b) := by
  intro A env ρ l L T s Q g w
  subst ho
  refine wpAny_isTrue_Compare1 (h1.then g w fun u av ρ₁ L₁ T₁ s₁ g₁ E₁ r q => h2.then g₁ q fun u' av' ρ₂ L₂ T₂ s₂ g₂ E₂ r' q' => wp0 (P_in (K := fun b => Q b L₂ T₂) g₂.R g₂.S g₂.G (E₂.rep r) r' q') ?_) hm
  intro v s₃ x3_; refine e1a4 x3_ fun r x4_ G3 E3 q'' => ?_; subst x4_
  exact tr_bool ⟨ρ₂, L₂, T₂, G3, (E₁.trans E₂).trans E3, q''⟩
theorem cv_isin {x y : PySem.Expr} {o : CmpOp} {p : Pos} {neg : Bool} {a b : E} (ho : o = (if neg then .NotIn else .In)) (hm : behindInMarks o y = false) (h1 : EOk c sc vars x a) (h2 : EOk c sc vars y b) : CVOk c sc vars (.Compare x [o] [y] p) (.isin neg a b) := by
  intro A env ρ l L T s Q g w
  subst ho
  refine wpAny_Compare1 (h1.then g w fun u av ρ₁ L₁ T₁ s₁ g₁ E₁ r q => h2.then g₁ q fun u' av' ρ₂ L₂ T₂ s₂ g₂ E₂ r' q' => wp0 (P_in (K := fun b => Q b L₂ T₂) g₂.R g₂.S g₂.G (E₂.rep r) r' q') ?_) hm
  intro v s₃ x5_; refine e1a4 x5_ fun r x6_ G3 E3 q'' => ?_; subst x6_
  exact ⟨_, rfl, ρ₂, L₂, T₂, G3, (E₁.trans E₂).trans E3, q''⟩
theorem lastMarks2 {p q : CmpOp} {y z : PySem.Expr} (h : behindInMarks q z = false) : lastMarks [p, q] [y, z] = false := h
theorem c_chain {x y z : PySem.Expr} {p q : CmpOp} {pos : Pos} {o1 o2 : Cop} {a b d : E} (h1 : p = o1.op) (h2 : q = o2.op) (hm : behindInMarks q z = false) (ha : EOk c sc vars x a) (hb : EOk c sc vars y b) (hd : EOk c sc vars z d) :
    COk c sc vars (.Compare x [p, q] [y, z] pos) (.chain o1 o2 a b d) := by
  intro A env ρ l L T s Q g w
  subst h1; subst h2
  refine isTrue_chain (ha.then g w fun u av ρ₁ L₁ T₁ s₁ g₁ E₁ r q => test_link (hb.then g₁ q fun u' av' ρ₂ L₂ T₂ s₂ g₂ E₂ r' q' => wp0 (P_cmp g₂.R g₂.G (E₂.rep r) r' q') ?_)) (lastMarks2 hm)
  rintro v s₃ ⟨rfl, t, rfl, q''⟩
  refine tr_bool ?_
  rcases wpIf_elim q'' with ⟨rfl, q''⟩ | ⟨rfl, q''⟩
  · refine test_last (hd.then g₂ q'' fun u₃ av₃ ρ₃ L₃ T₃ s₃ g₃ E₃ r₃ q₃ => wp0 (P_cmp g₃.R g₃.G (E₃.rep r') r₃ q₃) ?_)
    rintro v s₃ ⟨rfl, t, rfl, q4⟩
    exact tr_bool (bkB_trans ((E₁.trans E₂).trans E₃) (bkB_now g₃.G q4))
  · exact bkB_trans (E₁.trans E₂) (bkB_now g₂.G q'')
theorem cv_chain {x y z : PySem.Expr} {p q : CmpOp} {pos : Pos} {o1 o2 : Cop} {a b d : E} (h1 : p = o1.op) (h2 : q = o2.op) (hm : behindInMarks q z = false) (ha : EOk c sc vars x a) (hb : EOk c sc vars y b) (hd : EOk c sc vars z d) :
    CVOk c sc vars (.Compare x [p, q] [y, z] pos) (.chain o1 o2 a b d) := by
  intro A env ρ l L T s Q g w
  subst h1; subst h2
  refine Compare_chain (ha.then g w fun u av ρ₁ L₁ T₁ s₁ g₁ E₁ r q => chain_link (hb.then g₁ q fun u' av' ρ₂ L₂ T₂ s₂ g₂ E₂ r' q' => wp0 (P_cmp g₂.R g₂.G (E₂.rep r) r' q') ?_)) (lastMarks2 hm)
  rintro v s₃ ⟨rfl, t, rfl, q''⟩
  refine tr_bool ?_
  rcases wpIf_elim q'' with ⟨rfl, q''⟩ | ⟨rfl, q''⟩
  · refine chain_last (hd.then g₂ q'' fun u₃ av₃ ρ₃ L₃ T₃ s₃ g₃ E₃ r₃ q₃ => wp0 (P_cmp g₃.R g₃.G (E₃.rep r') r₃ q₃) ?_)
    rintro v s₃ ⟨rfl, t, rfl, q4⟩
    exact ⟨_, rfl, bkB_trans ((E₁.trans E₂).trans E₃) (bkB_now g₃.G q4)⟩
  · exact ⟨_, rfl, bkB_trans (E₁.trans E₂) (bkB_now g₂.G q'')⟩
theorem c_not {x : PySem.Expr} {p : Pos} {k : C} (h : COk c sc vars x k) : COk c sc vars (.UnaryOp .Not x p) (.not k) := by
  intro A env ρ l L T s Q g w
  exact wpAny_isTrue_Not (h.then g w fun b ρ₁ L₁ T₁ s₁ g₁ E₁ q => bkB_trans E₁ (bkB_now g₁.G q))
theorem cv_not {x : PySem.Expr} {p : Pos} {k : C} (h : CVOk c sc vars x k) : CVOk c sc vars (.UnaryOp .Not x p) (.not k) := by
  intro A env ρ l L T s Q g w
  have e : eval (.UnaryOp .Not x p) env = (do let v ← eval x env; standAt p; holding [v] (unaryOp .Not v)) := rfl
  rw [e]
  refine wpAny_bind (h.then g w fun b ρ₁ L₁ T₁ s₁ g₁ E₁ q => wpAny_bind (wpAny_standAt (wpAny_holding (not_value (tr_bool ?_)))))
  exact ⟨_, rfl, bkB_trans E₁ (bkB_now g₁.G q)⟩
noncomputable def AllOk (c : Cx) (sc : Scope) (vars : List Str) (o : BoolOp) (xs : List PySem.Expr) (k : C) : Prop :=
  ∀ {A env ρ l L T s Q}, Go c sc vars A env ρ l L T s → wpC c k l L T Q → wpAny (M c) A (allTrue o xs env) (BkB c s ρ T Q) E0 s
theorem all_and2 {x y : PySem.Expr} {a b : C} (h1 : COk c sc vars x a) (h2 : COk c sc vars y b) : AllOk c sc vars .And [x, y] (.and a b) := by
  intro A env ρ l L T s Q g w
  refine wpAny_allTrue_And_cons (h1.then g w fun b ρ₁ L₁ T₁ s₁ g₁ E₁ q => ?_)
  rcases wpIf_elim q with ⟨rfl, q⟩ | ⟨rfl, q⟩
  · refine wpAny_allTrue_And_cons (h2.then g₁ q fun b ρ₂ L₂ T₂ s₂ g₂ E₂ q' => ?_)
    cases b
    · exact bkB_trans (E₁.trans E₂) (bkB_now g₂.G q')
    · exact wpAny_allTrue_And_nil (bkB_trans (E₁.trans E₂) (bkB_now g₂.G q'))
  · exact bkB_trans E₁ (bkB_now g₁.G q)
theorem all_and {x : PySem.Expr} {r : List PySem.Expr} {a b : C} (h1 : COk c sc vars x a) (h2 : AllOk c sc vars .And r b) : AllOk c sc vars .And (x :: r) (.and a b) := by
  intro A env ρ l L T s Q g w
  refine wpAny_allTrue_And_cons (h1.then g w fun b ρ₁ L₁ T₁ s₁ g₁ E₁ q => ?_)
  rcases wpIf_elim q with ⟨rfl, q⟩ | ⟨rfl, q⟩
  · exact wp0 (h2 g₁ q) fun b s' q' => bkB_trans E₁ q'
  · exact bkB_trans E₁ (bkB_now g₁.G q)
theorem all_or2 {x y : PySem.Expr} {a b : C} (h1 : COk c sc vars x a) (h2 : COk c sc vars y b) : AllOk c sc vars .Or [x, y] (.or a b) := by
  intro A env ρ l L T s Q g w
  refine wpAny_allTrue_Or_cons (h1.then g w fun b ρ₁ L₁ T₁ s₁ g₁ E₁ q => ?_)
  rcases wpIf_elim q with ⟨rfl, q⟩ | ⟨rfl, q⟩
  · exact bkB_trans E₁ (bkB_now g₁.G q)
  · refine wpAny_allTrue_Or_cons (h2.then g₁ q fun b ρ₂ L₂ T₂ s₂ g₂ E₂ q' => ?_)
    cases b
    · exact wpAny_allTrue_Or_nil (bkB_trans (E₁.trans E₂) (bkB_now g₂.G q'))
    · exact bkB_trans (E₁.trans E₂) (bkB_now g₂.G q')
theorem all_or {x : PySem.Expr} {r : List PySem.Expr} {a b : C} (h1 : COk c sc vars x a) (h2 : AllOk c sc vars .Or r b) : AllOk c sc vars .Or (x :: r) (.or a b) := by
  intro A env ρ l L T s Q g w
  refine wpAny_allTrue_Or_cons (h1.then g w fun b ρ₁ L₁ T₁ s₁ g₁ E₁ q => ?_)
  rcases wpIf_elim q with ⟨rfl, q⟩ | ⟨rfl, q⟩
  · exact bkB_trans E₁ (bkB_now g₁.G q)
  · exact wp0 (h2 g₁ q) fun b s' q' => bkB_trans E₁ q'
theorem c_bool {o : BoolOp} {xs : List PySem.Expr} {p : Pos} {k : C} (h : AllOk c sc vars o xs k) : COk c sc vars (.BoolOp o xs p) k := by
  intro A env ρ l L T s Q g w
  exact wpAny_isTrue_BoolOp (h g w)
theorem cv_tru {x : PySem.Expr} {e : E} (h : EOk c sc vars x e) : CVOk c sc vars x (.tru e) := by
  intro A env ρ l L T s Q g w
  refine h.then g w fun u av ρ₁ L₁ T₁ s₁ g₁ E₁ r q => ?_
  split at q
  · exact ⟨_, rep_bool r, bkB_trans E₁ (bkB_now g₁.G q)⟩
  · exact q.elim
theorem testOk_true {x : PySem.Expr} (h : testOk x = true) (env : Env) (whole : Sem Value) : isTrue x env whole = (do let v ← whole; standAt x.pos; holding [v] (truthy v)) := by
  cases x <;> first | rfl | cases h
theorem cv_tt {n : Nat} {p : Pos} : CVOk c sc vars (.Constant (.bool true) n p) .tt := by
  intro A env ρ l L T s Q g w
  exact wpAny_pure ⟨_, rfl, bkB_now g.G w⟩
theorem c_tt {n : Nat} {p : Pos} : COk c sc vars (.Constant (.bool true) n p) .tt := c_of_cv (fun _ _ => rfl) cv_tt
theorem iterOk_fold {x : PySem.Expr} (h : iterOk x = true) (env : Env) (y : Value) : foldedSetIterable x env y = pure y := by
  cases x <;> first | rfl | cases h
theorem it_new {env : Env} {Q : List AV → Option (AV × List AV) → LT} {s₁ : Shared} {T₁ : Tm} {ρ₁ : RefMap} {L₁ : List AO} (G₁ : Gd c.w c.hR ρ₁ L₁ T₁ s₁) (E₁ : Ev no s ρ T s₁ ρ₁ T₁) {o : Obj} (hfr : o.isFreed = false) {t : Nat} {lv : Option (AV × List AV)} {vs : List AV} {s₂ : Shared}
    (hs : s₂ = { s₁ with heap := s₁.heap.push o, toks := t })
    (hat : ItAt ρ₁ (s₁.heap.push o) s₁.heap.objs.size lv vs) (q : Q vs lv L₁ T₁) : ItPost c s ρ T env Q (.ref s₁.heap.objs.size) s₂ := by
  subst hs
  have x7_ := G₁.new (Nat.le_refl _); have n1 := x7_.1; have n2 := x7_.2.1; have n3 := x7_.2.2
  have x8_ := G₁.keepAll (s' := { s₁ with heap := s₁.heap.push o, toks := t }) rfl rfl fun _ _ e => Heap.get?_push_of_some _ e; have G' := x8_.1; have E' := x8_.2
  refine ⟨ρ₁, L₁, T₁, _, vs, lv, rfl, G', E₁.trans E', ⟨hat, fun w => ?_, n2⟩, none_back E₁.alive n1, q⟩
  refine e1a2 (G₁.ob.notTup w) fun o' e' _ => ?_
  rw [n1] at e'; cases e'
end
end Mine
end
section
open PySem.Calls
namespace Mine
section
variable {c : Cx} {sc : Scope} {vars : List Str} {A : Around} {env : Env} {ρ ρ' : RefMap} {l : Loc} {L L' : List AO} {T T' : Tm} {s s' : Shared}
theorem rangeSize_nat (a b : Int) : Builtin.Range.rangeSize a b 1 = ((b - a).toNat : Int) := by
  rw [rangeSize_one]; split <;> lia
theorem it_rng {env : Env} {Q : List AV → Option (AV × List AV) → LT} {s₁ : Shared} {T₁ : Tm} {ρ₁ : RefMap} {L₁ : List AO} (G₁ : Gd c.w c.hR ρ₁ L₁ T₁ s₁) (E₁ : Ev no s ρ T s₁ ρ₁ T₁) {a b : Int} {t u v : Tok} {tk : Nat}
    (h1 : -bigI ≤ a) (h2 : a ≤ bigI) (h3 : -bigI ≤ b) (h4 : b ≤ bigI) (q : Q (rangeAV a (b - a).toNat) none L₁ T₁) :
    wpAny (M c) A (pyIter (.ref s₁.heap.objs.size)) (ItPost c s ρ T env Q) E0 { s₁ with heap := s₁.heap.push { cls := .type "range", data := .fields #[.int a t, .int b u, .int 1 v] }, toks := tk } := by
  have big : bigI = 1000000000 := rfl
  refine wpAny_pyIter_range (IsRange.new ..) (small_one (by lia) (by lia) (by lia) (by lia)) ?_
  have x1_ := G₁.keepAll (s' := { s₁ with heap := s₁.heap.push { cls := .type "range", data := .fields #[.int a t, .int b u, .int 1 v] }, toks := tk }) rfl rfl fun _ _ e => Heap.get?_push_of_some _ e; have G' := x1_.1; have E' := x1_.2
  refine it_new (t := tk) G' (E₁.trans E') rfl rfl (ItAt.rng (x := a) (n := (b - a).toNat) ?_) q
  rw [rangeSize_nat]
  exact Heap.get?_push_size _ rfl
theorem it_r1 {n : Str} {p pos : Pos} {y : PySem.Expr} {e : E} (hn : blOk sc "range" n = true) (hy : plainArg y = true) (h1 : EOk c sc vars y e) : ItOk' c sc vars (.Call (.Name n p) [y] [] pos) (.r1 e) := by
  refine ⟨fun env y => rfl, fun {A env ρ l L T s Q} g w => ?_⟩
  refine bl1 (.inr ⟨_, rfl⟩) g hn hy (f := .type "range") (by decide +kernel) (fun P => by kernel_rfl!) (by decide) (by decide) (h1.then g w fun u av ρ₁ L₁ T₁ s₁ g₁ E₁ r q => ?_)
  split at q
  · rename_i k
    have q1 := q.1; have q2 := q.2.1; have q := q.2.2
    refine e1a1 (rep_int r) fun t x2_ => ?_; subst x2_
    have big : bigI = 1000000000 := rfl
    exact call_range_1 (it_rng g₁.G E₁ (by lia) (by lia) q1 q2 (by rw [Int.sub_zero]; exact q))
  · exact q.elim
theorem it_r2 {n : Str} {p pos : Pos} {y z : PySem.Expr} {a b : E} (hn : blOk sc "range" n = true) (hy : plainArg y = true) (hz : plainArg z = true) (h1 : EOk c sc vars y a) (h2 : EOk c sc vars z b) : ItOk' c sc vars (.Call (.Name n p) [y, z] [] pos) (.r2 a b) := by
  refine ⟨fun env y => rfl, fun {A env ρ l L T s Q} g w => ?_⟩
  refine bl2 (.inr ⟨_, rfl⟩) g hn hy hz (f := .type "range") (by decide +kernel) (fun P => by kernel_rfl!) (by decide) (by decide) (h1.then g w fun u av ρ₁ L₁ T₁ s₁ g₁ E₁ r q => h2.then g₁ q fun u' av' ρ₂ L₂ T₂ s₂ g₂ E₂ r' q' => ?_)
  split at q'
  · rename_i i k
    have q1 := q'.1; have q2 := q'.2.1; have q3 := q'.2.2.1; have q4 := q'.2.2.2.1; have q := q'.2.2.2.2
    refine e1a1 (rep_int r) fun t x4_ => ?_; subst x4_
    refine e1a1 (rep_int r') fun t' x6_ => ?_; subst x6_
    exact call_range_2 (it_rng g₂.G (E₁.trans E₂) q1 q2 q3 q4 q)
  · exact q'.elim
theorem it_val {x : PySem.Expr} {e : E} (hi : iterOk x = true) (h1 : EOk c sc vars x e) : ItOk' c sc vars x (.val e) := by
  refine ⟨fun env y => iterOk_fold hi env y, fun {A env ρ l L T s Q} g w => ?_⟩
  refine h1.then g w fun u av ρ₁ L₁ T₁ s₁ g₁ E₁ r q => ?_
  split at q
  · rename_i xs
    have r0 := rep_d r
    generalize hx0 : PyData.tuple xs = X at r0
    generalize has : ([] : List Addr) = as at r0
    cases r0 with
    | tuple ho hc hd ra =>
      cases hx0
      rename_i a o ws m
      subst has
      have ht : s₁.heap.IsTuple a ws := ⟨o, ho, hc, m, hd⟩
      refine wpAny_pyIter_tuple ht (it_new (t := s₁.toks) g₁.G E₁ (o := { cls := .type "tuple_iterator", data := .fields #[.ref a, .int 0 0] }) rfl rfl ?_ q)
      have ts : TupStay s₁.heap (s₁.heap.push { cls := .type "tuple_iterator", data := .fields #[.ref a, .int 0 0] }) := TupStay.of_keep fun _ _ e => Heap.get?_push_of_some _ e
      exact ItAt.tup 0 (tuple_stay ts ht) (readsAll_stay ts ra rfl) ⟨_, Heap.get?_push_size _ rfl, rfl, rfl⟩
    | _ => cases hx0
  · refine e2a3 (getL_elim g₁.G r q) fun a vs x8_ Z q => ?_; subst x8_
    refine e2a2 Z.at_ fun ws n h4 h5 => ?_
    refine wpAny_pyIter_list h4.isList (it_new (t := s₁.toks) g₁.G E₁ (o := { cls := .type "list_iterator", data := .fields #[.ref a, .int 0 0] }) (lv := some (av, vs)) (vs := vs) rfl rfl ?_ q)
    have ts : TupStay s₁.heap (s₁.heap.push { cls := .type "list_iterator", data := .fields #[.ref a, .int 0 0] }) := TupStay.of_keep fun _ _ e => Heap.get?_push_of_some _ e
    exact ItAt.lst 0 (r.stay ts fun _ _ e => e) ⟨_, Heap.get?_push_size _ rfl, rfl, rfl⟩
end
end Mine
end
section
open PySem.Calls
namespace Mine
section
variable {hR : Heap} {env : Env} {vars : List Str} {ρ ρ' : RefMap} {l : Loc} {T T' : Tm} {s s' : Shared} {w : World} {L : List AO} {c : Cx} {A : Around}
theorem P_storeL {M : Model} {A : Around} {E : Value → Shared → Prop} {i : Nat} {x : Str} {u : Value} {v : AV} (F : Frm hR env vars ρ l T s.heap) (G : Gd w hR ρ L T s) (hx : vars[i]? = some x) (hk : env.kindOf x = some .local) (r : Rep ρ s.heap u v) :
    wpAny M A (storeName env x u) (fun _ s' => Gd w hR ρ L T s' ∧ Ev (fun a => a = env.locals) s ρ T s' ρ T ∧ Frm hR env vars ρ (l.set i (some v)) T s'.heap) E s := by
  have hil : i < l.length := by rw [F.len]; exact lt_of_get hx
  have ne : ∀ (j : Nat) y, vars[j]? = some y → j ≠ i → y ≠ x := fun j y hy hj q => by
    subst q
    have x1_ := List.getElem?_eq_some_iff.mp hx; have h1 := x1_.1; have e1 := x1_.2
    have x2_ := List.getElem?_eq_some_iff.mp hy; have h2 := x2_.1; have e2 := x2_.2
    exact hj ((List.getElem_inj F.nodup).mp (e2.trans e1.symm))
  refine e1a2 F.slot fun m hns hs => ?_
  refine wpAny_storeName_local hk hns (fun h' hn' hsb => ?_) (by rw [F.kind]; rfl)
  have hnt : ∀ o, s.heap.get? env.locals = some o → ¬TupObj o := by
    refine e3a3 hns fun o es ep ho hd _ => ?_
    intro o' ho'; rw [ho] at ho'; cases ho'; exact not_tup_dict hd
  obtain ⟨G', E'⟩ := G.stay (s' := { s with heap := h', toks := s.toks + 1 }) (fun a => a = env.locals) (fun b hb => by subst hb; exact ⟨(F.addr _ (.inl rfl)).1, (F.addr _ (.inl rfl)).2.1, hnt⟩) rfl rfl (fun b o hb _ => by subst hb; refine e3a2 hn' fun o' _ _ z _ => ?_; exact ⟨o', z⟩)
    (fun b o hb e => (hsb.2 b hb).trans e)
  have ck : ∀ {n c v}, env.cells.lookup n = some c → s.heap.IsCell c v → h'.IsCell c v := fun {n c v} hc ⟨o, ho, hd⟩ => ⟨o, (hsb.2 c (F.nl _ (mem_of_lookup hc))).trans ho, hd⟩
  refine ⟨G', E', ⟨F.kind, F.glob, F.bi, by rw [List.length_set]; exact F.len, F.nodup, ⟨_, hn', fun j y z hy hz => ?_⟩, fun y hy => ?_, F.apart, F.nl, fun a ha => ⟨(F.addr a ha).1, (F.addr a ha).2.1, let ⟨o, z⟩ := (F.addr a ha).2.2; E'.alive a o z⟩⟩⟩
  · by_cases hj : j = i
    · subst hj
      rw [hx] at hy; cases hy
      rw [List.getElem?_set_self hil] at hz; cases hz
      exact .inl ⟨hk, u, by simp, E'.rep r⟩
    · rw [set_get_ne (Ne.symm hj)] at hz
      rcases hs j y z hy hz with ⟨k, u', hu, r'⟩ | ⟨k, c, u', hc, hcell, r'⟩
      · exact .inl ⟨k, u', by simpa [ne j y hy hj] using hu, E'.rep r'⟩
      · exact .inr ⟨k, c, u', hc, ck hc hcell, E'.rep r'⟩
  · refine e2a2 (F.cells y hy) fun c u' hc hcell => ?_
    exact ⟨c, u', hc, ck hc hcell⟩
noncomputable def SX (env : Env) (loc : Bool) (a : Addr) : Prop := match loc with | true => a = env.locals | false => FA env a
theorem P_storeX {M : Model} {A : Around} {E : Value → Shared → Prop} {i : Nat} {x : Str} {u : Value} {v : AV} {loc : Bool} (F : Frm hR env vars ρ l T s.heap) (G : Gd w hR ρ L T s) (hx : vars[i]? = some x) (hk : env.kindOf x = some .local ∨ (loc = false ∧ env.kindOf x = some .cell)) (r : Rep ρ s.heap u v) :
    wpAny M A (storeName env x u) (fun _ s' => Gd w hR ρ L T s' ∧ Ev (SX env loc) s ρ T s' ρ T ∧ Frm hR env vars ρ (l.set i (some v)) T s'.heap) E s := by
  cases loc with
  | true =>
    rcases hk with hk | ⟨h, _⟩
    · exact P_storeL F G hx hk r
    · cases h
  | false => exact P_store F G hx (hk.imp id fun h => h.2) r
theorem Frm.evX {X : Addr → Prop} (F : Frm hR env vars ρ l T s.heap) (e : Ev X s ρ T s' ρ' T') (hX : ∀ a, FA env a → ¬X a) : Frm hR env vars ρ' l T' s'.heap := by
  have kp : ∀ a o, FA env a → s.heap.get? a = some o → s'.heap.get? a = some o := fun a o ha ho => e.keep a o ho (F.addr a ha).1 (hX a ha)
  refine ⟨F.kind, F.glob, F.bi, F.len, F.nodup, ?_, ?_, F.apart, F.nl, fun a ha => ⟨fun ho => ?_, (F.addr a ha).2.1, let ⟨o, z⟩ := (F.addr a ha).2.2; ⟨o, kp a o ha z⟩⟩⟩
  · refine e1a2 F.slot fun m x5_ hs => ?_; refine e3a4 x5_ fun o es ep h1 h2 h3 h4 => ?_
    refine ⟨m, ⟨o, es, ep, kp _ _ (.inl rfl) h1, h2, h3, h4⟩, fun i x v hx hv => ?_⟩
    rcases hs i x v hx hv with ⟨k, u, hu, r⟩ | ⟨k, c, u, hc, ⟨o, ho, hd⟩, r⟩
    · exact .inl ⟨k, u, hu, e.rep r⟩
    · exact .inr ⟨k, c, u, hc, ⟨o, kp _ _ (.inr ⟨x, mem_of_lookup hc⟩) ho, hd⟩, e.rep r⟩
  · intro x hx
    refine e2a2 (F.cells x hx) fun c u hc x7_ => ?_; refine e1a2 x7_ fun o ho hd => ?_
    exact ⟨c, u, hc, ⟨o, kp _ _ (.inr ⟨x, mem_of_lookup hc⟩) ho, hd⟩⟩
  · rcases e.own a ho with q | q
    · exact (F.addr a ha).1 q
    · refine e1a1 ((F.addr a ha).2.2) fun o z => ?_; rw [q] at z; cases z
theorem pair_of {a : Addr} {v x y : AV} (r : Rep ρ s.heap (.ref a) v) (hv : v = .mk x y ∨ ∃ p q, v = .d (.tuple [p, q]) ∧ x = .d p ∧ y = .d q) : ∃ u1 u2, s.heap.IsTuple a #[u1, u2] ∧ Rep ρ s.heap u1 x ∧ Rep ρ s.heap u2 y := by
  rcases hv with rfl | ⟨p, q, rfl, rfl, rfl⟩
  · cases r with
    | mk h r1 r2 => exact ⟨_, _, ⟨_, h, rfl, _, rfl⟩, r1, r2⟩
  · have r0 := rep_d r
    generalize hx0 : PyData.tuple [p, q] = X at r0
    generalize has : ([] : List Addr) = as at r0
    cases r0 with
    | tuple ho hc hd ra =>
      cases hx0
      rename_i o ws n
      obtain ⟨wl⟩ := ws
      cases ra with
      | cons r1 ra2 =>
        obtain ⟨e1, e2⟩ := List.append_eq_nil_iff.mp has.symm
        subst e1
        cases ra2 with
        | cons r2 ra3 =>
          obtain ⟨e3, e4⟩ := List.append_eq_nil_iff.mp e2
          subst e3
          cases ra3
          exact ⟨_, _, ⟨_, ho, hc, _, hd⟩, .d r1, .d r2⟩
    | _ => cases hx0
theorem ref_of_pair {u : Value} {v x y : AV} (r : Rep ρ s.heap u v) (hv : v = .mk x y ∨ ∃ p q, v = .d (.tuple [p, q]) ∧ x = .d p ∧ y = .d q) : ∃ a, u = .ref a := by
  rcases hv with rfl | ⟨p, q, rfl, rfl, rfl⟩
  · cases r; exact ⟨_, rfl⟩
  · have r0 := rep_d r
    generalize hx0 : PyData.tuple [p, q] = X at r0
    cases r0 with
    | tuple => exact ⟨_, rfl⟩
    | _ => cases hx0
theorem P_assign2 {M' : Program} {i j : Nat} {n m : Str} {p1 p2 p3 : Pos} {k : Nat} {u : Value} {v x y : AV} {loc : Bool} (hh : A.handled = none) (F : Frm hR env vars ρ l T s.heap) (G : Gd w hR ρ L T s) (hi : vars[i]? = some n) (hj : vars[j]? = some m)
    (hk : env.kindOf n = some .local ∨ (loc = false ∧ env.kindOf n = some .cell)) (hk' : env.kindOf m = some .local ∨ (loc = false ∧ env.kindOf m = some .cell)) (r : Rep ρ s.heap u v) (hv : v = .mk x y ∨ ∃ p q, v = .d (.tuple [p, q]) ∧ x = .d p ∧ y = .d q) :
    wpAny (model M' w) A (assign (.Tuple [.Name n p1, .Name m p2] k p3) env u) (fun _ s' => Gd w hR ρ L T s' ∧ Ev (SX env loc) s ρ T s' ρ T ∧ Frm hR env vars ρ ((l.set i (some x)).set j (some y)) T s'.heap) E0 s := by
  refine e1a1 (ref_of_pair r hv) fun a x10_ => ?_; subst x10_
  refine e2a3 (pair_of r hv) fun u1 u2 ht r1 r2 => ?_
  refine wpAny_assign_Tuple hh ht rfl rfl fun h₁ he₁ => ?_
  have kp : ∀ b o, s.heap.get? b = some o → h₁.get? b = some o := fun b o e => he₁ b o (Nat.ne_of_lt (Heap.lt_size e)) e
  have x13_ := G.keepAll (s' := { s with heap := h₁ }) rfl rfl kp; have G1 := x13_.1; have E1 := x13_.2
  have F1 := F.ev E1
  show wpAny _ _ (assignInOrder [assign (.Name n p1) env, assign (.Name m p2) env] [u1, u2]) _ _ _
  refine assignInOrder_cons (PyProof.Rows.assign_Name (wpAny_mono (P_storeX (loc := loc) F1 G1 hi hk (E1.rep r1)) (fun _ s2 h2 => ?_) fun _ _ e => e))
  have G2 := h2.1; have E2 := h2.2.1; have F2 := h2.2.2
  refine assignInOrder_cons (PyProof.Rows.assign_Name (wpAny_mono (P_storeX (loc := loc) F2 G2 hj hk' (E2.rep (E1.rep r2))) (fun _ s3 h3 => ?_) fun _ _ e => e))
  have G3 := h3.1; have E3 := h3.2.1; have F3 := h3.2.2
  exact assignInOrder_nil ⟨G3, ((E1.mono fun _ h => h.elim).trans E2).trans E3, F3⟩
end
end Mine
end
section
open PySem.Calls
set_option tactic.hygienic false
namespace Mine
theorem wpE0 {α : Type} {M' : Model} {A : Around} {t : Sem α} {P P' : α → Shared → Prop} {E : Value → Shared → Prop} {s : Shared} (h : wpAny M' A t P E0 s) (k : ∀ a s', P a s' → P' a s') : wpAny M' A t P' E s := wpAny_mono h k fun _ _ e => e.elim
theorem Ev.step {X : Addr → Prop} {s1 s2 s3 : Shared} {r1 r2 r3 : RefMap} {T1 T2 T3 : Tm} (x : Ev no s1 r1 T1 s2 r2 T2) (y : Ev X s2 r2 T2 s3 r3 T3) (hX : ∀ q, X q → s1.heap.get? q = none) : Ev no s1 r1 T1 s3 r3 T3 :=
  ((x.mono fun _ z => z.elim).trans y).drop fun q o e z => by rw [hX q z] at e; cases e
section
variable {c : Cx} {sc : Scope} {vars : List Str} {A : Around} {env : Env} {ρ ρ' ρ₀ : RefMap} {l : Loc} {L L' : List AO} {T T' T₀ : Tm} {s s' s₀ : Shared}
theorem P_capp {D : Addr} {done : List AV} {u : Value} {x : AV} (G : Gd c.w c.hR ρ L T s) (hD : T D = some (.list done)) (hl : done.length < lid) (r : Rep ρ s.heap u x) :
    wpAny (M c) A (call (.builtin "list.append") [.ref D, u]) (fun _ s' => Gd c.w c.hR ρ L (upd T D (.list (done ++ [x]))) s' ∧ Ev no s ρ T s' ρ (upd T D (.list (done ++ [x])))) E0 s := by
  obtain ⟨_, hl', ws, n, h4, h5⟩ := (G.ob.tmp D _ hD).1
  have ow : Own ρ T D := .inr (by rw [hD]; rfl)
  refine e1a2 (G.ob.notTup ow) fun od hod hnt => ?_
  have hs : Heap.SameBut D s.heap (s.heap.update D (Obj.mapSeq fun xs => xs.push u)) := Heap.SameBut.update ..
  have ts : TupStay s.heap (s.heap.update D (Obj.mapSeq fun xs => xs.push u)) := fun b o' e' ht => (hs.2 b (by rintro rfl; rw [hod] at e'; cases e'; exact hnt ht)).trans e'
  obtain ⟨G', E'⟩ := G.setT (s' := { s with heap := s.heap.update D (Obj.mapSeq fun xs => xs.push u), toks := s.toks }) hD hs rfl rfl (o := .list (done ++ [x]))
    ⟨rfl, by simp; lia, ws ++ [u], _, by have := IsL.update (n := n) h4 (fun xs => xs.push u); simpa using this, (h5.append (.cons r .nil)).stay ts fun _ _ e => e⟩ trivial
  exact call_meets PySem.F.slot_list_append (IsL.isList h4).typeIs PySem.F.entry_list_append (PySem.F.args_list_append_2 _ _) (list_append D ws.toArray n u (by rw [List.size_toArray, h5.length]; exact lid_fits (Nat.le_of_lt hl))) ⟨h4, G', E'⟩
noncomputable def TestOk (c : Cx) (sc : Scope) (vars : List Str) (ifs : List PySem.Expr) (k : C) : Prop :=
  ∀ {A env ρ l L T s Q}, Go c sc vars A env ρ l L T s → wpC c k l L T Q → wpAny (M c) A (forIn ifs true fun c r => if r = true then do let ok ← isTrue c env (eval c env); pure (ForInStep.yield ok) else pure (ForInStep.yield r)) (BkB c s ρ T Q) E0 s
theorem test_nil : TestOk c sc vars [] .tt := by
  intro A env ρ l L T s Q g w
  exact wpAny_tests_nil (bkB_now g.G w)
theorem test_one {t : PySem.Expr} {k : C} (h : COk c sc vars t k) : TestOk c sc vars [t] k := by
  intro A env ρ l L T s Q g w
  exact wpAny_tests_one (h g w)
noncomputable def tgExpr (two : Bool) (tg : PySem.Expr) (env : Env) (cv : List Str) : Prop := match two, tg with
  | false, .Name n _ => cv[0]? = some n ∧ env.kindOf n = some .local
  | true, .Tuple [.Name n _, .Name m _] _ _ => cv[0]? = some n ∧ env.kindOf n = some .local ∧ cv[1]? = some m ∧ env.kindOf m = some .local
  | _, _ => False
noncomputable def LoopAt (c : Cx) (env : Env) (cv : List Str) (s₀ : Shared) (ρ₀ : RefMap) (T₀ : Tm) (I D : Addr) (two : Bool) (lv : Option (AV × List AV)) (k : C) (elt : E) (K : LT) (n : Nat) (s : Shared) : Prop :=
  ∃ rest done ρ l L T, n = rest.length ∧ Gd c.w c.hR ρ L T s ∧ Ev no s₀ ρ₀ T₀ s ρ T ∧ Frm c.hR env cv ρ l T s.heap ∧ ItOk c ρ T s I lv rest ∧
    wpCp D two lv (fun l' L2 T2 K => wpC c.dn k l' L2 T2 K) (fun l' L2 T2 K => wpE c.dn elt l' L2 T2 K) rest done l L T K
theorem tgt_two {v : AV} {l : Loc} {K : Loc → Prop} (q : wpTgt true v l K) : ∃ a b, v = .d (.tuple [a, b]) ∧ putNth l 0 (some (.d a)) fun l' => putNth l' 1 (some (.d b)) K := by
  cases v with
  | d x => cases x with
    | tuple xs => cases xs with
      | nil => exact q.elim
      | cons a r => cases r with
        | nil => exact q.elim
        | cons b r => cases r with
          | nil => exact ⟨a, b, rfl, q⟩
          | cons _ _ => exact q.elim
    | _ => exact q.elim
  | _ => exact q.elim
theorem notNs {h h' : Heap} {a : Addr} {m : Str → Option Value} (x : h.Ns a m) (k : ∀ o, h.get? a = some o → h'.get? a = some o) : h'.Ns a m := by
  refine e3a4 x fun o es ep h1 h2 h3 h4 => ?_
  exact ⟨o, es, ep, k o h1, h2, h3, h4⟩
theorem comp_elt {cv : List Str} {el : PySem.Expr} {k : C} {elt : E} {I D : Addr} {two : Bool} {lv : Option (AV × List AV)} {K : LT} {rest done : List AV} {E1 : Value → Shared → Prop}
    (R : Room c.dn.n A) (S : Stat c.w c.hR) (hsc : env.scope = sc) (he : EOk c.dn sc cv el elt)
    (G : Gd c.w c.hR ρ L T s) (E' : Ev no s₀ ρ₀ T₀ s ρ T) (F : Frm c.hR env cv ρ l T s.heap) (x : ItOk c ρ T s I lv rest)
    (w : wpE c.dn elt l L T fun x L2 T2 => T2 D = some (.list done) ∧ done.length < lid ∧ wpCp D two lv (fun l' L2 T2 K => wpC c.dn k l' L2 T2 K) (fun l' L2 T2 K => wpE c.dn elt l' L2 T2 K) rest (done ++ [x]) l L2 (upd T2 D (.list (done ++ [x]))) K) :
    wpAny (M c) A (eval el env) (fun x s₄ => wpAny (M c) A (call (.builtin "list.append") [.ref D, x]) (fun _ s₅ => LoopAt c env cv s₀ ρ₀ T₀ I D two lv k elt K rest.length s₅) E1 s₄) E1 s := by
  refine wpE0 (he ⟨R, S, hsc, F, G⟩ w) ?_
  intro u s₂ x2_; refine e4a6 x2_ fun ρ₂ av L₂ T₂ G₂ E₂ r₂ hD hl q₂ => ?_
  have F₂ := F.ev E₂
  have x₂ := x.ev E₂ id
  refine wpE0 (P_capp G₂ hD hl r₂) ?_
  intro _ s₃ x3_; have G₃ := x3_.1; have E₃ := x3_.2
  exact ⟨rest, _, ρ₂, l, L₂, _, rfl, G₃, (E'.trans E₂).trans E₃, F₂.ev E₃, x₂.ev E₃ id, q₂⟩
theorem comp_body {cv : List Str} {ifs : List PySem.Expr} {el : PySem.Expr} {k : C} {elt : E} {I D : Addr} {two : Bool} {lv : Option (AV × List AV)} {K : LT} {rest done : List AV} {E1 : Value → Shared → Prop}
    (R : Room c.dn.n A) (S : Stat c.w c.hR) (hsc : env.scope = sc) (ht : TestOk c.dn sc cv ifs k) (he : EOk c.dn sc cv el elt)
    (G : Gd c.w c.hR ρ L T s) (E' : Ev no s₀ ρ₀ T₀ s ρ T) (F : Frm c.hR env cv ρ l T s.heap) (x : ItOk c ρ T s I lv rest)
    (w : wpC c.dn k l L T fun b L1 T1 => wpIf b (wpE c.dn elt l L1 T1 fun x L2 T2 => T2 D = some (.list done) ∧ done.length < lid ∧ wpCp D two lv (fun l' L2 T2 K => wpC c.dn k l' L2 T2 K) (fun l' L2 T2 K => wpE c.dn elt l' L2 T2 K) rest (done ++ [x]) l L2 (upd T2 D (.list (done ++ [x]))) K)
      (wpCp D two lv (fun l' L2 T2 K => wpC c.dn k l' L2 T2 K) (fun l' L2 T2 K => wpE c.dn elt l' L2 T2 K) rest done l L1 T1 K)) :
    wpAny (M c) A (forIn ifs true fun c r => if r = true then do let ok ← isTrue c env (eval c env); pure (ForInStep.yield ok) else pure (ForInStep.yield r)) (fun ok s₃ =>
      if ok = true then wpAny (M c) A (eval el env) (fun x s₄ => wpAny (M c) A (call (.builtin "list.append") [.ref D, x]) (fun _ s₅ => LoopAt c env cv s₀ ρ₀ T₀ I D two lv k elt K rest.length s₅) E1 s₄) E1 s₃
      else LoopAt c env cv s₀ ρ₀ T₀ I D two lv k elt K rest.length s₃) E1 s := by
  have nX : ∀ q, no q → s₀.heap.get? q = none := fun _ z => z.elim
  refine wpE0 (ht ⟨R, S, hsc, F, G⟩ w) ?_
  intro b s₁ x4_; refine e3a3 x4_ fun ρ₁ L₁ T₁ G₁ E₁ q => ?_
  have F₁ := F.ev E₁
  have x₁ := x.ev E₁ id
  rcases wpIf_elim q with ⟨rfl, q⟩ | ⟨rfl, q⟩
  · rw [if_pos rfl]
    exact comp_elt R S hsc he G₁ (E'.trans E₁) F₁ x₁ q
  · rw [if_neg Bool.false_ne_true]
    exact ⟨rest, done, ρ₁, l, L₁, T₁, rfl, G₁, E'.trans E₁, F₁, x₁, q⟩
theorem it_notPair {I : Addr} {lv : Option (AV × List AV)} {rest : List AV} (x : ItAt ρ s.heap I lv rest) {elts : List PySem.Expr} {k : Nat} {tp : Pos} {v : Value} {P : Unit → Shared → Prop} {E1 : Value → Shared → Prop} (h : P () s) :
    wpAny (M c) A (letOwnedTupleGo (.Tuple elts k tp) (.ref I) v) P E1 s := by
  unfold letOwnedTupleGo
  have fin : ∀ {o : Obj} {nm : String} {vs : Array Value}, s.heap.get? I = some o → o.cls = .type nm → o.data = .fields vs → ["enumerate", "zip", "dict_itemiterator", "dict_reverseitemiterator", "odict_iterator", "itertools.zip_longest", "itertools.pairwise"].contains nm = false → ∀ a, wpAny (M c) A (do
      let o ← load I
      match o.cls, o.data with
      | .type n, .fields vs =>
        if ["enumerate", "zip", "dict_itemiterator", "dict_reverseitemiterator", "odict_iterator", "itertools.zip_longest", "itertools.pairwise"].contains n && vs[0]? == some (rawInt a) then
          rule "for.unpacks-the-owned-tuple"
          updateField I 0 .none
      | _, _ => pure ()) P E1 s := by
    intro o nm vs ho hc hd hn a
    refine wpAny_bind (wpAny_load ho ?_)
    rw [hc, hd]
    dsimp only
    rw [hn, Bool.false_and, if_neg Bool.false_ne_true]
    exact wpAny_pure h
  cases v <;> first
    | exact wpAny_pure h
    | (cases x with
       | rng a => exact fin a rfl rfl (by decide) _
       | lst i r a => refine e1a3 a fun o h1 h2 h3 => ?_; exact fin h1 h2 h3 (by decide) _
       | tup i a b d => refine e1a3 d fun o h1 h2 h3 => ?_; exact fin h1 h2 h3 (by decide) _)
theorem comp_loop {cv : List Str} {ifs : List PySem.Expr} {el iter tg : PySem.Expr} {scope : Scope} {pos : Pos} {k : C} {elt : E} {I D : Addr} {two : Bool} {lv : Option (AV × List AV)} {K : LT} {R : Result → Shared → Prop}
    (RM : Room c.dn.n A) (S : Stat c.w c.hR) (hsc : env.scope = sc) (ht : TestOk c.dn sc cv ifs k) (he : EOk c.dn sc cv el elt) (htg : tgExpr two tg env cv) (hif : two = true → ifs = [] ∧ k = .tt)
    (hI : s₀.heap.get? I = none) (hC : s₀.heap.get? env.locals = none) (hIF : ¬FA env I)
    (hfin : ∀ ρ' L' T' s', Gd c.w c.hR ρ' L' T' s' → Ev no s₀ ρ₀ T₀ s' ρ' T' → (∃ m, s'.heap.Ns env.locals m) → ¬Own ρ' T' env.locals → K L' T' → R (.ok .next) s')
    {n : Nat} (h : LoopAt c env cv s₀ ρ₀ T₀ I D two lv k elt K n s) :
    codeAny (M c) A (.compLoop (.ListComp el [⟨tg, iter, ifs, 0⟩] scope pos) 0 (.ref I) (.ref D) env) R s := by
  have hCI : env.locals ≠ I := fun e => hIF (.inl e.symm)
  have done' : ∀ {s ρ L T} {lv' : Option (AV × List AV)} {l : Loc}, Gd c.w c.hR ρ L T s → Ev no s₀ ρ₀ T₀ s ρ T → Frm c.hR env cv ρ l T s.heap → ∀ {s'}, Gd c.w c.hR ρ L T s' → K L T → Heap.ExtBut I s.heap s'.heap ∧ s'.os = s.os → R (.ok .next) s' := by
    intro s ρ L T lv' l G E' F s' G' q ⟨h1, h2⟩
    refine hfin _ _ _ _ G' (E'.tail hI h1 h2) ?_ (F.addr _ (.inl rfl)).1 q
    refine e1a2 F.slot fun m hn _ => ?_
    exact ⟨m, notNs hn fun o e => h1 _ o hCI e⟩
  cases two with
  | false =>
    cases tg with
    | Name nm p =>
      have t1 := htg.1; have t2 := htg.2
      refine codeAny_compLoop_tests (LoopAt c env cv s₀ ρ₀ T₀ I D false lv k elt K) (fun n s hn => ?_) n h
      refine e6a6 hn fun rest done ρ l L T x6_ G E' F x w => ?_; subst x6_
      cases rest with
      | nil =>
        refine wpE0 (P_next RM G x w) ?_
        intro r s₁ x7_; have G₁ := x7_.1; have x8_ := x7_.2.1; have z := x7_.2.2; have q := x8_.2
        cases r with
        | some u => exact z.elim
        | none => exact done' (lv' := lv) G E' F G₁ q z
      | cons v rest =>
        refine wpE0 (P_next RM G x w) ?_
        intro r s₁ x9_; have G₁ := x9_.1; have q := x9_.2.1; have z := x9_.2.2
        cases r with
        | none => exact z.elim
        | some u =>
          have E₁ := z.1; have r₁ := z.2.1; have x₁ := z.2.2
          have F₁ := F.evX E₁ fun a ha e => hIF (e ▸ ha)
          have x10_ := putNth_elim q; have hi := x10_.1; have q := x10_.2
          refine PyProof.Rows.assign_Name (wpE0 (P_storeL F₁ G₁ t1 t2 r₁) ?_)
          intro _ s₂ x11_; have G₂ := x11_.1; have E₂ := x11_.2.1; have F₂ := x11_.2.2
          have := comp_body (E1 := notedBy (M c) A env fun e s' => R (.error e) s') RM S hsc ht he G₂ ((E'.step E₁ fun q e => e ▸ hI).step E₂ fun q e => e ▸ hC) F₂ (x₁.ev E₂ fun e => hCI e.symm) q
          refine wpAny_mono this (fun ok s₃ h₃ => ?_) fun _ _ e => e
          split
          · rename_i hok
            rw [if_pos hok] at h₃
            exact wpAny_mono h₃ (fun u s₄ h₄ => wpAny_mono h₄ (fun _ s₅ h₅ => ⟨_, Nat.lt_succ_self _, h₅⟩) fun _ _ e => e) fun _ _ e => e
          · rename_i hok
            rw [if_neg hok] at h₃
            exact ⟨_, Nat.lt_succ_self _, h₃⟩
    | _ => exact htg.elim
  | true =>
    have x12_ := hif rfl; have hifs := x12_.1; have hk := x12_.2
    subst hifs; subst hk
    obtain ⟨n1, n2, p1, p2, kk, tp, rfl, t1, t2, t3, t4⟩ : ∃ n1 n2 p1 p2 kk tp, tg = .Tuple [.Name n1 p1, .Name n2 p2] kk tp ∧ cv[0]? = some n1 ∧ env.kindOf n1 = some .local ∧ cv[1]? = some n2 ∧ env.kindOf n2 = some .local := by
      cases tg with
      | Tuple es kk tp =>
        cases es with
        | nil => exact htg.elim
        | cons a r => cases r with
          | nil => cases a <;> exact htg.elim
          | cons b r => cases a with
            | Name n1 p1 => cases b with
              | Name n2 p2 => cases r with
                | nil => exact ⟨_, _, _, _, _, _, rfl, htg⟩
                | cons _ _ => exact htg.elim
              | _ => exact htg.elim
            | _ => exact htg.elim
      | _ => exact htg.elim
    refine LCp.codeAny_compLoop_pair (LoopAt c env cv s₀ ρ₀ T₀ I D true lv .tt elt K) (fun n s hn => ?_) n h
    refine e6a6 hn fun rest done ρ l L T x13_ G E' F x w => ?_; subst x13_
    cases rest with
    | nil =>
      refine wpE0 (P_next RM G x w) ?_
      intro r s₁ x14_; have G₁ := x14_.1; have x15_ := x14_.2.1; have z := x14_.2.2; have q := x15_.2
      cases r with
      | some u => exact z.elim
      | none => exact done' (lv' := lv) G E' F G₁ q z
    | cons v rest =>
      refine wpE0 (P_next RM G x w) ?_
      intro r s₁ x16_; have G₁ := x16_.1; have q := x16_.2.1; have z := x16_.2.2
      cases r with
      | none => exact z.elim
      | some u =>
        have E₁ := z.1; have r₁ := z.2.1; have x₁ := z.2.2
        have F₁ := F.evX E₁ fun a ha e => hIF (e ▸ ha)
        refine it_notPair x₁.at_ ?_
        refine e2a2 (tgt_two q) fun a b x17_ q => ?_; subst x17_
        have x19_ := putNth_elim q; have hi := x19_.1; have q := x19_.2
        have x20_ := putNth_elim q; have hi' := x20_.1; have q := x20_.2
        refine wpE0 (P_assign2 (loc := true) RM.h F₁ G₁ t1 t3 (.inl t2) (.inl t4) r₁ (.inr ⟨_, _, rfl, rfl, rfl⟩)) ?_
        intro _ s₂ x21_; have G₂ := x21_.1; have E₂ := x21_.2.1; have F₂ := x21_.2.2
        have := comp_elt (E1 := notedBy (M c) A env fun e s' => R (.error e) s') RM S hsc he G₂ ((E'.step E₁ fun q e => e ▸ hI).step E₂ fun q e => (show q = env.locals from e) ▸ hC) F₂ (x₁.ev E₂ fun e => hCI (show I = env.locals from e).symm) q
        exact wpAny_mono this (fun u s₄ h₄ => wpAny_mono h₄ (fun _ s₅ h₅ => ⟨_, Nat.lt_succ_self _, h₅⟩) fun _ _ e => e) fun _ _ e => e
end
end Mine
end
section
open PySem.Calls
set_option tactic.hygienic false
namespace Mine
noncomputable def clOf (cells : List (Str × Addr)) : List (Str × NameKind) → List (Str × Addr) → List (Str × Addr)
  | [], acc => acc
  | (n, k) :: r, acc => clOf cells r (if k == .free then (n, (cells.lookup n).getD 0) :: acc else acc)
theorem clos_pure {scope : Scope} {env : Env} (h : ∀ x ∈ scope.names, x.2 = .free → ∃ a, env.cells.lookup x.1 = some a) : closureFor scope env = pure (clOf env.cells scope.names []) := by
  unfold closureFor
  have k : ∀ (names : List (Str × NameKind)) (acc : List (Str × Addr)), (∀ x ∈ names, x.2 = .free → ∃ a, env.cells.lookup x.1 = some a) →
      (forIn names acc fun (x : Str × NameKind) cs => (match x with | (name, kind) => if kind == .free then do let a ← cellOf env name; pure (ForInStep.yield ((name, a) :: cs)) else pure (ForInStep.yield cs) : Sem (ForInStep (List (Str × Addr))))) = pure (clOf env.cells names acc) := by
    intro names
    induction names with
    | nil => intro acc _; rfl
    | cons x r ih =>
      intro acc h
      obtain ⟨n, k⟩ := x
      rw [List.forIn_cons]
      cases hk : (k == NameKind.free) with
      | true =>
        obtain ⟨a, ha⟩ := h (n, k) (.head _) (beq_iff_eq.mp hk)
        have e : cellOf env n = pure a := by unfold cellOf; rw [ha]
        simp only [hk, if_true, e, pure_bind, clOf, ha, Option.getD_some]
        exact ih _ fun x hx => h x (.tail _ hx)
      | false =>
        simp only [hk, Bool.false_eq_true, if_false, pure_bind, clOf]
        exact ih _ fun x hx => h x (.tail _ hx)
  have e := k scope.names [] h
  simp only [bind_pure]
  refine Eq.trans ?_ e
  congr 1
theorem cl_mem {cells : List (Str × Addr)} : ∀ {names : List (Str × NameKind)} {acc : List (Str × Addr)}, (∀ x ∈ names, x.2 = .free → ∃ a, cells.lookup x.1 = some a) → ∀ p ∈ clOf cells names acc, p ∈ acc ∨ p ∈ cells
  | [], _, _, p, hp => .inl hp
  | (n, k) :: r, acc, h, p, hp => by
    unfold clOf at hp
    rcases cl_mem (fun x hx => h x (.tail _ hx)) p hp with q | q
    · split at q
      · rename_i hk
        rcases List.mem_cons.mp q with rfl | q
        · refine e1a1 (h (n, k) (.head _) (beq_iff_eq.mp hk)) fun a ha => ?_
          dsimp only at ha
          rw [ha]; exact .inr (mem_of_lookup ha)
        · exact .inl q
      · exact .inl q
    · exact .inr q
theorem cl_acc {cells : List (Str × Addr)} : ∀ {names : List (Str × NameKind)} {acc : List (Str × Addr)} {p}, p ∈ acc → p ∈ clOf cells names acc
  | [], _, _, h => h
  | (n, k) :: r, acc, p, h => by
    unfold clOf
    refine cl_acc ?_
    split
    · exact .tail _ h
    · exact h
theorem cl_free {cells : List (Str × Addr)} {x : Str} {a : Addr} (ha : cells.lookup x = some a) : ∀ {names : List (Str × NameKind)} {acc : List (Str × Addr)}, (x, NameKind.free) ∈ names → (x, a) ∈ clOf cells names acc
  | (n, k) :: r, acc, h => by
    unfold clOf
    rcases List.mem_cons.mp h with e | h
    · cases e
      refine cl_acc ?_
      rw [ha]; exact .head _
    · exact cl_free ha h
theorem cl_nodup {cells : List (Str × Addr)} : ∀ {names : List (Str × NameKind)} {acc : List (Str × Addr)}, (acc.map (·.1) ++ names.map (·.1)).Nodup → ((clOf cells names acc).map (·.1)).Nodup
  | [], _, h => by simpa [clOf] using h
  | (n, k) :: r, acc, h => by
    unfold clOf
    refine cl_nodup ?_
    split
    · rw [List.map_cons, List.cons_append]
      exact (List.perm_middle).nodup_iff.mp h
    · exact h.sublist (List.Sublist.append_left (List.sublist_cons_self _ _) _)
theorem lookup_relab (p : Str → NameKind → Bool) (x : Str) : ∀ names : List (Str × NameKind), (names.map fun (n, k) => if p n k then (n, NameKind.cell) else (n, k)).lookup x = (names.lookup x).map fun k => if p x k then NameKind.cell else k
  | [] => rfl
  | (n, k) :: r => by
    have ih := lookup_relab p x r
    simp only [List.map_cons]
    cases hx : x == n with
    | true =>
      have := beq_iff_eq.mp hx
      subst this
      by_cases hp : p x k = true
      · simp [List.lookup_cons, hp]
      · simp [List.lookup_cons, hp]
    | false =>
      have e : ∀ k', List.lookup x ((n, k') :: (r.map fun (n, k) => if p n k then (n, NameKind.cell) else (n, k))) = (r.map fun (n, k) => if p n k then (n, NameKind.cell) else (n, k)).lookup x := fun k' => by simp [List.lookup_cons, hx]
      have e2 : List.lookup x ((n, k) :: r) = r.lookup x := by simp [List.lookup_cons, hx]
      rw [e2, ← ih]
      split <;> exact e _
section
variable {hR : Heap} {env : Env} {vars : List Str} {ρ ρ' : RefMap} {l : Loc} {T T' : Tm} {s s' : Shared} {w : World} {L L' : List AO} {c : Cx} {A : Around} {sc : Scope}
theorem mapM_elim {α β : Type} {f : α → Option β} : ∀ {xs : List α} {r : List β}, xs.mapM f = some r → r.length = xs.length ∧ ∀ (j : Nat) y, r[j]? = some y → ∃ x, xs[j]? = some x ∧ f x = some y
  | [], r, h => by
    have : r = [] := by simpa [List.mapM_nil] using h.symm
    subst this; exact ⟨rfl, fun j y e => by simp at e⟩
  | x :: xs, r, h => by
    rw [List.mapM_cons] at h
    cases hx : f x with
    | none => rw [hx] at h; cases h
    | some y =>
      rw [hx] at h
      cases hr : xs.mapM f with
      | none => rw [hr] at h; cases h
      | some ys =>
        rw [hr] at h
        cases h
        obtain ⟨h1, h2⟩ := mapM_elim hr
        refine ⟨by simp [h1], fun j z e => ?_⟩
        cases j with
        | zero => simp at e; subst e; exact ⟨x, rfl, hx⟩
        | succ j => exact h2 j z (by simpa using e)
noncomputable def tgLen (two : Bool) : Nat := if two then 2 else 1
theorem inner_elim {two : Bool} {frs : List Nat} {l l0 : Loc} (h : inner two frs l = some l0) : l0.length = tgLen two + frs.length ∧ ∀ (j : Nat) v, l0[j]? = some (some v) → ∃ j' i, j = tgLen two + j' ∧ frs[j']? = some i ∧ l[i]? = some (some v) := by
  unfold inner at h
  cases two with
  | false =>
    refine e1a2 (Option.map_eq_some_iff.mp h) fun r hr x2_ => ?_; subst x2_
    have x4_ := mapM_elim hr; have h1 := x4_.1; have h2 := x4_.2
    refine ⟨by simp [h1, tgLen, Nat.add_comm], fun j v e => ?_⟩
    cases j with
    | zero => simp at e
    | succ j =>
      obtain ⟨i, h3, h4⟩ := h2 j _ (by simpa using e)
      exact ⟨j, i, by simp [tgLen, Nat.add_comm], h3, by rw [nth_eq] at h4; exact h4⟩
  | true =>
    refine e1a2 (Option.map_eq_some_iff.mp h) fun r hr x5_ => ?_; subst x5_
    have x7_ := mapM_elim hr; have h1 := x7_.1; have h2 := x7_.2
    refine ⟨by simp [h1, tgLen]; lia, fun j v e => ?_⟩
    cases j with
    | zero => simp at e
    | succ j => cases j with
      | zero => simp at e
      | succ j =>
        obtain ⟨i, h3, h4⟩ := h2 j _ (by simpa using e)
        exact ⟨j, i, by simp [tgLen]; lia, h3, by rw [nth_eq] at h4; exact h4⟩
structure CompFacts (sc : Scope) (vars : List Str) (scope : Scope) (tg cv : List Str) (frs : List Nat) : Prop where
  kind : scope.kind = .function
  nocell : ∀ x ∈ scope.names, x.2 ≠ .cell
  locs : ∀ x ∈ scope.names, x.2 = .local → scope.names.lookup x.1 = some .local
  outer : sc.kind = .function
  frees : ∀ x ∈ scope.names, x.2 = .free → sc.names.lookup x.1 = some .cell
  tgs : ∀ x ∈ tg, scope.names.lookup x = some .local
  cvE : cv = tg ++ frs.map fun i => vars.getD i ""
  lt : ∀ i ∈ frs, i < vars.length
  fr : ∀ i ∈ frs, scope.names.lookup (vars.getD i "") = some .free ∧ sc.names.lookup (vars.getD i "") = some .cell
  nodup : cv.Nodup
  names : (scope.names.map (·.1)).Nodup
theorem compFacts {scope : Scope} {tg cv : List Str} {frs : List Nat} (h : compOk sc vars scope tg cv frs = true) : CompFacts sc vars scope tg cv frs := by
  unfold compOk at h
  simp only [Bool.and_eq_true, List.all_eq_true, beq_iff_eq, bne_iff_ne, ne_eq, Bool.or_eq_true, decide_eq_true_eq] at h
  obtain ⟨⟨⟨⟨⟨⟨⟨⟨⟨⟨h1, h2⟩, h3⟩, h4⟩, h5⟩, h6⟩, h7⟩, h8⟩, h9⟩, h10⟩, h11⟩ := h
  refine ⟨h1, h2, fun x hx e => (h3 x hx).elim (fun q => absurd e q) id, h4, fun x hx e => (h5 x hx).elim (fun q => absurd e q) id, h6, h7, h8, h9, h10, h11⟩
theorem comp_frame {scope : Scope} {tg cv : List Str} {frs : List Nat} {two : Bool} {l0 : Loc} {C : Addr} (F : Frm hR env vars ρ l T s.heap) (hs : env.scope = sc) (X : CompFacts sc vars scope tg cv frs) (hl0 : inner two frs l = some l0) (htl : tg.length = tgLen two)
    (E : Ev no s ρ T s' ρ' T') (hn : s'.heap.Ns C fun _ => none) (hC : s.heap.get? C = none) (hRC : hR.get? C = none) (hown : ¬Own ρ' T' C) :
    closureFor scope env = pure (clOf env.cells scope.names []) ∧ Frm hR (compEnvC scope (clOf env.cells scope.names []) C env) cv ρ' l0 T' s'.heap := by
  have F' := F.ev E
  have ko : ∀ x, env.kindOf x = sc.names.lookup x := fun x => by unfold Env.kindOf; rw [hs]
  have fr0 : ∀ x ∈ scope.names, x.2 = .free → ∃ a, env.cells.lookup x.1 = some a := fun x hx e => by
    refine e2a2 (F.cells x.1 ((ko _).trans (X.frees x hx e))) fun a u ha _ => ?_
    exact ⟨a, ha⟩
  have sub : ∀ p ∈ clOf env.cells scope.names [], p ∈ env.cells := fun p hp => (cl_mem fr0 p hp).elim (fun q => nomatch q) id
  have nd : ((clOf env.cells scope.names []).map (·.1)).Nodup := cl_nodup (by simpa using X.names)
  have kd : ∀ x, (compEnvC scope (clOf env.cells scope.names []) C env).kindOf x = (scope.names.lookup x).map fun k => if (k == NameKind.free && env.scope.kind == .function && env.kindOf x == some .cell) then NameKind.cell else k := fun x =>
    lookup_relab (fun n k => k == NameKind.free && env.scope.kind == .function && env.kindOf n == some .cell) x scope.names
  refine ⟨clos_pure fr0, ⟨X.kind, F.glob, F.bi, ?_, X.nodup, ⟨_, hn, fun j x v hx hv => ?_⟩, fun x hx => ?_, ?_, fun p hp => ?_, fun a ha => ?_⟩⟩
  · rw [(inner_elim hl0).1, X.cvE, List.length_append, List.length_map, htl]
  · refine e2a3 ((inner_elim hl0).2 j v hv) fun j' i x9_ h1 h2 => ?_; subst x9_
    rw [X.cvE, List.getElem?_append_right (by rw [htl]; exact Nat.le_add_right _ _), htl, Nat.add_sub_cancel_left, List.getElem?_map, h1] at hx
    simp only [Option.map_some, Option.some.injEq] at hx
    have him : i ∈ frs := List.mem_of_getElem? h1
    have hvx : vars[i]? = some x := by
      have := X.lt i him
      rw [← hx]; simp [List.getD, this]
    have x11_ := X.fr i him; have z1 := x11_.1; have z2 := x11_.2
    rw [hx] at z1 z2
    have kc : env.kindOf x = some .cell := (ko x).trans z2
    have kc' : (compEnvC scope (clOf env.cells scope.names []) C env).kindOf x = some .cell := by
      rw [kd, z1, kc, F.kind]; rfl
    refine e1a2 F'.slot fun m _ hsl => ?_
    rcases hsl i x v hvx h2 with ⟨k, _⟩ | ⟨_, cc, u, hc, hcell, r⟩
    · rw [kc] at k; cases k
    · refine .inr ⟨.inl kc', cc, u, ?_, hcell, r⟩
      have : ∀ {names : List (Str × NameKind)}, names.lookup x = some .free → (x, NameKind.free) ∈ names := fun {names} h => by
        induction names with
        | nil => cases h
        | cons y r ih =>
          obtain ⟨n, k⟩ := y
          rw [List.lookup_cons] at h
          split at h
          · rename_i q
            cases h
            rw [beq_iff_eq.mp q]; exact .head _
          · exact .tail _ (ih h)
      exact lookup_of_mem_nodup nd (cl_free hc (this z1))
  · have hx0 := hx
    rw [kd] at hx
    refine e1a2 (Option.map_eq_some_iff.mp hx) fun k hk hk' => ?_
    have hm : ∀ {names : List (Str × NameKind)}, names.lookup x = some k → (x, k) ∈ names := fun {names} h => by
      induction names with
      | nil => cases h
      | cons y r ih =>
        have n := y.1; have k' := y.2
        rw [List.lookup_cons] at h
        split at h
        · rename_i q
          cases h
          rw [beq_iff_eq.mp q]; exact .head _
        · exact .tail _ (ih h)
    have hmem := hm hk
    by_cases hq : (k == NameKind.free && env.scope.kind == .function && env.kindOf x == some .cell) = true
    · simp only [Bool.and_eq_true, beq_iff_eq] at hq
      refine e2a2 (F'.cells x hq.2) fun cc u hc hcell => ?_
      have x15_ := hq.1; have x16_ := x15_.1; subst x16_
      exact ⟨cc, u, lookup_of_mem_nodup nd (cl_free hc hmem), hcell⟩
    · rw [if_neg hq] at hk'
      subst hk'
      exact absurd rfl (X.nocell _ hmem)
  · have : (clOf env.cells scope.names []).Pairwise fun x y => x.1 ≠ y.1 := by
      have := nd; rw [List.Nodup, List.pairwise_map] at this; exact this
    refine this.imp_of_mem fun {x y} hx hy hne e => hne ?_
    exact name_of_addr F.apart (sub x hx) (by rw [e]; exact sub y hy)
  · rintro rfl
    refine e1a1 ((F.addr p.2 (.inr ⟨p.1, sub p hp⟩)).2.2) fun o e => ?_
    have : s.heap.get? p.2 = none := hC
    rw [this] at e; cases e
  · rcases ha with rfl | ⟨n, hm⟩
    · refine e3a2 hn fun o _ _ z _ => ?_
      exact ⟨hown, hRC, ⟨o, z⟩⟩
    · exact F'.addr a (.inr ⟨n, sub _ hm⟩)
end
end Mine
end
section
open PySem.Calls
set_option tactic.hygienic false
namespace Mine
section
variable {c : Cx} {sc : Scope} {vars : List Str} {A : Around} {env : Env} {ρ ρ' ρ₀ : RefMap} {l : Loc} {L L' : List AO} {T T' T₀ : Tm} {s s' s₀ : Shared}
theorem tgOk_elim {scope : Scope} {two : Bool} {tg : PySem.Expr} {cv : List Str} {frs : List Nat} (h : tgOk sc vars scope two tg cv frs = true) : ∃ names, names.length = tgLen two ∧ CompFacts sc vars scope names cv frs ∧ ∀ cl C, tgExpr two tg (compEnvC scope cl C env) cv := by
  cases two with
  | false =>
    replace h : ob (vName tg) (fun q => compOk sc vars scope [q.1] cv frs) = true := h
    replace h := ob_elim h; obtain ⟨⟨n, p⟩, rfl, h⟩ := h
    have X := compFacts h
    refine ⟨_, rfl, X, fun cl C => ⟨by rw [X.cvE]; rfl, lookup_relabel_local (X.tgs _ (.head _))⟩⟩
  | true =>
    replace h : ob (vTup tg) (fun q => ob (l2 q.1) fun r => ob (vName r.1) fun n => ob (vName r.2) fun m => compOk sc vars scope [n.1, m.1] cv frs) = true := h
    replace h := ob_elim h; obtain ⟨⟨l, k, p⟩, rfl, h⟩ := h
    replace h := ob_elim h; obtain ⟨⟨a, b⟩, rfl, h⟩ := h
    replace h := ob_elim h; obtain ⟨⟨n, q⟩, rfl, h⟩ := h
    replace h := ob_elim h; obtain ⟨⟨m, r⟩, rfl, h⟩ := h
    have X := compFacts h
    refine ⟨_, rfl, X, fun cl C => ⟨by rw [X.cvE]; rfl, lookup_relabel_local (X.tgs _ (.head _)), by rw [X.cvE]; rfl, lookup_relabel_local (X.tgs _ (.tail _ (.head _)))⟩⟩
theorem comp_main {two : Bool} {cv : List Str} {frs : List Nat} {it : It} {k : C} {elt : E} {el tg iter : PySem.Expr} {ifs : List PySem.Expr} {scope : Scope} {pos pos' : Pos} {Q : AV → LT} {use : Option (Value → Sem Unit)} {P : Value → Shared → Prop}
    (hit : ItOk' c sc vars iter it) (ht : TestOk c.dn (relabelS scope sc) cv ifs k) (he : EOk c.dn (relabelS scope sc) cv el elt) (htg : tgOk sc vars scope two tg cv frs = true) (hif : two = true → ifs = [] ∧ k = .tt)
    (g : Go c sc vars A env ρ l L T s) (w : wpE c (.comp two cv frs it k elt) l L T Q)
    (hfin : ∀ D C ρ' L' T' s', Gd c.w c.hR ρ' L' T' s' → Ev no s ρ T s' ρ' T' → (∃ m, s'.heap.Ns C m) → s.heap.get? C = none → c.hR.get? C = none → ¬Own ρ' T' C → Q (.tmp D) L' T' → compPost (M c) A E0 use P (.ref D) C (.ok .next) s') :
    wpAny (M c) A (comprehension (.ListComp el [⟨tg, iter, ifs, 0⟩] scope pos) scope env pos' (newList []) false (eval iter env) use) P E0 s := by
  refine e1a3 (tgOk_elim (env := env) htg) fun names hnl X htx => ?_
  have fr0 : ∀ x ∈ scope.names, x.2 = .free → ∃ a, env.cells.lookup x.1 = some a := fun x hx e => by
    obtain ⟨a, u, ha, _⟩ := g.F.cells x.1 (by unfold Env.kindOf; rw [g.sc]; exact X.frees x hx e)
    exact ⟨a, ha⟩
  refine wpAny_comprehension_free (use := use) rfl (fun x => hit.1 env x) (clos_pure fr0) X.kind X.locs ?_
  refine wp0 (hit.2 g w) fun xv s₁ h₁ => wp0 h₁ ?_
  intro itv s₂ x2_; refine e6a6 x2_ fun ρ₂ L₂ T₂ I vs lv x3_ G₂ E₂ x₂ hI q => ?_; subst x3_
  cases hl0 : inner two frs l with
  | none => rw [hl0] at q; exact q.elim
  | some l0 =>
    rw [hl0] at q
    have hc1 := q.1; have q := q.2
    refine wpAny_newList ?_ (by decide)
    have kp : ∀ b o, s₂.heap.get? b = some o → (s₂.heap.push { cls := .type "list", data := .seq ([] : List Value).toArray }).get? b = some o := fun _ _ e => Heap.get?_push_of_some _ e
    have x4_ := G₂.addT (s' := { s₂ with heap := s₂.heap.push { cls := .type "list", data := .seq ([] : List Value).toArray } }) (a := s₂.heap.objs.size) (Nat.le_refl _) rfl rfl kp (o := .list []) ⟨rfl, Nat.zero_le _, [], 0, Heap.get?_push_size _ rfl, .nil⟩ trivial; have hD := x4_.1; have G₃ := x4_.2.1; have E₃ := x4_.2.2
    have q := q _ hD
    generalize hs₃ : ({ s₂ with heap := s₂.heap.push { cls := .type "list", data := .seq ([] : List Value).toArray } } : Shared) = s₃ at G₃ E₃ ⊢
    have hbk : ∀ {b}, s₃.heap.get? b = none → s.heap.get? b = none := fun {b} e => none_back E₂.alive (none_back E₃.alive e)
    refine wpAny_newFunctionEnv X.nocell (by intro y hy; simp at hy) (fun h₁ hns₁ hsb₁ => ?_) X.kind
    have n3 := G₃.new (Nat.le_refl s₃.heap.objs.size)
    have kp3 : ∀ b o, s₃.heap.get? b = some o → h₁.get? b = some o := fun b o e => hsb₁.extBut b o (Nat.ne_of_lt (Heap.lt_size e)) (Heap.get?_push_of_some _ e)
    have x5_ := G₃.keepAll (s' := { s₃ with heap := h₁, toks := s₃.toks + ([] : List (Str × Value)).length }) rfl rfl kp3; have G₄ := x5_.1; have E₄ := x5_.2
    have nOw : ¬Own ρ₂ (upd T₂ s₂.heap.objs.size (.list [])) s₃.heap.objs.size := fun ow => by
      refine e1a2 (G₃.ob.notTup ow) fun _ e _ => ?_
      rw [n3.1] at e; cases e
    have E04 := (E₂.trans E₃).trans E₄
    have hC : s.heap.get? s₃.heap.objs.size = none := hbk n3.1
    have x7_ := comp_frame (C := s₃.heap.objs.size) g.F g.sc X hl0 hnl E04 hns₁ hC n3.2.1 nOw; have F₄ := x7_.2
    have hIne : I ≠ s₃.heap.objs.size := fun e => by
      refine e1a1 ((x₂.ev E₃ id).there) fun o z => ?_
      rw [e, n3.1] at z; cases z
    have hIF : ¬FA (compEnvC scope (clOf env.cells scope.names []) s₃.heap.objs.size env) I := by
      rintro (e | ⟨n, hm⟩)
      · exact hIne e
      · have : (n, I) ∈ env.cells := (cl_mem fr0 _ hm).elim (fun q => nomatch q) id
        refine e1a1 ((g.F.addr I (.inr ⟨n, this⟩)).2.2) fun o z => ?_
        rw [hI] at z; cases z
    have RM : Room c.dn.n A := g.R.dn
    have loop : codeAny (M c) A (.compLoop (.ListComp el [⟨tg, iter, ifs, 0⟩] scope pos) 0 (.ref I) (.ref s₂.heap.objs.size) (compEnvC scope (clOf env.cells scope.names []) s₃.heap.objs.size env))
        (compPost (M c) A E0 use P (.ref s₂.heap.objs.size) s₃.heap.objs.size) { s₃ with heap := h₁, toks := s₃.toks + ([] : List (Str × Value)).length } := by
      refine comp_loop (s₀ := s) (ρ₀ := ρ) (T₀ := T) (sc := relabelS scope sc) (cv := cv) (k := k) (elt := elt) (two := two) (lv := lv) (K := fun L3 T3 => Q (.tmp s₂.heap.objs.size) L3 T3) RM g.S ?_ ht he (htx _ _) hif hI hC hIF (fun ρ' L' T' s' G' E' hn' ow' q' => hfin _ _ ρ' L' T' s' G' E' hn' hC n3.2.1 ow' q')
        (n := vs.length) ⟨vs, [], ρ₂, l0, L₂, _, rfl, G₄, E04, F₄, (x₂.ev E₃ id).ev E₄ id, q⟩
      show relabel scope env = relabelS scope sc
      unfold relabel relabelS Env.kindOf
      rw [g.sc]
    refine codeAny_compStart_list loop ?_
    have xf := ((x₂.ev E₃ id).ev E₄ id).at_
    cases xf with
    | rng a => exact wpAny_pyIter_rangeiter a loop
    | lst i r a => exact wpAny_pyIter_listiter a loop
    | tup i a b d => exact wpAny_pyIter_tupleiter d loop
theorem s_comp {two : Bool} {cv : List Str} {frs : List Nat} {it : It} {k : C} {elt : E} {el tg iter : PySem.Expr} {ifs : List PySem.Expr} {scope : Scope} {pos : Pos}
    (hit : ItOk' c sc vars iter it) (ht : TestOk c.dn (relabelS scope sc) cv ifs k) (he : EOk c.dn (relabelS scope sc) cv el elt) (htg : tgOk sc vars scope two tg cv frs = true) (hif : two = true → ifs = [] ∧ k = .tt) :
    EOk c sc vars (.ListComp el [⟨tg, iter, ifs, 0⟩] scope pos) (.comp two cv frs it k elt) := by
  intro A env ρ l L T s Q g w
  rw [eval_ListComp]
  refine comp_main (use := none) hit ht he htg hif g w fun D C ρ' L' T' s' G' E' ⟨m, hn⟩ hC hRC ow q => ⟨m, hn, fun h' hs' => ?_⟩
  have nt : ∀ o, s'.heap.get? C = some o → ¬TupObj o := by
    refine e3a3 hn fun o es ep ho hd _ => ?_
    intro o' ho'; rw [ho] at ho'; cases ho'; exact not_tup_dict hd
  have G2 : Gd c.w c.hR ρ' L' T' { s' with heap := h' } := G'.stayG (fun a => a = C) (fun b hb => by subst hb; exact ⟨ow, hRC, nt⟩) rfl fun b o hb e => (hs'.2 b hb).trans e
  exact ⟨ρ', _, L', T', G2, E'.tail hC (fun b o hb e => (hs'.2 b hb).trans e) rfl, .tmp, q⟩
end
end Mine
end
section
open PySem.Calls
set_option tactic.hygienic false
namespace Mine
noncomputable def SPost (c : Cx) (env : Env) (vars : List Str) (s : Shared) (ρ : RefMap) (T : Tm) (K : Loc → LT) (R : AV → LT) (f : Flow) (s' : Shared) : Prop := match f with
  | .next => ∃ ρ' l' L' T', Gd c.w c.hR ρ' L' T' s' ∧ Ev (FA env) s ρ T s' ρ' T' ∧ Frm c.hR env vars ρ' l' T' s'.heap ∧ K l' L' T'
  | .ret v => ∃ ρ' av L' T', Gd c.w c.hR ρ' L' T' s' ∧ Ev (FA env) s ρ T s' ρ' T' ∧ Rep ρ' s'.heap v av ∧ R av L' T'
  | _ => False
noncomputable def SOk (c : Cx) (sc : Scope) (vars : List Str) (st : PySem.Stmt) (x : S) : Prop :=
  ∀ {A env ρ l L T s K R}, Go c sc vars A env ρ l L T s → wpS c x l L T K R → wpAny (M c) A (exec st env) (SPost c env vars s ρ T K R) E0 s
noncomputable def SsOk (c : Cx) (sc : Scope) (vars : List Str) (st : List PySem.Stmt) (x : S) : Prop :=
  ∀ {A env ρ l L T s K R}, Go c sc vars A env ρ l L T s → wpS c x l L T K R → wpAny (M c) A (execs st env) (SPost c env vars s ρ T K R) E0 s
theorem Ev.stepY {X Y : Addr → Prop} {s1 s2 s3 : Shared} {r1 r2 r3 : RefMap} {T1 T2 T3 : Tm} (x : Ev Y s1 r1 T1 s2 r2 T2) (y : Ev X s2 r2 T2 s3 r3 T3) (hX : ∀ q, X q → Y q ∨ s1.heap.get? q = none) : Ev Y s1 r1 T1 s3 r3 T3 :=
  ((x.mono (Y := fun q => Y q ∨ X q) fun _ z => .inl z).trans (y.mono fun _ z => .inr z)).drop fun q o e z => z.elim id fun w => (hX q w).elim id fun n => by rw [n] at e; cases e
section
variable {c : Cx} {sc : Scope} {vars : List Str} {A : Around} {env : Env} {ρ ρ' : RefMap} {l l' : Loc} {L L' : List AO} {T T' : Tm} {s s' : Shared} {hR : Heap}
theorem Ev.toF {X : Addr → Prop} (e : Ev no s ρ T s' ρ' T') : Ev X s ρ T s' ρ' T' := e.mono fun _ z => z.elim
theorem Frm.keepF {h h' : Heap} (F : Frm hR env vars ρ l T h) (kp : ∀ a o, FA env a → h.get? a = some o → h'.get? a = some o) (ts : TupStay h h') : Frm hR env vars ρ l T h' := by
  refine ⟨F.kind, F.glob, F.bi, F.len, F.nodup, ?_, ?_, F.apart, F.nl, fun a ha => ⟨(F.addr a ha).1, (F.addr a ha).2.1, let ⟨o, z⟩ := (F.addr a ha).2.2; ⟨o, kp a o ha z⟩⟩⟩
  · refine e1a2 F.slot fun m x1_ hs => ?_; refine e3a4 x1_ fun o es ep h1 h2 h3 h4 => ?_
    refine ⟨m, ⟨o, es, ep, kp _ _ (.inl rfl) h1, h2, h3, h4⟩, fun i x v hx hv => ?_⟩
    rcases hs i x v hx hv with ⟨k, u, hu, r⟩ | ⟨k, c, u, hc, ⟨o, ho, hd⟩, r⟩
    · exact .inl ⟨k, u, hu, r.stay ts fun _ _ e => e⟩
    · exact .inr ⟨k, c, u, hc, ⟨o, kp _ _ (.inr ⟨x, mem_of_lookup hc⟩) ho, hd⟩, r.stay ts fun _ _ e => e⟩
  · intro x hx
    refine e2a2 (F.cells x hx) fun c u hc x3_ => ?_; refine e1a2 x3_ fun o ho hd => ?_
    exact ⟨c, u, hc, ⟨o, kp _ _ (.inr ⟨x, mem_of_lookup hc⟩) ho, hd⟩⟩
theorem SPost.shift {s0 : Shared} {ρ0 : RefMap} {T0 : Tm} {K : Loc → LT} {R : AV → LT} {f : Flow} (e : Ev (FA env) s0 ρ0 T0 s ρ T) (h : SPost c env vars s ρ T K R f s') : SPost c env vars s0 ρ0 T0 K R f s' := by
  cases f with
  | next => refine e4a3 h fun a b d f h1 h2 h3 => ?_; exact ⟨a, b, d, f, h1, e.trans h2, h3⟩
  | ret v => refine e4a3 h fun a b d f h1 h2 h3 => ?_; exact ⟨a, b, d, f, h1, e.trans h2, h3⟩
  | _ => exact h.elim
theorem SPost.kmap {K K' : Loc → LT} {R : AV → LT} {f : Flow} (h : SPost c env vars s ρ T K R f s') (k : ∀ l L T, K l L T → K' l L T) : SPost c env vars s ρ T K' R f s' := by
  cases f with
  | next => refine e4a4 h fun a b d f h1 h2 h3 h4 => ?_; exact ⟨a, b, d, f, h1, h2, h3, k _ _ _ h4⟩
  | ret v => exact h
  | _ => exact h.elim
theorem sp_next {K : Loc → LT} {R : AV → LT} (G : Gd c.w c.hR ρ' L' T' s') (E : Ev (FA env) s ρ T s' ρ' T') (F : Frm c.hR env vars ρ' l' T' s'.heap) (k : K l' L' T') : SPost c env vars s ρ T K R .next s' := ⟨ρ', l', L', T', G, E, F, k⟩
theorem ss_nil : SsOk c sc vars [] .nil := by
  intro A env ρ l L T s K R g w
  exact wpAny_execs_nil (sp_next g.G (Ev.refl ..) g.F w)
theorem ss_cons {st : PySem.Stmt} {r : List PySem.Stmt} {a b : S} (h : SOk c sc vars st a) (h2 : SsOk c sc vars r b) : SsOk c sc vars (st :: r) (.seq a b) := by
  intro A env ρ l L T s K R g w
  refine wpAny_execs_cons (wp0 (h g w) fun f s' z => ?_)
  cases f with
  | next =>
    refine e4a4 z fun ρ' l' L' T' G' E' F' k => ?_
    exact wp0 (h2 ⟨g.R, g.S, g.sc, F', G'⟩ k) fun f s₂ z => z.shift E'
  | ret v => exact z
  | brk => exact z.elim
  | cont => exact z.elim
theorem st_var {i : Nat} {n : Str} (g : Go c sc vars A env ρ l L T s) (h : stOk sc vars i n = true) : vars[i]? = some n ∧ (env.kindOf n = some .local ∨ env.kindOf n = some .cell) := by
  unfold stOk at h
  simp only [Bool.and_eq_true, Bool.or_eq_true, beq_iff_eq] at h
  have k : env.kindOf n = sc.names.lookup n := by unfold Env.kindOf; rw [g.sc]
  rw [k]; exact h
theorem noSwap {v : PySem.Expr} (h : notComp v = true) (t : PySem.Expr) (n : Nat) : swapsWith v (some t) n env = pure false := by
  cases v <;> first | rfl | cases h
theorem noSwap0 {v : PySem.Expr} (h : notComp v = true) (n : Nat) : swapsWith v none n env = pure false := by
  cases v <;> first | rfl | cases h
theorem S_store {i : Nat} {n : Str} {u : Value} {v : AV} {K : Loc → LT} {R : AV → LT} {s0 : Shared} {ρ0 : RefMap} {T0 : Tm} (g : Go c sc vars A env ρ l L T s) (E : Ev no s0 ρ0 T0 s ρ T) (h : stOk sc vars i n = true) (r : Rep ρ s.heap u v) (q : putNth l i (some v) fun l1 => K l1 L T) :
    wpAny (M c) A (storeName env n u) (fun _ s' => SPost c env vars s0 ρ0 T0 K R .next s') E0 s := by
  have x5_ := st_var g h; have h1 := x5_.1; have h2 := x5_.2
  have x6_ := putNth_elim q; have q := x6_.2
  refine wp0 (P_store g.F g.G h1 h2 r) ?_
  intro _ s' x7_; have G' := x7_.1; have E' := x7_.2.1; have F' := x7_.2.2
  exact sp_next G' (E.toF.trans E') F' q
theorem st_asg {i : Nat} {n : Str} {v : PySem.Expr} {p q : Pos} {e : E} (h : stOk sc vars i n = true) (hc : notComp v = true) (h1 : EOk c sc vars v e) : SOk c sc vars (.Assign [.Name n p] v q) (.asg i e) := by
  intro A env ρ l L T s K R g w
  exact wpAny_Assign_Name (h1.then g w fun u av ρ₁ L₁ T₁ s₁ g₁ E₁ r q => S_store g₁ E₁ h r q) (noSwap hc ..)
theorem st_asg2 {i j : Nat} {n m : Str} {v : PySem.Expr} {p1 p2 p3 q : Pos} {k : Nat} {e : E} (h : stOk sc vars i n = true) (h' : stOk sc vars j m = true) (hc : notComp v = true) (ht : notTup v = true) (h1 : EOk c sc vars v e) :
    SOk c sc vars (.Assign [.Tuple [.Name n p1, .Name m p2] k p3] v q) (.asg2 i j e) := by
  intro A env ρ l L T s K R g w
  refine PyProof.Rows.Assign_Tuple (h1.then g w fun u av ρ₁ L₁ T₁ s₁ g₁ E₁ r q => ?_) (by cases v <;> first | rfl | cases hc) (by cases v <;> first | rfl | cases ht)
  have x8_ := st_var g₁ h; have a1 := x8_.1; have a2 := x8_.2
  have x9_ := st_var g₁ h'; have b1 := x9_.1; have b2 := x9_.2
  have fin : ∀ {x y : AV}, (av = .mk x y ∨ ∃ p q, av = .d (.tuple [p, q]) ∧ x = .d p ∧ y = .d q) → (putNth l i (some x) fun l1 => putNth l1 j (some y) fun l2 => K l2 L₁ T₁) →
      wpAny (M c) A (assign (.Tuple [.Name n p1, .Name m p2] k p3) env u) (fun _ s' => SPost c env vars s ρ T K R .next s') E0 s₁ := by
    intro x y hv q
    have x10_ := putNth_elim q; have q := x10_.2
    have x11_ := putNth_elim q; have q := x11_.2
    refine wp0 (P_assign2 (loc := false) g₁.R.h g₁.F g₁.G a1 b1 (a2.imp id fun z => ⟨rfl, z⟩) (b2.imp id fun z => ⟨rfl, z⟩) r hv) ?_
    intro _ s' x12_; have G' := x12_.1; have E' := x12_.2.1; have F' := x12_.2.2
    exact sp_next G' (E₁.toF.trans E') F' q
  split at q
  · exact fin (.inr ⟨_, _, rfl, rfl, rfl⟩) q
  · exact fin (.inl rfl) q
  · exact q.elim
theorem st_setA {o v : PySem.Expr} {p q : Pos} {a : At} {eo ev : E} (hc : notComp v = true) (h1 : EOk c sc vars v ev) (h2 : EOk c sc vars o eo) : SOk c sc vars (.Assign [.Attribute o a.name p] v q) (.setA eo a ev) := by
  intro A env ρ l L T s K R g w
  refine plainObj_wpAny_Assign_Attribute (h1.then g w fun u av ρ₁ L₁ T₁ s₁ g₁ E₁ r q => h2.then g₁ q fun u' av' ρ₂ L₂ T₂ s₂ g₂ E₂ r' q' => ?_) (noSwap hc ..)
  refine wp0 (P_setAttr g₂.S g₂.G r' (E₂.rep r) q') ?_
  intro _ s' x13_; refine e1a3 x13_ fun L' G' E' k => ?_
  exact sp_next G' ((E₁.trans E₂).trans E').toF (g₂.F.ev E') k
theorem st_setI {o i v : PySem.Expr} {p q : Pos} {eo ei ev : E} (hc : notComp v = true) (h1 : EOk c sc vars v ev) (h2 : EOk c sc vars o eo) (h3 : EOk c sc vars i ei) : SOk c sc vars (.Assign [.Subscript o i p] v q) (.setI eo ei ev) := by
  intro A env ρ l L T s K R g w
  refine wpAny_Assign_Subscript (h1.then g w fun u av ρ₁ L₁ T₁ s₁ g₁ E₁ r q => h2.then g₁ q fun u' av' ρ₂ L₂ T₂ s₂ g₂ E₂ r' q' => h3.then g₂ q' fun u'' av'' ρ₃ L₃ T₃ s₃ g₃ E₃ r'' q'' => ?_) (noSwap hc ..)
  refine wp0 (P_setItem (K := fun L T => K l L T) g₃.R g₃.G (E₃.rep r') r'' ((E₂.trans E₃).rep r) q'') ?_
  intro _ s' x14_; refine e2a3 x14_ fun L' T' G' E' k => ?_
  exact sp_next G' (((E₁.trans E₂).trans E₃).trans E').toF (g₃.F.ev E') k
theorem st_augL {i : Nat} {n : Str} {v : PySem.Expr} {p q : Pos} {e : E} (hl : locOk sc vars i n = true) (h : stOk sc vars i n = true) (h1 : EOk c sc vars v e) : SOk c sc vars (.AugAssign (.Name n p) .Add v q) (.augL i e) := by
  intro A env ρ l L T s K R g w
  unfold locOk at hl
  simp only [Bool.and_eq_true, beq_iff_eq, bne_iff_ne, ne_eq] at hl
  have x15_ := hl.1; have l3 := hl.2; have l1 := x15_.1; have l2 := x15_.2
  refine wpAny_AugAssign_Name ?_
  rcases nth_some2 (P := fun x => wpE c e l L T fun v L1 T1 => wpBin .add (.d x) v fun r => putNth l i (some r) fun l1 => K l1 L1 T1) (R := fun u => wpE c e l L T fun v L1 T1 => wpGetL u L1 T1 fun vs => wpGetL v L1 T1 fun ws => (vs ++ ws).length ≤ lid ∧ wpPutL u (vs ++ ws) L1 T1 fun L2 T2 => putNth l i (some u) fun l1 => K l1 L2 T2) w with ⟨x, hx, w⟩ | ⟨u, hx, w⟩
  · refine wp0 (P_load g.F l1 (beq_eq_false_iff_ne.mpr l3) hx) ?_
    intro u s' x16_; have x17_ := x16_.1; have r := x16_.2; subst x17_
    refine h1.then g w fun u' av' ρ₁ L₁ T₁ s₁ g₁ E₁ r' q => ?_
    refine wp0 (P_iadd (Q := fun r L T => putNth l i (some r) fun l1 => K l1 L T) g₁.G (E₁.rep r) r' q) ?_
    intro z s₂ x18_; refine e4a4 x18_ fun ρ₂ av₂ L₂ T₂ G₂ E₂ r₂ q₂ => ?_
    exact S_store (g₁.ev G₂ E₂) (E₁.trans E₂) h r₂ q₂
  · refine wp0 (P_load g.F l1 (beq_eq_false_iff_ne.mpr l3) hx) ?_
    intro uv s' x19_; have x20_ := x19_.1; have r := x19_.2; subst x20_
    refine h1.then g w fun u' av' ρ₁ L₁ T₁ s₁ g₁ E₁ r' q => ?_
    refine e2a3 (getL_elim g₁.G (E₁.rep r) q) fun a vs x21_ Z q => ?_; subst x21_
    obtain ⟨b, ws, rfl, Y, hlen, q⟩ := getL_elim g₁.G r' q
    refine wp0 (P_iaddL (K := fun L T => putNth l i (some u) fun l1 => K l1 L T) g₁.G Z Y hlen q) ?_
    rintro z s₂ ⟨rfl, L₂, T₂, G₂, E₂, q₂⟩
    exact S_store (g₁.ev G₂ E₂) (E₁.trans E₂) h (E₂.rep (E₁.rep r)) q₂
theorem st_augA {o v : PySem.Expr} {p q : Pos} {a : At} {eo ev : E} (h1 : EOk c sc vars o eo) (h2 : EOk c sc vars v ev) : SOk c sc vars (.AugAssign (.Attribute o a.name p) .Add v q) (.augA eo a ev) := by
  intro A env ρ l L T s K R g w
  refine wpAny_AugAssign_AttributeAny (h1.then g w fun u av ρ₁ L₁ T₁ s₁ g₁ E₁ r q => ?_)
  refine wp0 (P_getAttr (Q := fun x L T => wpE c ev l L T fun v L2 T2 => wpBin .add x v fun r => wpSetA av a r L2 fun L3 => K l L3 T2) g₁.S g₁.G r q) ?_
  intro x s₂ x23_; refine e4a4 x23_ fun ρ₂ ax L₂ T₂ G₂ E₂ rx q₂ => ?_
  refine h2.then (g₁.ev G₂ E₂) q₂ fun u' av' ρ₃ L₃ T₃ s₃ g₃ E₃ r' q₃ => ?_
  refine wp0 (P_iadd (Q := fun r L T => wpSetA av a r L fun L3 => K l L3 T) g₃.G (E₃.rep rx) r' q₃) ?_
  intro z s₄ x24_; refine e4a4 x24_ fun ρ₄ az L₄ T₄ G₄ E₄ rz q₄ => ?_
  have g₄ := g₃.ev G₄ E₄
  refine wp0 (P_setAttr g₄.S g₄.G (((E₂.trans E₃).trans E₄).rep r) rz q₄) ?_
  intro _ s' x25_; refine e1a3 x25_ fun L' G' E' k => ?_
  exact sp_next G' ((((E₁.trans E₂).trans E₃).trans E₄).trans E').toF (g₄.F.ev E') k
theorem st_ex {v : PySem.Expr} {q : Pos} {e : E} (hc : notComp v = true) (h1 : EOk c sc vars v e) : SOk c sc vars (.Expr v q) (.ex e) := by
  intro A env ρ l L T s K R g w
  refine wpAny_Expr_any (h1.then g w fun u av ρ₁ L₁ T₁ s₁ g₁ E₁ r q => sp_next g₁.G E₁.toF g₁.F q) ?_ (noSwap0 hc _)
  unfold interactive
  rw [show (env.scope.kind == .module) = false from by rw [g.F.kind]; rfl]
  rfl
theorem st_ret {v : PySem.Expr} {q : Pos} {e : E} (h1 : EOk c sc vars v e) : SOk c sc vars (.Return (some v) q) (.ret e) := by
  intro A env ρ l L T s K R g w
  exact wpAny_Return_some (h1.then g w fun u av ρ₁ L₁ T₁ s₁ g₁ E₁ r q => ⟨ρ₁, av, L₁, T₁, g₁.G, E₁.toF, r, q⟩)
theorem st_retN {q : Pos} : SOk c sc vars (.Return none q) .retN := by
  intro A env ρ l L T s K R g w
  exact wpAny_Return_none ⟨ρ, _, L, T, g.G, Ev.refl .., .d .none, w⟩
theorem st_ite {t : PySem.Expr} {p q : List PySem.Stmt} {pos : Pos} {k : C} {a b : S} (h : COk c sc vars t k) (h1 : SsOk c sc vars p a) (h2 : SsOk c sc vars q b) : SOk c sc vars (.If t p q pos) (.ite k a b) := by
  intro A env ρ l L T s K R g w
  refine wpAny_If (h.then g w fun r ρ₁ L₁ T₁ s₁ g₁ E₁ q => ?_)
  rcases wpIf_elim q with ⟨rfl, q⟩ | ⟨rfl, q⟩
  · exact wp0 (h1 g₁ q) fun _ _ b => b.shift E₁.toF
  · exact wp0 (h2 g₁ q) fun _ _ b => b.shift E₁.toF
theorem st_delLo {v x : PySem.Expr} {p p' q : Pos} {e lo : E} (h1 : EOk c sc vars v e) (h2 : EOk c sc vars x lo) : SOk c sc vars (.Delete [.Subscript v (.Slice (some x) none none p') p] q) (.delLo e lo) := by
  intro A env ρ l L T s K R g w
  refine wpAny_Delete (wpAny_deleteEach_cons (wpAny_delete_Subscript (h1.then g w fun u av ρ₁ L₁ T₁ s₁ g₁ E₁ r q => wpAny_Slice (h2.then g₁ q fun u' av' ρ₂ L₂ T₂ s₂ g₂ E₂ r' q' => wpAny_pure (wpAny_pure ?_)))))
  split at q'
  · rename_i k
    have k0 := q'.1; have k1 := q'.2.1; have q' := q'.2.2
    refine e1a1 (rep_int r') fun t x26_ => ?_; subst x26_
    have x28_ := g₂.G.keepAll (s' := { s₂ with heap := s₂.heap.push { cls := .type "slice", data := .fields #[.int k t, .none, .none] } }) rfl rfl fun _ _ e => Heap.get?_push_of_some _ e; have G' := x28_.1; have E' := x28_.2
    refine e2a3 (getL_elim G' (E'.rep (E₂.rep r)) q') fun a vs x29_ Z q' => ?_; subst x29_
    refine wp0 (P_delLo (K := fun L T => K l L T) Z (Heap.IsSliceOf.new _ _ _ _) k0 q') ?_
    intro _ s' x31_; refine e2a3 x31_ fun L' T' G'' E'' k => ?_
    exact wpAny_deleteEach_nil (sp_next G'' (((E₁.trans E₂).trans E').trans E'').toF ((g₂.F.ev E').ev E'') k)
  · exact q'.elim
end
end Mine
end
section
open PySem.Calls
set_option tactic.hygienic false
namespace Mine
section
variable {c : Cx} {sc : Scope} {vars : List Str} {A : Around} {env : Env} {ρ ρ' : RefMap} {l l' : Loc} {L L' : List AO} {T T' : Tm} {s s' : Shared} {hR : Heap}
noncomputable def WhlAt (c : Cx) (env : Env) (vars : List Str) (s₀ : Shared) (ρ₀ : RefMap) (T₀ : Tm) (k : C) (b : S) (K : Loc → LT) (R : AV → LT) (n : Nat) (s : Shared) : Prop :=
  ∃ ρ l L T, Gd c.w c.hR ρ L T s ∧ Ev (FA env) s₀ ρ₀ T₀ s ρ T ∧ Frm c.hR env vars ρ l T s.heap ∧ wpWhl (fun l' L1 T1 Q => wpC c k l' L1 T1 Q) (fun l' L1 T1 Q => wpS c b l' L1 T1 Q R) n l L T K
theorem st_whl {t : PySem.Expr} {p : List PySem.Stmt} {q : Pos} {k : C} {b : S} (hk : COk c sc vars t k) (hb : SsOk c sc vars p b) : SOk c sc vars (.While t p [] q) (.whl k b) := by
  intro A env ρ l L T s K R g w
  refine e1a1 w fun n w => ?_
  refine wpAny_While (codeAny_whileLoop (WhlAt c env vars s ρ T k b K R) (fun n s' hn => ?_) n ⟨ρ, l, L, T, g.G, Ev.refl .., g.F, w⟩)
  refine e4a4 hn fun ρ1 l1 L1 T1 G1 E1 F1 w => ?_
  cases n with
  | zero => exact w.elim
  | succ n =>
    have g1 : Go c sc vars A env ρ1 l1 L1 T1 s' := ⟨g.R, g.S, g.sc, F1, G1⟩
    refine wpE0 (hk g1 w) ?_
    intro r s2 x1_; refine e3a3 x1_ fun ρ2 L2 T2 G2 E2 q => ?_
    have g2 := g1.ev G2 E2
    rcases wpIf_elim q with ⟨rfl, q⟩ | ⟨rfl, q⟩
    · rw [if_pos rfl]
      refine wpE0 (hb g2 q) fun f s3 z => ?_
      have z := z.shift (E1.trans E2.toF)
      cases f with
      | next => refine e4a4 z fun ρ' l' L' T' G' E' F' k => ?_; exact ⟨n, Nat.lt_succ_self n, ρ', l', L', T', G', E', F', k⟩
      | ret v => exact z
      | brk => exact z.elim
      | cont => exact z.elim
    · rw [if_neg Bool.false_ne_true]
      exact wpAny_execs_nil (sp_next G2 (E1.trans E2.toF) g2.F q)
noncomputable def ForAt (c : Cx) (env : Env) (vars : List Str) (s₀ : Shared) (ρ₀ : RefMap) (T₀ : Tm) (I : Addr) (lv : Option (AV × List AV)) (i : Nat) (b : S) (K : Loc → LT) (R : AV → LT) (n : Nat) (s : Shared) : Prop :=
  ∃ rest ρ l L T, n = rest.length ∧ Gd c.w c.hR ρ L T s ∧ Ev (FA env) s₀ ρ₀ T₀ s ρ T ∧ Frm c.hR env vars ρ l T s.heap ∧ ItOk c ρ T s I lv rest ∧ wpFr lv i (fun l' L2 T2 Q => wpS c b l' L2 T2 Q R) rest l L T K
theorem st_fr {i : Nat} {n : Str} {iter : PySem.Expr} {p : List PySem.Stmt} {pp q : Pos} {it : It} {b : S} (hst : stOk sc vars i n = true) (hit : ItOk' c sc vars iter it) (hb : SsOk c sc vars p b) : SOk c sc vars (.For (.Name n pp) iter p [] q) (.fr i it b) := by
  intro A env ρ l L T s K R g w
  refine wpAny_For (wp0 (hit.2 g w) fun xv s₁ h₁ => wp0 h₁ ?_) (fun x => hit.1 env x)
  intro itv s₂ x2_; refine e6a6 x2_ fun ρ₂ L₂ T₂ I vs lv x3_ G₂ E₂ x₂ hI q => ?_; subst x3_
  have hIF : ¬FA env I := fun ha => by refine e1a1 ((g.F.addr I ha).2.2) fun o z => ?_; rw [hI] at z; cases z
  refine codeAny_forLoop (ForAt c env vars s ρ T I lv i b K R) (fun n s' hn => ?_) vs.length ⟨vs, ρ₂, l, L₂, T₂, rfl, G₂, E₂.toF, g.F.ev E₂, x₂, q⟩
  refine e5a6 hn fun rest ρ₃ l₃ L₃ T₃ x5_ G₃ E₃ F₃ x₃ w₃ => ?_; subst x5_
  cases rest with
  | nil =>
    refine wpE0 (P_next g.R G₃ x₃ w₃) ?_
    intro r s₄ x6_; have G₄ := x6_.1; have q := x6_.2.1; have z := x6_.2.2
    cases r with
    | some u => exact z.elim
    | none =>
      have z1 := z.1; have z2 := z.2
      refine wpAny_execs_nil (sp_next G₄ (E₃.tail hI z1 z2) (F₃.keepF (fun a o ha ho => z1 a o (fun e => hIF (e ▸ ha)) ho) ?_) q)
      exact fun a o e ht => z1 a o (fun h => x₃.at_.notTup o (h ▸ e) ht) e
  | cons v rest =>
    refine wpE0 (P_next g.R G₃ x₃ w₃) ?_
    intro r s₄ x7_; have G₄ := x7_.1; have q := x7_.2.1; have z := x7_.2.2
    cases r with
    | none => exact z.elim
    | some u =>
      have E₄ := z.1; have r₄ := z.2.1; have x₄ := z.2.2
      have F₄ := F₃.evX E₄ fun a ha e => hIF (e ▸ ha)
      have E₄' := E₃.stepY E₄ fun q e => .inr (e ▸ hI)
      have x8_ := putNth_elim q; have hi := x8_.1; have q := x8_.2
      have x9_ := st_var (⟨g.R, g.S, g.sc, F₄, G₄⟩ : Go c sc vars A env ρ₃ l₃ L₃ T₃ s₄) hst; have a1 := x9_.1; have a2 := x9_.2
      refine PyProof.Rows.assign_Name (wpE0 (P_store F₄ G₄ a1 a2 r₄) ?_)
      intro _ s₅ x10_; have G₅ := x10_.1; have E₅ := x10_.2.1; have F₅ := x10_.2.2
      refine wpE0 (hb ⟨g.R, g.S, g.sc, F₅, G₅⟩ q) fun f s₆ z => ?_
      cases f with
      | next =>
        refine e4a4 z fun ρ' l' L' T' G' E' F' k => ?_
        exact ⟨_, Nat.lt_succ_self _, rest, ρ', l', L', T', rfl, G', (E₄'.trans E₅).trans E', F', (x₄.ev E₅ hIF).ev E' hIF, k⟩
      | ret v => exact SPost.shift (E₄'.trans E₅) z
      | brk => exact z.elim
      | cont => exact z.elim
theorem st_asgc {i : Nat} {n : Str} {p q : Pos} {two : Bool} {cv : List Str} {frs : List Nat} {it : It} {k : C} {elt : E} {el tg iter : PySem.Expr} {ifs : List PySem.Expr} {scope : Scope} {pos : Pos}
    (hst : stOk sc vars i n = true) (hsw : swapB sc (.ListComp el [⟨tg, iter, ifs, 0⟩] scope pos) n p.line pos.line = true)
    (hit : ItOk' c sc vars iter it) (ht : TestOk c.dn (relabelS scope sc) cv ifs k) (he : EOk c.dn (relabelS scope sc) cv el elt) (htg : tgOk sc vars scope two tg cv frs = true) (hif : two = true → ifs = [] ∧ k = .tt) :
    SOk c sc vars (.Assign [.Name n p] (.ListComp el [⟨tg, iter, ifs, 0⟩] scope pos) q) (.asg i (.comp two cv frs it k elt)) := by
  intro A env ρ l L T s K R g w
  have hsw' : swapsWith (.ListComp el [⟨tg, iter, ifs, 0⟩] scope pos) (some (.Name n p)) q.line env = pure true := by
    replace hsw : (sc.kind == .function && sc.names.lookup n == some .local && p.line == pos.line && !(scope.names.any fun (m, k) => m == n && (k == .local || k == .cell))) = true := hsw
    simp only [Bool.and_eq_true, beq_iff_eq] at hsw
    have x11_ := hsw.1; have h4 := hsw.2; have x12_ := x11_.1; have h3 := x11_.2; have h1 := x12_.1; have h2 := x12_.2
    have k1 : env.kindOf n = some .local := by unfold Env.kindOf; rw [g.sc]; exact h2
    have k2 : env.blockKind = .function := by unfold Env.blockKind; rw [g.F.kind]; rfl
    show (pure (env.blockKind == .function && env.kindOf n == some .local && p.line == pos.line && !(scope.names.any fun (m, k) => m == n && (k == .local || k == .cell))) : Sem Bool) = pure true
    rw [k1, k2, h3, h4]
    simp
  rw [exec_Assign_Name_used _ _ _ _ hsw']
  refine wpAny_bind (wpAny_standAt (wpAny_bind ?_))
  show wpAny _ A (do let _ ← comprehension (.ListComp el [⟨tg, iter, ifs, 0⟩] scope pos) scope env _ (newList []) false (eval iter env) (some (assign (.Name n p) env))) _ _ s
  refine wpAny_bind (wp0 (comp_main (use := some (assign (.Name n p) env)) (P := fun _ s' => SPost c env vars s ρ T K R .next s') hit ht he htg hif g w (fun D C ρ' L' T' s' G' E' ⟨m, hn⟩ hC hRC ow q => ?_)) fun _ s' hq => wpAny_pure (wpAny_pure hq))
  have hCF : ¬FA env C := fun ha => by refine e1a1 ((g.F.addr C ha).2.2) fun o z => ?_; rw [hC] at z; cases z
  have x14_ := st_var g hst; have a1 := x14_.1; have a2 := x14_.2
  have x15_ := putNth_elim q; have hi := x15_.1; have q := x15_.2
  refine PyProof.Rows.assign_Name (wp0 (P_store (g.F.ev E') G' a1 a2 .tmp) ?_)
  intro _ s2 x16_; have G2 := x16_.1; have E2 := x16_.2.1; have F2 := x16_.2.2
  have hn2 : s2.heap.Ns C m := notNs hn fun o e => E2.keep C o e ow hCF
  refine ⟨m, hn2, fun h' hs' => ?_⟩
  have nt : ∀ o, s2.heap.get? C = some o → ¬TupObj o := by
    refine e3a3 hn2 fun o es ep ho hd _ => ?_
    intro o' ho'; rw [ho] at ho'; cases ho'; exact not_tup_dict hd
  have G3 : Gd c.w c.hR ρ' L' T' { s2 with heap := h' } := G2.stayG (fun a => a = C) (fun b hb => by subst hb; exact ⟨ow, hRC, nt⟩) rfl fun b o hb e => (hs'.2 b hb).trans e
  exact sp_next G3 ((E'.toF.trans E2).tail hC (fun b o hb e => (hs'.2 b hb).trans e) rfl) (F2.keepF (fun a o ha e => (hs'.2 a (fun h => hCF (h ▸ ha))).trans e) fun a o e ht => (hs'.2 a (fun h => nt o (h ▸ e) ht)).trans e) q
end
end Mine
end
section
open PySem.Calls
set_option tactic.hygienic false
namespace Mine
noncomputable def SortOk : Prop := ∀ {c : Cx} {A : Around} {s : Shared} {ρ : RefMap} {L : List AO} {T : Tm} {v : AV} {a : Addr} {vs : List AV} {ns : List Int} {Q : AV → LT}, Room c.n A → Stat c.w c.hR → Gd c.w c.hR ρ L T s → AtL c ρ L T s v a vs →
  vs = ns.map (fun k => AV.d (.int k)) → (∀ ms : List Int, ms.Perm ns → wpNewL (ms.map fun k => AV.d (.int k)) L T Q) → wpAny (M c) A (call (.builtin "sorted") [.ref a]) (Bk c s ρ T Q) E0 s
section
variable {c : Cx} {sc : Scope} {vars : List Str} {A : Around} {env : Env} {ρ ρ' : RefMap} {l l' : Loc} {L L' : List AO} {T T' : Tm} {s s' : Shared} {hR : Heap}
theorem s_sorted (HS : SortOk) {n : Str} {p pos : Pos} {y : PySem.Expr} {e : E} (hn : blOk sc "sorted" n = true) (hy : plainArg y = true) (h1 : EOk c sc vars y e) : EOk c sc vars (.Call (.Name n p) [y] [] pos) (.sorted e) := by
  intro A env ρ l L T s Q g w
  refine bl1 (.inl ⟨_, rfl⟩) g hn hy (f := .builtin "sorted") (by decide +kernel) (fun P => by kernel_rfl!) (by decide) (by decide) (h1.then g w fun u av ρ₁ L₁ T₁ s₁ g₁ E₁ r q => ?_)
  obtain ⟨a, vs, rfl, Z, ns, hns, q⟩ := getL_elim g₁.G r q
  exact wp0 (HS g₁.R g₁.S g₁.G Z hns q) fun _ _ b => bk_trans E₁ b
theorem chkEs_plain : ∀ {es : Es} {xs : List PySem.Expr}, chkEs sc vars es xs = true → xs.all plainArg = true
  | .nil, [], _ => rfl
  | .nil, _ :: _, h => Bool.noConfusion h
  | .cons e es, xs, h => by
    replace h := ob_elim h; obtain ⟨⟨x, r⟩, rfl, h⟩ := h
    replace h := band h; obtain ⟨h1, h⟩ := h
    rw [List.all_cons, h1, chkEs_plain (band h).2]; rfl
theorem cmpOp_eq {o : CmpOp} {p : CmpOp} (h : (o == p) = true) : o = p := eq_of_beq h
theorem bnot {a : Bool} (h : (!a) = true) : a = false := by cases a <;> first | rfl | cases h
theorem spl_elim {l : List PySem.Expr} {fa fb : PySem.Expr → Bool} {fr : List PySem.Expr → Bool} (h : spl l fa fb fr = true) : ∃ p r, l = p :: r ∧ fa p = true ∧ ((∃ q, r = [q] ∧ fb q = true) ∨ fr r = true) := by
  replace h := ob_elim h; obtain ⟨⟨p, r⟩, rfl, h⟩ := h
  replace h := band h; obtain ⟨h1, h⟩ := h
  refine ⟨p, r, rfl, h1, ?_⟩
  replace h := bor h; rcases h with h | h
  · replace h := ob_elim h; obtain ⟨q, e, h⟩ := h
    exact .inl ⟨q, e, h⟩
  · exact .inr h
theorem and_all {a b : C} {l : List PySem.Expr} {fa fb : PySem.Expr → Bool} {fr : List PySem.Expr → Bool} (h : spl l fa fb fr = true) (ha : ∀ x, fa x = true → COk c sc vars x a) (hb : ∀ x, fb x = true → COk c sc vars x b) (hr : ∀ l, fr l = true → AllOk c sc vars .And l b) :
    AllOk c sc vars .And l (.and a b) := by
  replace h := spl_elim h; obtain ⟨p, r, rfl, h1, h | h⟩ := h
  · obtain ⟨q, rfl, h⟩ := h
    intro A env ρ l L T s Q g w; exact all_and2 (ha _ h1) (hb _ h) g w
  · intro A env ρ l L T s Q g w; exact all_and (ha _ h1) (hr _ h) g w
theorem or_all {a b : C} {l : List PySem.Expr} {fa fb : PySem.Expr → Bool} {fr : List PySem.Expr → Bool} (h : spl l fa fb fr = true) (ha : ∀ x, fa x = true → COk c sc vars x a) (hb : ∀ x, fb x = true → COk c sc vars x b) (hr : ∀ l, fr l = true → AllOk c sc vars .Or l b) :
    AllOk c sc vars .Or l (.or a b) := by
  replace h := spl_elim h; obtain ⟨p, r, rfl, h1, h | h⟩ := h
  · obtain ⟨q, rfl, h⟩ := h
    intro A env ρ l L T s Q g w; exact all_or2 (ha _ h1) (hb _ h) g w
  · intro A env ρ l L T s Q g w; exact all_or (ha _ h1) (hr _ h) g w
theorem comp_test {scope : Scope} {cv : List Str} {two : Bool} {k : C} {ifs : List PySem.Expr} (h : ((ob (l1 ifs) fun t => !two && chkC (relabelS scope sc) cv false k t) || (ob (l0 ifs) fun _ => k.isTt)) = true)
    (hk : ∀ x, chkC (relabelS scope sc) cv false k x = true → COk c.dn (relabelS scope sc) cv x k) : TestOk c.dn (relabelS scope sc) cv ifs k ∧ (two = true → ifs = [] ∧ k = .tt) := by
  replace h := bor h; rcases h with h | h
  · replace h := ob_elim h; obtain ⟨t, rfl, h⟩ := h
    have ⟨h1, h2⟩ := band h
    exact ⟨test_one (hk _ h2), fun e => by rw [e] at h1; cases h1⟩
  · replace h := ob_elim h; obtain ⟨_, rfl, h⟩ := h
    have e : k = .tt := by cases k <;> first | rfl | cases h
    subst e
    exact ⟨test_nil, fun _ => ⟨rfl, rfl⟩⟩
end
theorem ob_to {α β : Type} {x : β} {F : α → β} (M : β → Prop) {o : Option {q : α // x = F q}} {f : α → Bool} (h : ob o f = true) (k : ∀ q, f q = true → M (F q)) : M x :=
  (ob_elim h).elim fun a z => z.1.symm ▸ k a z.2
theorem eq_to {α : Type} {a b : α} (M : α → Prop) (h : a = b) (k : M b) : M a := h.symm ▸ k
theorem bl {a b : Bool} (h : (a && b) = true) : a = true := (band h).1
theorem br {a b : Bool} (h : (a && b) = true) : b = true := (band h).2
noncomputable def ME (e : E) : Prop := ∀ (c : Cx) (sc : Scope) (vars : List Str) (x : PySem.Expr), chkE sc vars e x = true → EOk c sc vars x e
noncomputable def MC (k : C) : Prop := ∀ (c : Cx) (sc : Scope) (vars : List Str), (∀ x, chkC sc vars false k x = true → COk c sc vars x k) ∧ (∀ x, chkC sc vars true k x = true → CVOk c sc vars x k) ∧ ∀ op l, chkAll sc vars op k l = true → AllOk c sc vars op l k
theorem mcA {k : C} (i : MC k) (c : Cx) (sc : Scope) (vars : List Str) (x : PySem.Expr) (h : chkC sc vars false k x = true) : COk c sc vars x k := (i c sc vars).1 x h
theorem mcB {k : C} (i : MC k) (c : Cx) (sc : Scope) (vars : List Str) (x : PySem.Expr) (h : chkC sc vars true k x = true) : CVOk c sc vars x k := (i c sc vars).2.1 x h
theorem mcD {k : C} (i : MC k) (c : Cx) (sc : Scope) (vars : List Str) (op : BoolOp) (l : List PySem.Expr) (h : chkAll sc vars op k l = true) : AllOk c sc vars op l k := (i c sc vars).2.2 op l h
noncomputable def MI (k : It) : Prop := ∀ (c : Cx) (sc : Scope) (vars : List Str) (x : PySem.Expr), chkIt sc vars k x = true → ItOk' c sc vars x k
noncomputable def MS (es : Es) : Prop := ∀ (c : Cx) (sc : Scope) (vars : List Str) (xs : List PySem.Expr), (chkEs sc vars es xs = true → EsOk c sc vars xs es) ∧ (chkPs sc vars es xs = true → PsOk c sc vars xs es)
theorem msA {es : Es} (i : MS es) (c : Cx) (sc : Scope) (vars : List Str) (xs : List PySem.Expr) (h : chkEs sc vars es xs = true) : EsOk c sc vars xs es := (i c sc vars xs).1 h
theorem msB {es : Es} (i : MS es) (c : Cx) (sc : Scope) (vars : List Str) (xs : List PySem.Expr) (h : chkPs sc vars es xs = true) : PsOk c sc vars xs es := (i c sc vars xs).2 h
section
variable {e e1 e2 e3 : E} {k k1 k2 : C} {it : It} {es : Es}
theorem o_loc {i : Nat} : ME (.loc i) := fun c sc vars x h => @ob_to _ _ _ _ (fun y => EOk c sc vars y (.loc i)) _ _ h fun q h => @s_loc _ _ _ _ _ _ h
theorem o_gl {b : Gl} : ME (.gl b) := fun c sc vars x h => @ob_to _ _ _ _ (fun y => EOk c sc vars y (.gl b)) _ _ h fun q h => @s_gl _ _ _ _ _ _ h
theorem o_int {i : Int} : ME (.int i) := fun c sc vars x h => @Or.elim _ _ _ (bor h) (fun h => @ob_to _ _ _ _ (fun y => EOk c sc vars y (.int i)) _ _ h fun q h => @s_int _ _ _ _ _ _ _ (eq_of_beq h)) fun h => @ob_to _ _ _ _ (fun y => EOk c sc vars y (.int i)) _ _ h fun q h => @eq_to _ _ _ (fun y => EOk c sc vars (.UnaryOp y q.2.1 q.2.2) (.int i)) (eq_of_beq (bl h)) (@ob_to _ _ _ _ (fun y => EOk c sc vars (.UnaryOp .USub y q.2.2) (.int i)) _ _ (br h) fun _ h => @s_neg _ _ _ _ _ _ _ _ (eq_of_beq h))
theorem o_str {b : Str} : ME (.str b) := fun c sc vars x h => @ob_to _ _ _ _ (fun y => EOk c sc vars y (.str b)) _ _ h fun q h => @s_str _ _ _ _ _ _ _ (eq_of_beq h)
theorem o_bool {b : Bool} : ME (.bool b) := fun c sc vars x h => @ob_to _ _ _ _ (fun y => EOk c sc vars y (.bool b)) _ _ h fun q h => @ob_to _ _ _ _ (fun y => EOk c sc vars (.Constant y q.2.1 q.2.2) (.bool b)) _ _ h fun _ h => @s_bool _ _ _ _ _ _ _ (eq_of_beq h)
theorem o_none : ME .none := fun c sc vars x h => @ob_to _ _ _ _ (fun y => EOk c sc vars y .none) _ _ h fun q h => @ob_to _ _ _ _ (fun y => EOk c sc vars (.Constant y q.2.1 q.2.2) .none) _ _ h fun _ _ => @s_none _ _ _ _ _
theorem o_attr {a : At} (i : ME e) : ME (.attr e a) := fun c sc vars x h => @ob_to _ _ _ _ (fun y => EOk c sc vars y (.attr e a)) _ _ h fun q h => @eq_to _ _ _ (fun y => EOk c sc vars (.Attribute q.1 y q.2.2) (.attr e a)) (eq_of_beq (bl h)) (@s_attr _ _ _ _ _ _ _ (@i c sc vars _ (br (br h))) (bl (br h)))
theorem o_sub (i1 : ME e1) (i2 : ME e2) : ME (.sub e1 e2) := fun c sc vars x h => @ob_to _ _ _ _ (fun y => EOk c sc vars y (.sub e1 e2)) _ _ h fun q h => @s_sub _ _ _ _ _ _ _ _ (@i1 c sc vars _ (bl (br h))) (@i2 c sc vars _ (br (br h))) (bl h)
theorem o_slHi (i1 : ME e1) (i2 : ME e2) : ME (.slHi e1 e2) := fun c sc vars x h => @ob_to _ _ _ _ (fun y => EOk c sc vars y (.slHi e1 e2)) _ _ h fun q h => @ob_to _ _ _ _ (fun y => EOk c sc vars (.Subscript q.1 y q.2.2) (.slHi e1 e2)) _ _ h fun r h => @ob_to _ _ _ _ (fun y => EOk c sc vars (.Subscript q.1 (.Slice y r.2.1 r.2.2.1 r.2.2.2) q.2.2) (.slHi e1 e2)) _ _ h fun _ h => @ob_to _ _ _ _ (fun y => EOk c sc vars (.Subscript q.1 (.Slice none y r.2.2.1 r.2.2.2) q.2.2) (.slHi e1 e2)) _ _ h fun u h => @ob_to _ _ _ _ (fun y => EOk c sc vars (.Subscript q.1 (.Slice none (some u) y r.2.2.2) q.2.2) (.slHi e1 e2)) _ _ h fun _ h => @s_slHi _ _ _ _ _ _ _ _ _ (@i1 c sc vars _ (bl h)) (@i2 c sc vars _ (br h))
theorem o_slLo (i1 : ME e1) (i2 : ME e2) : ME (.slLo e1 e2) := fun c sc vars x h => @ob_to _ _ _ _ (fun y => EOk c sc vars y (.slLo e1 e2)) _ _ h fun q h => @ob_to _ _ _ _ (fun y => EOk c sc vars (.Subscript q.1 y q.2.2) (.slLo e1 e2)) _ _ h fun r h => @ob_to _ _ _ _ (fun y => EOk c sc vars (.Subscript q.1 (.Slice y r.2.1 r.2.2.1 r.2.2.2) q.2.2) (.slLo e1 e2)) _ _ h fun u h => @ob_to _ _ _ _ (fun y => EOk c sc vars (.Subscript q.1 (.Slice (some u) y r.2.2.1 r.2.2.2) q.2.2) (.slLo e1 e2)) _ _ h fun _ h => @ob_to _ _ _ _ (fun y => EOk c sc vars (.Subscript q.1 (.Slice (some u) none y r.2.2.2) q.2.2) (.slLo e1 e2)) _ _ h fun _ h => @s_slLo _ _ _ _ _ _ _ _ _ (@i1 c sc vars _ (bl h)) (@i2 c sc vars _ (br h))
theorem o_bin {op : Bop} (i1 : ME e1) (i2 : ME e2) : ME (.bin op e1 e2) := fun c sc vars x h => @ob_to _ _ _ _ (fun y => EOk c sc vars y (.bin op e1 e2)) _ _ h fun q h => @s_bin _ _ _ _ _ _ _ _ _ _ (@i1 c sc vars _ (bl (br h))) (@i2 c sc vars _ (br (br h))) (eq_of_beq (bl h))
theorem o_ofC (i : MC k) : ME (.ofC k) := fun c sc vars x h => @s_ofC _ _ _ _ _ (@mcB _ i c sc vars x h)
theorem o_ife (i : MC k) (i1 : ME e1) (i2 : ME e2) : ME (.ife k e1 e2) := fun c sc vars x h => @ob_to _ _ _ _ (fun y => EOk c sc vars y (.ife k e1 e2)) _ _ h fun q h => @s_ife _ _ _ _ _ _ _ _ _ _ (@mcA _ i c sc vars _ (bl h)) (@i1 c sc vars _ (bl (br h))) (@i2 c sc vars _ (br (br h)))
theorem o_tup (i : MS es) : ME (.tup es) := fun c sc vars x h => @ob_to _ _ _ _ (fun y => EOk c sc vars y (.tup es)) _ _ h fun q h => @s_tup _ _ _ _ _ _ _ (@msA _ i c sc vars _ (bl h)) (chkEs_plain (bl h)) (of_decide_eq_true (br h))
theorem o_lst (i : MS es) : ME (.lst es) := fun c sc vars x h => @ob_to _ _ _ _ (fun y => EOk c sc vars y (.lst es)) _ _ h fun q h => @s_lst _ _ _ _ _ _ (@msA _ i c sc vars _ h) (chkEs_plain h)
theorem o_comp {two : Bool} {cv : List Str} {frs : List Nat} (i : MI it) (i1 : MC k) (i2 : ME e) : ME (.comp two cv frs it k e) := fun c sc vars x h => @ob_to _ _ _ _ (fun y => EOk c sc vars y (.comp two cv frs it k e)) _ _ h fun q h => @ob_to _ _ _ _ (fun y => EOk c sc vars (.ListComp q.1 y q.2.2.1 q.2.2.2) (.comp two cv frs it k e)) _ _ h fun g h => by
  cases g with | mk tg iter ifs isa =>
  exact @eq_to _ _ _ (fun y => EOk c sc vars (.ListComp q.1 [⟨tg, iter, ifs, y⟩] q.2.2.1 q.2.2.2) (.comp two cv frs it k e)) (eq_of_beq (bl h)) (@s_comp _ _ _ _ _ _ _ _ _ _ _ _ _ _ _ (@i c sc vars _ (bl (br h))) (@And.left _ _ (comp_test (c := c) (bl (br (br (br h)))) (@mcA _ i1 _ _ _))) (i2 _ _ _ _ (br (br (br (br h))))) (bl (br (br h))) (@And.right _ _ (comp_test (c := c) (bl (br (br (br h)))) (@mcA _ i1 _ _ _))))
theorem o_callF {b : Gl} (i : MS es) : ME (.callF b es) := fun c sc vars x h => @ob_to _ _ _ _ (fun y => EOk c sc vars y (.callF b es)) _ _ h fun q h => @s_callF _ _ _ _ _ _ _ _ _ (bl h) (bl (br h)) (@msA _ i c sc vars _ (br (br h))) (chkEs_plain (br (br h)))
theorem o_new {b : Gl} (i : MS es) : ME (.new b es) := fun c sc vars x h => @ob_to _ _ _ _ (fun y => EOk c sc vars y (.new b es)) _ _ h fun q h => @s_new _ _ _ _ _ _ _ _ _ (bl h) (bl (br h)) (@msA _ i c sc vars _ (br (br h))) (chkEs_plain (br (br h)))
theorem o_mcall {m : Mt} (i1 : ME e) (i : MS es) : ME (.mcall e m es) := fun c sc vars x h => @ob_to _ _ _ _ (fun y => EOk c sc vars y (.mcall e m es)) _ _ h fun q h => @eq_to _ _ _ (fun y => EOk c sc vars (.Call (.Attribute q.1 y q.2.2.1) q.2.2.2.1 [] q.2.2.2.2) (.mcall e m es)) (eq_of_beq (bl h)) (@s_mcall _ _ _ _ _ _ _ _ _ _ (bl (br h)) (bl (br (br h))) (of_decide_eq_true (bl (br (br (br h))))) (@i1 c sc vars _ (bl (br (br (br (br h)))))) (@msA _ i c sc vars _ (br (br (br (br (br h)))))) (chkEs_plain (br (br (br (br (br h)))))))
theorem o_lapp (i1 : ME e1) (i2 : ME e2) : ME (.lapp e1 e2) := fun c sc vars x h => @ob_to _ _ _ _ (fun y => EOk c sc vars y (.lapp e1 e2)) _ _ h fun q h => @eq_to _ _ _ (fun y => EOk c sc vars (.Call (.Attribute q.1 y q.2.2.1) q.2.2.2.1 [] q.2.2.2.2) (.lapp e1 e2)) (eq_of_beq (bl h)) (@ob_to _ _ _ _ (fun y => EOk c sc vars (.Call (.Attribute q.1 "append" q.2.2.1) y [] q.2.2.2.2) (.lapp e1 e2)) _ _ (br (br (br h))) fun _ z => @s_lapp _ _ _ _ _ _ _ _ _ (bl (br h)) (bl (br (br h))) (bl z) (@i1 c sc vars _ (bl (br z))) (@i2 c sc vars _ (br (br z))))
theorem o_lpop (i : ME e) : ME (.lpop e) := fun c sc vars x h => @ob_to _ _ _ _ (fun y => EOk c sc vars y (.lpop e)) _ _ h fun q h => @eq_to _ _ _ (fun y => EOk c sc vars (.Call (.Attribute q.1 y q.2.2.1) q.2.2.2.1 [] q.2.2.2.2) (.lpop e)) (eq_of_beq (bl h)) (@ob_to _ _ _ _ (fun y => EOk c sc vars (.Call (.Attribute q.1 "pop" q.2.2.1) y [] q.2.2.2.2) (.lpop e)) _ _ (br (br (br h))) fun _ z => @s_lpop _ _ _ _ _ _ _ (bl (br h)) (bl (br (br h))) (@i c sc vars _ z))
theorem o_lrev (i : ME e) : ME (.lrev e) := fun c sc vars x h => @ob_to _ _ _ _ (fun y => EOk c sc vars y (.lrev e)) _ _ h fun q h => @eq_to _ _ _ (fun y => EOk c sc vars (.Call (.Attribute q.1 y q.2.2.1) q.2.2.2.1 [] q.2.2.2.2) (.lrev e)) (eq_of_beq (bl h)) (@ob_to _ _ _ _ (fun y => EOk c sc vars (.Call (.Attribute q.1 "reverse" q.2.2.1) y [] q.2.2.2.2) (.lrev e)) _ _ (br (br (br h))) fun _ z => @s_lrev _ _ _ _ _ _ _ (bl (br h)) (bl (br (br h))) (@i c sc vars _ z))
theorem o_dget (i1 : ME e1) (i2 : ME e2) (i3 : ME e3) : ME (.dget e1 e2 e3) := fun c sc vars x h => @ob_to _ _ _ _ (fun y => EOk c sc vars y (.dget e1 e2 e3)) _ _ h fun q h => @eq_to _ _ _ (fun y => EOk c sc vars (.Call (.Attribute q.1 y q.2.2.1) q.2.2.2.1 [] q.2.2.2.2) (.dget e1 e2 e3)) (eq_of_beq (bl h)) (@ob_to _ _ _ _ (fun y => EOk c sc vars (.Call (.Attribute q.1 "get" q.2.2.1) y [] q.2.2.2.2) (.dget e1 e2 e3)) _ _ (br (br (br h))) fun _ z => @s_dget _ _ _ _ _ _ _ _ _ _ _ (bl (br h)) (bl (br (br h))) (bl z) (bl (br z)) (@i1 c sc vars _ (bl (br (br z)))) (@i2 c sc vars _ (bl (br (br (br z))))) (@i3 c sc vars _ (br (br (br (br z))))))
theorem o_len (i : ME e) : ME (.len e) := fun c sc vars x h => @ob_to _ _ _ _ (fun y => EOk c sc vars y (.len e)) _ _ h fun q h => @ob_to _ _ _ _ (fun y => EOk c sc vars (.Call (.Name q.1 q.2.1) y [] q.2.2.2) (.len e)) _ _ (br h) fun _ z => @s_len _ _ _ _ _ _ _ _ (bl h) (bl z) (@i c sc vars _ (br z))
theorem o_listOf (i : ME e) : ME (.listOf e) := fun c sc vars x h => @ob_to _ _ _ _ (fun y => EOk c sc vars y (.listOf e)) _ _ h fun q h => @ob_to _ _ _ _ (fun y => EOk c sc vars (.Call (.Name q.1 q.2.1) y [] q.2.2.2) (.listOf e)) _ _ (br h) fun _ z => @s_listOf _ _ _ _ _ _ _ _ (bl h) (bl z) (@i c sc vars _ (br z))
theorem o_sorted (HS : SortOk) (i : ME e) : ME (.sorted e) := fun c sc vars x h => @ob_to _ _ _ _ (fun y => EOk c sc vars y (.sorted e)) _ _ h fun q h => @ob_to _ _ _ _ (fun y => EOk c sc vars (.Call (.Name q.1 q.2.1) y [] q.2.2.2) (.sorted e)) _ _ (br h) fun _ z => @s_sorted _ _ _ HS _ _ _ _ _ (bl h) (bl z) (@i c sc vars _ (br z))
theorem o_fstr (i : MS es) : ME (.fstr es) := fun c sc vars x h => @ob_to _ _ _ _ (fun y => EOk c sc vars y (.fstr es)) _ _ h fun q h => @s_fstr _ _ _ _ _ _ (@msB _ i c sc vars _ (br (br h))) (of_decide_eq_true (bl h)) (of_decide_eq_true (bl (br h)))
theorem o_dnew : ME .dnew := fun c sc vars x h => @ob_to _ _ _ _ (fun y => EOk c sc vars y .dnew) _ _ h fun q h => @ob_to _ _ _ _ (fun y => EOk c sc vars (.Dict y q.2.1 q.2.2) .dnew) _ _ h fun _ h => @ob_to _ _ _ _ (fun y => EOk c sc vars (.Dict [] y q.2.2) .dnew) _ _ h fun _ _ => @s_dnew _ _ _ _
theorem o_bad : ME .bad := fun _ _ _ _ _ => fun _ w => False.elim w
section
variable {sc : Scope} {vars : List Str} {val : Bool} {x : PySem.Expr}
theorem cmp_to (W : PySem.Expr → Prop) {op : Cop} (h : chkC sc vars val (.cmp op e1 e2) x = true) (w : ∀ y o r p, o = op.op → behindInMarks o r = false → chkE sc vars e1 y = true → chkE sc vars e2 r = true → W (.Compare y [o] [r] p)) : W x :=
  ob_to W h fun q h => ob_to (fun y => W (.Compare q.1 y q.2.2.1 q.2.2.2)) h fun o h => ob_to (fun y => W (.Compare q.1 [o] y q.2.2.2)) h fun r h => w q.1 o r q.2.2.2 (cmpOp_eq (bl h)) (bnot (bl (br h))) (bl (br (br h))) (br (br (br h)))
theorem isin_to (W : PySem.Expr → Prop) {neg : Bool} (h : chkC sc vars val (.isin neg e1 e2) x = true) (w : ∀ y o r p, o = (if neg then .NotIn else .In) → behindInMarks o r = false → chkE sc vars e1 y = true → chkE sc vars e2 r = true → W (.Compare y [o] [r] p)) : W x :=
  ob_to W h fun q h => ob_to (fun y => W (.Compare q.1 y q.2.2.1 q.2.2.2)) h fun o h => ob_to (fun y => W (.Compare q.1 [o] y q.2.2.2)) h fun r h => w q.1 o r q.2.2.2 (cmpOp_eq (bl h)) (bnot (bl (br h))) (bl (br (br h))) (br (br (br h)))
theorem chain_to (W : PySem.Expr → Prop) {o1 o2 : Cop} (h : chkC sc vars val (.chain o1 o2 e1 e2 e3) x = true) (w : ∀ y o o' r r' p, o = o1.op → o' = o2.op → behindInMarks o' r' = false → chkE sc vars e1 y = true → chkE sc vars e2 r = true → chkE sc vars e3 r' = true → W (.Compare y [o, o'] [r, r'] p)) : W x :=
  ob_to W h fun q h => ob_to (fun y => W (.Compare q.1 y q.2.2.1 q.2.2.2)) h fun o h => ob_to (fun y => W (.Compare q.1 [o.1, o.2] y q.2.2.2)) h fun r h => w q.1 o.1 o.2 r.1 r.2 q.2.2.2 (cmpOp_eq (bl h)) (cmpOp_eq (bl (br h))) (bnot (bl (br (br h)))) (bl (br (br (br h)))) (bl (br (br (br (br h))))) (br (br (br (br (br h)))))
theorem not_to (W : PySem.Expr → Prop) (h : chkC sc vars val (.not k) x = true) (w : ∀ y p, chkC sc vars val k y = true → W (.UnaryOp .Not y p)) : W x :=
  ob_to W h fun q h => eq_to (fun y => W (.UnaryOp y q.2.1 q.2.2)) (eq_of_beq (bl h)) (w q.2.1 q.2.2 (br h))
theorem tt_to (W : PySem.Expr → Prop) (h : chkC sc vars val .tt x = true) (w : ∀ n p, W (.Constant (.bool true) n p)) : W x :=
  ob_to W h fun q h => ob_to (fun y => W (.Constant y q.2.1 q.2.2)) h fun b (h : b = true) => h.symm ▸ w q.2.1 q.2.2
end
theorem o_cmp {op : Cop} (i1 : ME e1) (i2 : ME e2) : MC (.cmp op e1 e2) := fun c sc vars => ⟨fun _ h => @cmp_to _ _ _ _ _ _ (fun y => COk c sc vars y (.cmp op e1 e2)) _ h fun _ _ _ _ ho hm h1 h2 => @c_cmp _ _ _ _ _ _ _ _ _ _ ho hm (@i1 c sc vars _ h1) (@i2 c sc vars _ h2), fun _ h => @cmp_to _ _ _ _ _ _ (fun y => CVOk c sc vars y (.cmp op e1 e2)) _ h fun _ _ _ _ ho hm h1 h2 => @cv_cmp _ _ _ _ _ _ _ _ _ _ ho hm (@i1 c sc vars _ h1) (@i2 c sc vars _ h2), fun _ _ h => Bool.noConfusion h⟩
theorem o_isin {neg : Bool} (i1 : ME e1) (i2 : ME e2) : MC (.isin neg e1 e2) := fun c sc vars => ⟨fun _ h => @isin_to _ _ _ _ _ _ (fun y => COk c sc vars y (.isin neg e1 e2)) _ h fun _ _ _ _ ho hm h1 h2 => @c_isin _ _ _ _ _ _ _ _ _ _ ho hm (@i1 c sc vars _ h1) (@i2 c sc vars _ h2), fun _ h => @isin_to _ _ _ _ _ _ (fun y => CVOk c sc vars y (.isin neg e1 e2)) _ h fun _ _ _ _ ho hm h1 h2 => @cv_isin _ _ _ _ _ _ _ _ _ _ ho hm (@i1 c sc vars _ h1) (@i2 c sc vars _ h2), fun _ _ h => Bool.noConfusion h⟩
theorem o_chain {o1 o2 : Cop} (i1 : ME e1) (i2 : ME e2) (i3 : ME e3) : MC (.chain o1 o2 e1 e2 e3) := fun c sc vars => ⟨fun _ h => @chain_to _ _ _ _ _ _ _ (fun y => COk c sc vars y (.chain o1 o2 e1 e2 e3)) _ _ h fun _ _ _ _ _ _ a b hm h1 h2 h3 => @c_chain _ _ _ _ _ _ _ _ _ _ _ _ _ _ a b hm (@i1 c sc vars _ h1) (@i2 c sc vars _ h2) (@i3 c sc vars _ h3), fun _ h => @chain_to _ _ _ _ _ _ _ (fun y => CVOk c sc vars y (.chain o1 o2 e1 e2 e3)) _ _ h fun _ _ _ _ _ _ a b hm h1 h2 h3 => @cv_chain _ _ _ _ _ _ _ _ _ _ _ _ _ _ a b hm (@i1 c sc vars _ h1) (@i2 c sc vars _ h2) (@i3 c sc vars _ h3), fun _ _ h => Bool.noConfusion h⟩
theorem o_not (i : MC k) : MC (.not k) := fun c sc vars => ⟨fun _ h => @not_to _ _ _ _ _ (fun y => COk c sc vars y (.not k)) h fun _ _ h => @c_not _ _ _ _ _ _ (@mcA _ i c sc vars _ h), fun _ h => @not_to _ _ _ _ _ (fun y => CVOk c sc vars y (.not k)) h fun _ _ h => @cv_not _ _ _ _ _ _ (@mcB _ i c sc vars _ h), fun _ _ h => Bool.noConfusion h⟩
theorem o_and (i1 : MC k1) (i2 : MC k2) : MC (.and k1 k2) := fun c sc vars => ⟨fun _ h => @ob_to _ _ _ _ (fun y => COk c sc vars y (.and k1 k2)) _ _ h fun q h => @eq_to _ _ _ (fun y => COk c sc vars (.BoolOp y q.2.1 q.2.2) (.and k1 k2)) (eq_of_beq (bl (br h))) (@c_bool _ _ _ _ _ _ _ (@and_all _ _ _ _ _ _ _ _ _ (br (br h)) (@mcA _ i1 c sc vars) (@mcA _ i2 c sc vars) (@mcD _ i2 c sc vars .And))), fun _ h => @ob_to _ _ _ _ (fun y => CVOk c sc vars y (.and k1 k2)) _ _ h fun q h => Bool.noConfusion (bl h), fun _ l h => @eq_to _ _ _ (fun y => AllOk c sc vars y l (.and k1 k2)) (eq_of_beq (bl h)) (@and_all _ _ _ _ _ _ _ _ _ (br h) (@mcA _ i1 c sc vars) (@mcA _ i2 c sc vars) (@mcD _ i2 c sc vars .And))⟩
theorem o_or (i1 : MC k1) (i2 : MC k2) : MC (.or k1 k2) := fun c sc vars => ⟨fun _ h => @ob_to _ _ _ _ (fun y => COk c sc vars y (.or k1 k2)) _ _ h fun q h => @eq_to _ _ _ (fun y => COk c sc vars (.BoolOp y q.2.1 q.2.2) (.or k1 k2)) (eq_of_beq (bl (br h))) (@c_bool _ _ _ _ _ _ _ (@or_all _ _ _ _ _ _ _ _ _ (br (br h)) (@mcA _ i1 c sc vars) (@mcA _ i2 c sc vars) (@mcD _ i2 c sc vars .Or))), fun _ h => @ob_to _ _ _ _ (fun y => CVOk c sc vars y (.or k1 k2)) _ _ h fun q h => Bool.noConfusion (bl h), fun _ l h => @eq_to _ _ _ (fun y => AllOk c sc vars y l (.or k1 k2)) (eq_of_beq (bl h)) (@or_all _ _ _ _ _ _ _ _ _ (br h) (@mcA _ i1 c sc vars) (@mcA _ i2 c sc vars) (@mcD _ i2 c sc vars .Or))⟩
theorem o_tru (i : ME e) : MC (.tru e) := fun c sc vars => ⟨fun _ h => @c_of_cv _ _ _ _ _ (fun env w => testOk_true (bl h) env w) (@cv_tru _ _ _ _ _ (@i c sc vars _ (br h))), fun _ h => @cv_tru _ _ _ _ _ (@i c sc vars _ (br h)), fun _ _ h => Bool.noConfusion h⟩
theorem o_tt : MC .tt := fun c sc vars => ⟨fun _ h => @tt_to _ _ _ _ (fun y => COk c sc vars y .tt) h fun _ _ => @c_tt _ _ _ _ _, fun _ h => @tt_to _ _ _ _ (fun y => CVOk c sc vars y .tt) h fun _ _ => @cv_tt _ _ _ _ _, fun _ _ h => Bool.noConfusion h⟩
theorem o_r1 (i : ME e) : MI (.r1 e) := fun c sc vars x (h : ob (vCallN x) (fun q => blOk sc "range" q.1 && ob (l1 q.2.2.1) fun y => plainArg y && chkE sc vars e y) = true) => @ob_to _ _ _ _ (fun y => ItOk' c sc vars y (.r1 e)) _ _ h fun q h => @ob_to _ _ _ _ (fun y => ItOk' c sc vars (.Call (.Name q.1 q.2.1) y [] q.2.2.2) (.r1 e)) _ _ (br h) fun _ z => @it_r1 _ _ _ _ _ _ _ _ (bl h) (bl z) (@i c sc vars _ (br z))
theorem o_r2 (i1 : ME e1) (i2 : ME e2) : MI (.r2 e1 e2) := fun c sc vars x (h : ob (vCallN x) (fun q => blOk sc "range" q.1 && ob (l2 q.2.2.1) fun y => plainArg y.1 && (plainArg y.2 && (chkE sc vars e1 y.1 && chkE sc vars e2 y.2))) = true) => @ob_to _ _ _ _ (fun y => ItOk' c sc vars y (.r2 e1 e2)) _ _ h fun q h => @ob_to _ _ _ _ (fun y => ItOk' c sc vars (.Call (.Name q.1 q.2.1) y [] q.2.2.2) (.r2 e1 e2)) _ _ (br h) fun _ z => @it_r2 _ _ _ _ _ _ _ _ _ _ (bl h) (bl z) (bl (br z)) (@i1 c sc vars _ (bl (br (br z)))) (@i2 c sc vars _ (br (br (br z))))
theorem o_val (i : ME e) : MI (.val e) := fun c sc vars x h => @it_val _ _ _ _ _ (bl h) (@i c sc vars _ (br h))
theorem nil_to {α : Type} (W : List α → Prop) (w : W []) : ∀ {l : List α}, l.isEmpty = true → W l
  | [], _ => w
theorem isStr_eq {j : Str} : ∀ {e : E}, e.isStr j = true → e = .str j := fun {e} h => by
  cases e <;> first | exact Bool.noConfusion h | skip
  exact congrArg _ (eq_of_beq h)
theorem o_nil : MS .nil := fun c sc vars _ => ⟨fun h => @nil_to _ (fun y => EsOk c sc vars y .nil) (@es_nil _ _ _) _ h, fun h => @nil_to _ (fun y => PsOk c sc vars y .nil) (@ps_nil _ _ _) _ h⟩
theorem o_cons (i1 : ME e) (i : MS es) : MS (.cons e es) := fun c sc vars _ => ⟨fun h => @ob_to _ _ _ _ (fun y => EsOk c sc vars y (.cons e es)) _ _ h fun q h => @es_cons _ _ _ _ _ _ _ (@i1 c sc vars _ (bl (br h))) (@msA _ i c sc vars _ (br (br h))), fun h => @ob_to _ _ _ _ (fun y => PsOk c sc vars y (.cons e es)) _ _ h fun q h => @Or.elim _ _ _ (bor (bl h)) (fun z => @ob_to _ _ _ _ (fun y => PsOk c sc vars (y :: q.2) (.cons e es)) _ _ z fun v z => @eq_to _ _ _ (fun y => PsOk c sc vars (.FormattedValue v.1 y v.2.2.1 v.2.2.2 :: q.2) (.cons e es)) (eq_of_beq (bl z)) (@ob_to _ _ _ _ (fun y => PsOk c sc vars (.FormattedValue v.1 (-1) y v.2.2.2 :: q.2) (.cons e es)) _ _ (br z) fun _ z => @ps_fmt _ _ _ _ _ _ _ _ (@i1 c sc vars _ z) (@msB _ i c sc vars _ (br h)))) fun z => @ob_to _ _ _ _ (fun y => PsOk c sc vars (y :: q.2) (.cons e es)) _ _ z fun v z => by rw [isStr_eq z]; exact @ps_str _ _ _ _ _ _ _ _ _ rfl (@msB _ i c sc vars _ (br h))⟩
end
theorem okE (HS : SortOk) : ∀ e, ME e := fun e => E.rec (motive_1 := ME) (motive_2 := MC) (motive_3 := MI) (motive_4 := MS) (fun _ => o_loc) (fun _ => o_gl) (fun _ => o_int) (fun _ => o_str) (fun _ => o_bool) o_none (fun _ _ i0 => o_attr i0) (fun _ _ i0 i1 => o_sub i0 i1) (fun _ _ i0 i1 => o_slHi i0 i1) (fun _ _ i0 i1 => o_slLo i0 i1) (fun _ _ _ i0 i1 => o_bin i0 i1) (fun _ i0 => o_ofC i0) (fun _ _ _ i0 i1 i2 => o_ife i0 i1 i2) (fun _ i0 => o_tup i0) (fun _ i0 => o_lst i0) (fun _ _ _ _ _ _ i0 i1 i2 => o_comp i0 i1 i2) (fun _ _ i0 => o_callF i0) (fun _ _ _ i0 i1 => o_mcall i0 i1) (fun _ _ i0 => o_new i0) (fun _ _ i0 i1 => o_lapp i0 i1) (fun _ i0 => o_lpop i0) (fun _ i0 => o_lrev i0) (fun _ _ _ i0 i1 i2 => o_dget i0 i1 i2) (fun _ i0 => o_len i0) (fun _ i0 => o_listOf i0) (fun _ i0 => o_sorted HS i0) (fun _ i0 => o_fstr i0) o_dnew o_bad (fun _ _ _ i0 i1 => o_cmp i0 i1) (fun _ _ _ _ _ i0 i1 i2 => o_chain i0 i1 i2) (fun _ _ _ i0 i1 => o_isin i0 i1) (fun _ i0 => o_not i0) (fun _ _ i0 i1 => o_and i0 i1) (fun _ _ i0 i1 => o_or i0 i1) (fun _ i0 => o_tru i0) o_tt (fun _ i0 => o_r1 i0) (fun _ _ i0 i1 => o_r2 i0 i1) (fun _ i0 => o_val i0) o_nil (fun _ _ i0 i1 => o_cons i0 i1) e
theorem okC (HS : SortOk) : ∀ e, MC e := fun e => C.rec (motive_1 := ME) (motive_2 := MC) (motive_3 := MI) (motive_4 := MS) (fun _ => o_loc) (fun _ => o_gl) (fun _ => o_int) (fun _ => o_str) (fun _ => o_bool) o_none (fun _ _ i0 => o_attr i0) (fun _ _ i0 i1 => o_sub i0 i1) (fun _ _ i0 i1 => o_slHi i0 i1) (fun _ _ i0 i1 => o_slLo i0 i1) (fun _ _ _ i0 i1 => o_bin i0 i1) (fun _ i0 => o_ofC i0) (fun _ _ _ i0 i1 i2 => o_ife i0 i1 i2) (fun _ i0 => o_tup i0) (fun _ i0 => o_lst i0) (fun _ _ _ _ _ _ i0 i1 i2 => o_comp i0 i1 i2) (fun _ _ i0 => o_callF i0) (fun _ _ _ i0 i1 => o_mcall i0 i1) (fun _ _ i0 => o_new i0) (fun _ _ i0 i1 => o_lapp i0 i1) (fun _ i0 => o_lpop i0) (fun _ i0 => o_lrev i0) (fun _ _ _ i0 i1 i2 => o_dget i0 i1 i2) (fun _ i0 => o_len i0) (fun _ i0 => o_listOf i0) (fun _ i0 => o_sorted HS i0) (fun _ i0 => o_fstr i0) o_dnew o_bad (fun _ _ _ i0 i1 => o_cmp i0 i1) (fun _ _ _ _ _ i0 i1 i2 => o_chain i0 i1 i2) (fun _ _ _ i0 i1 => o_isin i0 i1) (fun _ i0 => o_not i0) (fun _ _ i0 i1 => o_and i0 i1) (fun _ _ i0 i1 => o_or i0 i1) (fun _ i0 => o_tru i0) o_tt (fun _ i0 => o_r1 i0) (fun _ _ i0 i1 => o_r2 i0 i1) (fun _ i0 => o_val i0) o_nil (fun _ _ i0 i1 => o_cons i0 i1) e
theorem okIt (HS : SortOk) : ∀ e, MI e := fun e => It.rec (motive_1 := ME) (motive_2 := MC) (motive_3 := MI) (motive_4 := MS) (fun _ => o_loc) (fun _ => o_gl) (fun _ => o_int) (fun _ => o_str) (fun _ => o_bool) o_none (fun _ _ i0 => o_attr i0) (fun _ _ i0 i1 => o_sub i0 i1) (fun _ _ i0 i1 => o_slHi i0 i1) (fun _ _ i0 i1 => o_slLo i0 i1) (fun _ _ _ i0 i1 => o_bin i0 i1) (fun _ i0 => o_ofC i0) (fun _ _ _ i0 i1 i2 => o_ife i0 i1 i2) (fun _ i0 => o_tup i0) (fun _ i0 => o_lst i0) (fun _ _ _ _ _ _ i0 i1 i2 => o_comp i0 i1 i2) (fun _ _ i0 => o_callF i0) (fun _ _ _ i0 i1 => o_mcall i0 i1) (fun _ _ i0 => o_new i0) (fun _ _ i0 i1 => o_lapp i0 i1) (fun _ i0 => o_lpop i0) (fun _ i0 => o_lrev i0) (fun _ _ _ i0 i1 i2 => o_dget i0 i1 i2) (fun _ i0 => o_len i0) (fun _ i0 => o_listOf i0) (fun _ i0 => o_sorted HS i0) (fun _ i0 => o_fstr i0) o_dnew o_bad (fun _ _ _ i0 i1 => o_cmp i0 i1) (fun _ _ _ _ _ i0 i1 i2 => o_chain i0 i1 i2) (fun _ _ _ i0 i1 => o_isin i0 i1) (fun _ i0 => o_not i0) (fun _ _ i0 i1 => o_and i0 i1) (fun _ _ i0 i1 => o_or i0 i1) (fun _ i0 => o_tru i0) o_tt (fun _ i0 => o_r1 i0) (fun _ _ i0 i1 => o_r2 i0 i1) (fun _ i0 => o_val i0) o_nil (fun _ _ i0 i1 => o_cons i0 i1) e
end Mine
end
section
open PySem.Calls
namespace Mine
section
variable {c : Cx} {sc : Scope} {vars : List Str}
theorem asg_comp (HS : SortOk) {i : Nat} {n : Str} {v : PySem.Expr} {p q : Pos} {e : E} (h1 : stOk sc vars i n = true) (h2 : chkE sc vars e v = true) (hi : e.isComp = true) (h3 : swapB sc v n p.line v.pos.line = true) : SOk c sc vars (.Assign [.Name n p] v q) (.asg i e) := by
  cases e <;> first | exact Bool.noConfusion hi | skip
  rename_i two cv frs it k elt
  replace h2 := ob_elim h2; obtain ⟨⟨el, gs, scope, pos⟩, rfl, h⟩ := h2
  replace h := ob_elim h; obtain ⟨⟨tg, iter, ifs, isa⟩, rfl, h⟩ := h
  have h0 : isa = 0 := eq_of_beq (bl h)
  subst h0
  have ht := comp_test (c := c) (bl (br (br (br h)))) (okC HS k _ _ _).1
  exact @st_asgc _ _ _ _ _ _ _ _ _ _ _ _ _ _ _ _ _ _ _  h1 h3 (@okIt HS it c sc vars _ (bl (br h))) ht.1 (@okE HS elt _ _ _ _ (br (br (br (br h))))) (bl (br (br h))) ht.2
end
noncomputable def MT (e : S) : Prop := ∀ (c : Cx) (sc : Scope) (vars : List Str), (∀ x, chkS sc vars e x = true → SOk c sc vars x e) ∧ ∀ l, chkSs sc vars e l = true → SsOk c sc vars l e
theorem mtA {e : S} (i : MT e) (c : Cx) (sc : Scope) (vars : List Str) (x : PySem.Stmt) (h : chkS sc vars e x = true) : SOk c sc vars x e := (i c sc vars).1 x h
theorem mtB {e : S} (i : MT e) (c : Cx) (sc : Scope) (vars : List Str) (x : List PySem.Stmt) (h : chkSs sc vars e x = true) : SsOk c sc vars x e := (i c sc vars).2 x h
section
variable {a b : S}
theorem q_nil : MT .nil := fun c sc vars => ⟨fun _ h => Bool.noConfusion h, fun l h => @nil_to _ (fun y => SsOk c sc vars y .nil) (@ss_nil _ _ _) _ h⟩
theorem q_seq (i1 : MT a) (i2 : MT b) : MT (.seq a b) := fun c sc vars => ⟨fun _ h => Bool.noConfusion h, fun l h => by dsimp only [chkSs] at h; exact @ob_to _ _ _ _ (fun y => SsOk c sc vars y (.seq a b)) _ _ h fun q h => @ss_cons _ _ _ _ _ _ _ (@mtA _ i1 c sc vars _ (bl h)) (@mtB _ i2 c sc vars _ (br h))⟩
theorem q_asg (HS : SortOk) {i : Nat} {e : E} : MT (.asg i e) := fun c sc vars => ⟨fun x h => by dsimp only [chkS] at h; exact @ob_to _ _ _ _ (fun y => SOk c sc vars y (.asg i e)) _ _ h fun q h => @ob_to _ _ _ _ (fun y => SOk c sc vars (.Assign y q.2.1 q.2.2) (.asg i e)) _ _ h fun t h => @ob_to _ _ _ _ (fun y => SOk c sc vars (.Assign [y] q.2.1 q.2.2) (.asg i e)) _ _ h fun n h => @Or.elim _ _ _ (bor (br (br h))) (fun z => @st_asg _ _ _ _ _ _ _ _ _ (bl h) z (@okE HS e c sc vars _ (bl (br h)))) fun z => @asg_comp c sc vars HS _ _ _ _ _ _ (bl h) (bl (br h)) (bl z) (br z), fun _ h => Bool.noConfusion h⟩
theorem q_asg2 (HS : SortOk) {i j : Nat} {e : E} : MT (.asg2 i j e) := fun c sc vars => ⟨fun x h => by dsimp only [chkS] at h; exact @ob_to _ _ _ _ (fun y => SOk c sc vars y (.asg2 i j e)) _ _ h fun q h => @ob_to _ _ _ _ (fun y => SOk c sc vars (.Assign y q.2.1 q.2.2) (.asg2 i j e)) _ _ h fun t h => @ob_to _ _ _ _ (fun y => SOk c sc vars (.Assign [y] q.2.1 q.2.2) (.asg2 i j e)) _ _ h fun u h => @ob_to _ _ _ _ (fun y => SOk c sc vars (.Assign [(.Tuple y u.2.1 u.2.2)] q.2.1 q.2.2) (.asg2 i j e)) _ _ h fun r h => @ob_to _ _ _ _ (fun y => SOk c sc vars (.Assign [(.Tuple [y, r.2] u.2.1 u.2.2)] q.2.1 q.2.2) (.asg2 i j e)) _ _ h fun n h => @ob_to _ _ _ _ (fun y => SOk c sc vars (.Assign [(.Tuple [.Name n.1 n.2, y] u.2.1 u.2.2)] q.2.1 q.2.2) (.asg2 i j e)) _ _ h fun m h => @st_asg2 _ _ _ _ _ _ _ _ _ _ _ _ _ _ (bl h) (bl (br h)) (bl (br (br h))) (bl (br (br (br h)))) (@okE HS e c sc vars _ (br (br (br (br h))))), fun _ h => Bool.noConfusion h⟩
theorem q_setA (HS : SortOk) {o e : E} {a : At} : MT (.setA o a e) := fun c sc vars => ⟨fun x h => by dsimp only [chkS] at h; exact @ob_to _ _ _ _ (fun y => SOk c sc vars y (.setA o a e)) _ _ h fun q h => @ob_to _ _ _ _ (fun y => SOk c sc vars (.Assign y q.2.1 q.2.2) (.setA o a e)) _ _ h fun t h => @ob_to _ _ _ _ (fun y => SOk c sc vars (.Assign [y] q.2.1 q.2.2) (.setA o a e)) _ _ h fun n h => @eq_to _ _ _ (fun y => SOk c sc vars (.Assign [(.Attribute n.1 y n.2.2)] q.2.1 q.2.2) (.setA o a e)) (eq_of_beq (bl h)) (@st_setA _ _ _ _ _ _ _ _ _ _ (bl (br h)) (@okE HS e c sc vars _ (bl (br (br h)))) (@okE HS o c sc vars _ (br (br (br h))))), fun _ h => Bool.noConfusion h⟩
theorem q_setI (HS : SortOk) {o i e : E} : MT (.setI o i e) := fun c sc vars => ⟨fun x h => by dsimp only [chkS] at h; exact @ob_to _ _ _ _ (fun y => SOk c sc vars y (.setI o i e)) _ _ h fun q h => @ob_to _ _ _ _ (fun y => SOk c sc vars (.Assign y q.2.1 q.2.2) (.setI o i e)) _ _ h fun t h => @ob_to _ _ _ _ (fun y => SOk c sc vars (.Assign [y] q.2.1 q.2.2) (.setI o i e)) _ _ h fun n h => @st_setI _ _ _ _ _ _ _ _ _ _ _ (bl (br h)) (@okE HS e c sc vars _ (bl (br (br h)))) (@okE HS o c sc vars _ (bl (br (br (br h))))) (@okE HS i c sc vars _ (br (br (br (br h))))), fun _ h => Bool.noConfusion h⟩
theorem q_augL (HS : SortOk) {i : Nat} {e : E} : MT (.augL i e) := fun c sc vars => ⟨fun x h => by dsimp only [chkS] at h; exact @ob_to _ _ _ _ (fun y => SOk c sc vars y (.augL i e)) _ _ h fun q h => @ob_to _ _ _ _ (fun y => SOk c sc vars (.AugAssign y q.2.1 q.2.2.1 q.2.2.2) (.augL i e)) _ _ h fun n h => @eq_to _ _ _ (fun y => SOk c sc vars (.AugAssign (.Name n.1 n.2) y q.2.2.1 q.2.2.2) (.augL i e)) (eq_of_beq (bl h)) (@st_augL _ _ _ _ _ _ _ _ _ (bl (br h)) (bl (br (br h))) (@okE HS e c sc vars _ (br (br (br h))))), fun _ h => Bool.noConfusion h⟩
theorem q_augA (HS : SortOk) {o e : E} {a : At} : MT (.augA o a e) := fun c sc vars => ⟨fun x h => by dsimp only [chkS] at h; exact @ob_to _ _ _ _ (fun y => SOk c sc vars y (.augA o a e)) _ _ h fun q h => @ob_to _ _ _ _ (fun y => SOk c sc vars (.AugAssign y q.2.1 q.2.2.1 q.2.2.2) (.augA o a e)) _ _ h fun n h => @eq_to _ _ _ (fun y => SOk c sc vars (.AugAssign (.Attribute n.1 n.2.1 n.2.2) y q.2.2.1 q.2.2.2) (.augA o a e)) (eq_of_beq (bl h)) (@eq_to _ _ _ (fun y => SOk c sc vars (.AugAssign (.Attribute n.1 y n.2.2) .Add q.2.2.1 q.2.2.2) (.augA o a e)) (eq_of_beq (bl (br h))) (@st_augA _ _ _ _ _ _ _ _ _ _ (@okE HS o c sc vars _ (bl (br (br h)))) (@okE HS e c sc vars _ (br (br (br h)))))), fun _ h => Bool.noConfusion h⟩
theorem q_ex (HS : SortOk) {e : E} : MT (.ex e) := fun c sc vars => ⟨fun x h => by dsimp only [chkS] at h; exact @ob_to _ _ _ _ (fun y => SOk c sc vars y (.ex e)) _ _ h fun q h => @st_ex _ _ _ _ _ _ (bl h) (@okE HS e c sc vars _ (br h)), fun _ h => Bool.noConfusion h⟩
theorem q_ret (HS : SortOk) {e : E} : MT (.ret e) := fun c sc vars => ⟨fun x h => by dsimp only [chkS] at h; exact @ob_to _ _ _ _ (fun y => SOk c sc vars y (.ret e)) _ _ h fun q h => @ob_to _ _ _ _ (fun y => SOk c sc vars (.Return y q.2) (.ret e)) _ _ h fun _ h => @st_ret _ _ _ _ _ _ (@okE HS e c sc vars _ h), fun _ h => Bool.noConfusion h⟩
theorem q_retN : MT .retN := fun c sc vars => ⟨fun x h => by dsimp only [chkS] at h; exact @ob_to _ _ _ _ (fun y => SOk c sc vars y .retN) _ _ h fun q h => @ob_to _ _ _ _ (fun y => SOk c sc vars (.Return y q.2) .retN) _ _ h fun _ _ => @st_retN _ _ _ _, fun _ h => Bool.noConfusion h⟩
theorem q_ite (HS : SortOk) {k : C} (i1 : MT a) (i2 : MT b) : MT (.ite k a b) := fun c sc vars => ⟨fun x h => by dsimp only [chkS] at h; exact @ob_to _ _ _ _ (fun y => SOk c sc vars y (.ite k a b)) _ _ h fun q h => @st_ite _ _ _ _ _ _ _ _ _ _ (@mcA _ (okC HS k) c sc vars _ (bl h)) (@mtB _ i1 c sc vars _ (bl (br h))) (@mtB _ i2 c sc vars _ (br (br h))), fun _ h => Bool.noConfusion h⟩
theorem q_whl (HS : SortOk) {k : C} (i : MT a) : MT (.whl k a) := fun c sc vars => ⟨fun x h => by dsimp only [chkS] at h; exact @ob_to _ _ _ _ (fun y => SOk c sc vars y (.whl k a)) _ _ h fun q h => @ob_to _ _ _ _ (fun y => SOk c sc vars (.While q.1 q.2.1 y q.2.2.2) (.whl k a)) _ _ h fun _ h => @st_whl _ _ _ _ _ _ _ _ (@mcA _ (okC HS k) c sc vars _ (bl h)) (@mtB _ i c sc vars _ (br h)), fun _ h => Bool.noConfusion h⟩
theorem q_fr (HS : SortOk) {i : Nat} {it : It} (i1 : MT a) : MT (.fr i it a) := fun c sc vars => ⟨fun x h => by dsimp only [chkS] at h; exact @ob_to _ _ _ _ (fun y => SOk c sc vars y (.fr i it a)) _ _ h fun q h => @ob_to _ _ _ _ (fun y => SOk c sc vars (.For y q.2.1 q.2.2.1 q.2.2.2.1 q.2.2.2.2) (.fr i it a)) _ _ h fun n h => @ob_to _ _ _ _ (fun y => SOk c sc vars (.For (.Name n.1 n.2) q.2.1 q.2.2.1 y q.2.2.2.2) (.fr i it a)) _ _ h fun _ h => @st_fr _ _ _ _ _ _ _ _ _ _ _ (bl h) (@okIt HS it c sc vars _ (bl (br h))) (@mtB _ i1 c sc vars _ (br (br h))), fun _ h => Bool.noConfusion h⟩
theorem q_delLo (HS : SortOk) {e lo : E} : MT (.delLo e lo) := fun c sc vars => ⟨fun x h => by dsimp only [chkS] at h; exact @ob_to _ _ _ _ (fun y => SOk c sc vars y (.delLo e lo)) _ _ h fun q h => @ob_to _ _ _ _ (fun y => SOk c sc vars (.Delete y q.2) (.delLo e lo)) _ _ h fun t h => @ob_to _ _ _ _ (fun y => SOk c sc vars (.Delete [y] q.2) (.delLo e lo)) _ _ h fun v h => @ob_to _ _ _ _ (fun y => SOk c sc vars (.Delete [(.Subscript v.1 y v.2.2)] q.2) (.delLo e lo)) _ _ h fun r h => @ob_to _ _ _ _ (fun y => SOk c sc vars (.Delete [.Subscript v.1 (.Slice y r.2.1 r.2.2.1 r.2.2.2) v.2.2] q.2) (.delLo e lo)) _ _ h fun u h => @ob_to _ _ _ _ (fun y => SOk c sc vars (.Delete [.Subscript v.1 (.Slice (some u) y r.2.2.1 r.2.2.2) v.2.2] q.2) (.delLo e lo)) _ _ h fun _ h => @ob_to _ _ _ _ (fun y => SOk c sc vars (.Delete [.Subscript v.1 (.Slice (some u) none y r.2.2.2) v.2.2] q.2) (.delLo e lo)) _ _ h fun _ h => @st_delLo _ _ _ _ _ _ _ _ _ _ (@okE HS e c sc vars _ (bl h)) (@okE HS lo c sc vars _ (br h)), fun _ h => Bool.noConfusion h⟩
theorem q_bad : MT .bad := fun _ _ _ => ⟨fun _ _ => fun _ w => False.elim w, fun _ _ => fun _ w => False.elim w⟩
end
theorem okT (HS : SortOk) : ∀ e, MT e := fun e => S.rec (motive := MT) (q_nil) (fun _ _ i0 i1 => q_seq i0 i1) (fun _ _ => q_asg HS) (fun _ _ _ => q_asg2 HS) (fun _ _ _ => q_setA HS) (fun _ _ _ => q_setI HS) (fun _ _ => q_augL HS) (fun _ _ _ => q_augA HS) (fun _ => q_ex HS) (fun _ => q_ret HS) (q_retN) (fun _ _ _ i0 i1 => q_ite HS i0 i1) (fun _ _ i0 => q_whl HS i0) (fun _ _ _ i0 => q_fr HS i0) (fun _ _ => q_delLo HS) (q_bad) e
theorem okSs (HS : SortOk) (e : S) : ∀ (c : Cx) (sc : Scope) (vars : List Str) (x : List PySem.Stmt), chkSs sc vars e x = true → SsOk c sc vars x e := mtB (okT HS e)
end Mine
end
section
open PySem.Calls
set_option tactic.hygienic false
namespace Mine
theorem bindL_no (k : Str → Option NameKind) : ∀ (b : List (Str × Value)) (m : Str → Option Value) (x : Str), x ∉ b.map (·.1) → bindL k b m x = m x
  | [], _, _, _ => rfl
  | (n, v) :: r, m, x, h => by
    unfold bindL
    rw [bindL_no k r _ x fun q => h (List.mem_cons_of_mem _ q)]
    have hn : x ≠ n := fun q => h (by rw [q]; exact List.mem_cons_self)
    split
    · exact if_neg hn
    · rfl
theorem bindC_no (k : Str → Option NameKind) : ∀ (b : List (Str × Value)) (m : Str → Option Value) (x : Str), x ∉ b.map (·.1) → bindC k b m x = m x
  | [], _, _, _ => rfl
  | (n, v) :: r, m, x, h => by
    unfold bindC
    rw [bindC_no k r _ x fun q => h (List.mem_cons_of_mem _ q)]
    have hn : x ≠ n := fun q => h (by rw [q]; exact List.mem_cons_self)
    split
    · rfl
    · exact if_neg hn
theorem zip_keys : ∀ (ps : List Str) (vs : List Value), ∀ x ∈ (ps.zip vs).map (·.1), x ∈ ps
  | [], _, _, h => by simp at h
  | _ :: _, [], _, h => by simp at h
  | p :: ps, v :: vs, x, h => by
    simp only [List.zip_cons_cons, List.map_cons, List.mem_cons] at h
    rcases h with h | h
    · rw [h]; exact List.mem_cons_self
    · exact List.mem_cons_of_mem _ (zip_keys ps vs x h)
theorem bindL_at (k : Str → Option NameKind) : ∀ (ps : List Str) (vs : List Value) (m : Str → Option Value) (i : Nat) (x : Str) (v : Value), ps.Nodup → ps[i]? = some x → vs[i]? = some v → k x = some .local → bindL k (ps.zip vs) m x = some v
  | [], _, _, i, x, v, _, h, _, _ => by simp at h
  | _ :: _, [], _, i, x, v, _, _, h, _ => by simp at h
  | p :: ps, u :: vs, m, 0, x, v, hn, h, h', hk => by
    simp at h h'
    subst h h'
    show bindL k ((p, u) :: ps.zip vs) m p = _
    unfold bindL
    rw [bindL_no k _ _ _ fun q => (List.nodup_cons.mp hn).1 (zip_keys _ _ _ q), if_pos hk]
    simp
  | p :: ps, u :: vs, m, i + 1, x, v, hn, h, h', hk => by
    show bindL k ((p, u) :: ps.zip vs) m x = _
    unfold bindL
    exact bindL_at k ps vs _ i x v (List.nodup_cons.mp hn).2 (by simpa using h) (by simpa using h') hk
theorem bindC_at (k : Str → Option NameKind) : ∀ (ps : List Str) (vs : List Value) (m : Str → Option Value) (i : Nat) (x : Str) (v : Value), ps.Nodup → ps[i]? = some x → vs[i]? = some v → k x = some .cell → bindC k (ps.zip vs) m x = some v
  | [], _, _, i, x, v, _, h, _, _ => by simp at h
  | _ :: _, [], _, i, x, v, _, _, h, _ => by simp at h
  | p :: ps, u :: vs, m, 0, x, v, hn, h, h', hk => by
    simp at h h'
    subst h h'
    show bindC k ((p, u) :: ps.zip vs) m p = _
    unfold bindC
    have nl : ¬ k p = some .local := by rw [hk]; decide
    rw [bindC_no k _ _ _ fun q => (List.nodup_cons.mp hn).1 (zip_keys _ _ _ q), if_neg nl]
    simp
  | p :: ps, u :: vs, m, i + 1, x, v, hn, h, h', hk => by
    show bindC k ((p, u) :: ps.zip vs) m x = _
    unfold bindC
    exact bindC_at k ps vs _ i x v (List.nodup_cons.mp hn).2 (by simpa using h) (by simpa using h') hk
theorem cellsFrom_mem : ∀ (ns : List (Str × NameKind)) (n : Nat) (acc : List (Str × Addr)) (p : Str × Addr), p ∈ acc → p ∈ cellsFrom n ns acc
  | [], _, _, _, h => h
  | (x, k) :: r, n, acc, p, h => by
    unfold cellsFrom
    split
    · exact cellsFrom_mem r _ _ p (List.mem_cons_of_mem _ h)
    · exact cellsFrom_mem r _ _ p h
theorem cellsFrom_has : ∀ (ns : List (Str × NameKind)) (n : Nat) (acc : List (Str × Addr)) (x : Str), (x, NameKind.cell) ∈ ns → ∃ a, (x, a) ∈ cellsFrom n ns acc
  | [], _, _, _, h => by cases h
  | (y, k) :: r, n, acc, x, h => by
    unfold cellsFrom
    rcases List.mem_cons.mp h with e | h
    · cases e
      rw [if_pos (by decide)]
      exact ⟨n, cellsFrom_mem _ _ _ _ List.mem_cons_self⟩
    · split
      · exact cellsFrom_has r _ _ x h
      · exact cellsFrom_has r _ _ x h
theorem cellsFrom_keys : ∀ (ns : List (Str × NameKind)) (n : Nat) (acc : List (Str × Addr)), (ns.map (·.1)).Nodup → (acc.map (·.1)).Nodup → (∀ x ∈ acc.map (·.1), x ∉ ns.map (·.1)) → ((cellsFrom n ns acc).map (·.1)).Nodup
  | [], _, _, _, h, _ => h
  | (y, k) :: r, n, acc, h1, h2, h3 => by
    unfold cellsFrom
    have h1 : y ∉ r.map (·.1) ∧ (r.map (·.1)).Nodup := List.nodup_cons.mp h1
    split
    · refine cellsFrom_keys r _ _ h1.2 (List.nodup_cons.mpr ⟨fun q => h3 y q List.mem_cons_self, h2⟩) fun x hx hr => ?_
      rcases List.mem_cons.mp hx with e | hx
      · exact h1.1 (by rw [e] at hr; exact hr)
      · exact h3 x hx (List.mem_cons_of_mem _ hr)
    · exact cellsFrom_keys r _ _ h1.2 h2 fun x hx hr => h3 x hx (List.mem_cons_of_mem _ hr)
structure FnOk (fd : FuncData) (body : List Stmt) (ps vars : List Str) : Prop where
  body : fd.body = .stmts body
  co : fd.scope.isCoroutine = false
  gen : fd.scope.isGenerator = false
  kind : fd.scope.kind = .function
  glob : fd.globals = mainGlobals
  bi : fd.builtins = builtinsNs
  clo : fd.closure = []
  pre : ∃ r, vars = ps ++ r
  nodup : vars.Nodup
  keys : (fd.scope.names.map (·.1)).Nodup
  par : ∀ x ∈ ps, fd.scope.names.lookup x = some .local ∨ fd.scope.names.lookup x = some .cell
noncomputable def fnOkB (st : Stmt) (ps vars : List Str) : Bool :=
  !(stScope st).isCoroutine && !(stScope st).isGenerator && (stScope st).kind == .function && vars.take ps.length == ps && decide vars.Nodup && decide ((stScope st).names.map (·.1)).Nodup &&
  ps.all fun x => (stScope st).names.lookup x == some .local || (stScope st).names.lookup x == some .cell
theorem fnOk_of {st : Stmt} {q : String} {dV pm : Value} {cd : Addr} {ps vars : List Str} (h : fnOkB st ps vars = true) : FnOk (kfd st q dV pm cd) (stBody st) ps vars := by
  unfold fnOkB at h
  simp only [Bool.and_eq_true, Bool.not_eq_true', beq_iff_eq, decide_eq_true_eq, List.all_eq_true, Bool.or_eq_true] at h
  obtain ⟨⟨⟨⟨⟨⟨a1, a2⟩, a3⟩, a4⟩, a5⟩, a6⟩, a7⟩ := h
  exact ⟨rfl, a1, a2, a3, rfl, rfl, rfl, ⟨vars.drop ps.length, by conv => lhs; rw [← List.take_append_drop ps.length vars, a4]⟩, a5, a6, a7⟩
section
variable {c : Cx} {A : Around} {ρ : RefMap} {L : List AO} {T : Tm} {s s₁ : Shared}
theorem RepL.get' {ρ : RefMap} {h : Heap} {v a} (r : RepL ρ h v a) {i : Nat} {x} (e : a[i]? = some x) : ∃ y, v[i]? = some y ∧ Rep ρ h y x := r.get e
theorem call_frame {fd : FuncData} {body : List Stmt} {ps vars : List Str} {f : Addr} {vs : List Value} {as : List AV} (O : FnOk fd body ps vars) (G : Gd c.w c.hR ρ L T s) (hl : vs.length = ps.length) (r : RepL ρ s.heap vs as)
    (x : InCallC s (callEnvC fd s.heap.objs.size f).locals (bindL (callEnvC fd s.heap.objs.size f).kindOf (ps.zip vs) fun _ => none) (callEnvC fd s.heap.objs.size f).cells (bindC (callEnvC fd s.heap.objs.size f).kindOf (ps.zip vs) fun _ => none) s₁) :
    Gd c.w c.hR ρ L T s₁ ∧ Ev no s ρ T s₁ ρ T ∧ Frm c.hR (callEnvC fd s.heap.objs.size f) vars ρ (as.map some ++ List.replicate (vars.length - ps.length) none) T s₁.heap ∧ ∀ a, FA (callEnvC fd s.heap.objs.size f) a → s.heap.get? a = none := by
  refine e2a2 x.done fun h' tk e hk => ?_
  have hg : s₁.gens = s.gens := by rw [e]
  have ho : s₁.os = s.os := by rw [e]
  have hk : ∀ b o, s.heap.get? b = some o → s₁.heap.get? b = some o := x.toInCall.keep
  have x2_ := G.keepAll hg ho hk; have G' := x2_.1; have E' := x2_.2
  have hloc : (callEnvC fd s.heap.objs.size f).locals = s.heap.objs.size := rfl
  have hcel : (callEnvC fd s.heap.objs.size f).cells = cellsFrom (s.heap.objs.size + 1) fd.scope.names [] := rfl
  have hkd : ∀ n, (callEnvC fd s.heap.objs.size f).kindOf n = fd.scope.names.lookup n := fun _ => rfl
  have hnd : ((callEnvC fd s.heap.objs.size f).cells.map (·.1)).Nodup := by rw [hcel]; exact cellsFrom_keys _ _ _ O.keys List.nodup_nil (by simp)
  have hge : ∀ a, FA (callEnvC fd s.heap.objs.size f) a → s.heap.objs.size ≤ a := by
    intro a ha
    rcases ha with ha | ⟨n, hn⟩
    · rw [ha, hloc]; exact Nat.le_refl _
    · have z := x.above n a hn; rw [hloc] at z; exact Nat.le_of_lt z
  have hex : ∀ n a, (n, a) ∈ (callEnvC fd s.heap.objs.size f).cells → ∃ u, s₁.heap.IsCell a u := fun n a hn => ⟨_, x.cell n a (lookup_of_mem_nodup hnd hn)⟩
  have hla : as.length = ps.length := by rw [← r.length, hl]
  refine e1a1 O.pre fun rest hpre => ?_
  refine ⟨G', E', ⟨O.kind, O.glob, O.bi, ?_, O.nodup, ⟨_, x.toInCall.ns, fun i n v h1 h2 => ?_⟩, fun n hn => ?_, x.apart, fun p hp => ?_, fun a ha => ⟨fun ow => ?_, (G.new (hge a ha)).2.1, ?_⟩⟩, fun a ha => (G.new (hge a ha)).1⟩
  · simp only [List.length_append, List.length_map, List.length_replicate, hla]
    have : vars.length = ps.length + rest.length := by rw [hpre, List.length_append]
    lia
  · by_cases hi : i < ps.length
    · have hp : ps[i]? = some n := by rw [hpre, List.getElem?_append_left hi] at h1; exact h1
      rw [List.getElem?_append_left (by simp [hla, hi]), List.getElem?_map] at h2
      have hv : as[i]? = some v := by
        cases q : as[i]? with
        | none => rw [q] at h2; cases h2
        | some w => rw [q] at h2; cases h2; rfl
      refine e1a2 (r.get hv) fun u hu ru => ?_
      have pnd : ps.Nodup := by have z := O.nodup; rw [hpre] at z; exact (List.nodup_append.mp z).1
      have nm : n ∈ ps := List.mem_of_getElem? hp
      rcases O.par n nm with z | z
      · exact .inl ⟨by rw [hkd]; exact z, u, bindL_at _ _ _ _ i n u pnd hp hu (by rw [hkd]; exact z), E'.rep ru⟩
      · have zm : (n, NameKind.cell) ∈ fd.scope.names := mem_of_lookup z
        refine e1a1 (cellsFrom_has fd.scope.names (s.heap.objs.size + 1) [] n zm) fun a ha => ?_
        have hlk := lookup_of_mem_nodup hnd (hcel ▸ ha)
        have cc := x.cell n a hlk
        rw [bindC_at _ _ _ _ i n u pnd hp hu (by rw [hkd]; exact z)] at cc
        exact .inr ⟨.inl (by rw [hkd]; exact z), a, u, hlk, cc, E'.rep ru⟩
    · rw [List.getElem?_append_right (by simp [hla]; lia)] at h2
      rw [List.getElem?_replicate] at h2
      split at h2 <;> cases h2
  · rw [hkd] at hn
    refine e1a1 (cellsFrom_has fd.scope.names (s.heap.objs.size + 1) [] n (mem_of_lookup hn)) fun a ha => ?_
    have hlk := lookup_of_mem_nodup hnd (hcel ▸ ha)
    exact ⟨a, _, hlk, x.cell n a hlk⟩
  · have z := x.above p.1 p.2 hp
    exact Nat.ne_of_gt z
  · refine e1a2 (G.ob.notTup ow) fun o z _ => ?_
    rw [(G.new (hge a ha)).1] at z; cases z
  · rcases ha with ha | ⟨n, hn⟩
    · refine e3a2 x.toInCall.ns fun o _ _ z _ => ?_
      exact ⟨o, ha ▸ z⟩
    · refine e2a2 (hex n a hn) fun u o z _ => ?_
      exact ⟨o, z⟩
end
section
theorem lookup_isSome_of_has {ns : List (Str × NameKind)} {n : Nat} {x : Str} (h : (x, NameKind.cell) ∈ ns) (hk : (ns.map (·.1)).Nodup) : ((cellsFrom n ns []).lookup x).isSome = true := by
  refine e1a1 (cellsFrom_has ns n [] x h) fun a ha => ?_
  rw [lookup_of_mem_nodup (cellsFrom_keys ns n [] hk List.nodup_nil (by simp)) ha]; rfl
theorem room_deeper {n : Nat} {A : Around} {env : Env} (h : Room n A) (h1 : 1 ≤ n) : Room (n - 1) (A.deeper env) := by
  refine ⟨h.h, ?_, ?_⟩
  · have := h.d
    show A.depth + 1 + _ ≤ _
    lia
  · have := h.u
    show A.units + 3 + _ ≤ _
    lia
theorem call_row (HS : SortOk) {c : Cx} {f cd : Addr} {st : Stmt} {q : String} {dV pm : Value} {ps vars : List Str} {body : S} {exs : List Value} {extra args : List AV} {L : List AO} {T : Tm} {Q : AV → LT}
    (hK : ∀ P, (Kof pp P).lookup f = some (kfn st q dV pm cd)) (hc : (cd, Str.ofString q) ∈ codeTab) (hf : fnOkB st ps vars = true) (hs : chkSs (stScope st) vars body (stBody st) = true)
    (he : ∀ ρ h, RepL ρ h exs extra) (hb : ∀ (P : Params) (s : Shared) (vs : List Value), (Kof pp P).In s.heap → vs.length + exs.length = ps.length → BindsTo s (kfd st q dV pm cd) ⟨vs, []⟩ (ps.zip (vs ++ exs)))
    (h1 : 1 ≤ c.n) (hl : args.length + exs.length = ps.length)
    (w : wpS c.dn body ((args ++ extra).map some ++ List.replicate (vars.length - ps.length) none) L T (fun _ L T => Q (.d .none) L T) Q) : CallOk c (.ref f) args L T Q := by
  refine ⟨fun A s ρ vs R S G r => ?_⟩
  have O := fnOk_of (q := q) (dV := dV) (pm := pm) (cd := cd) hf
  have hvl : vs.length + exs.length = ps.length := by rw [r.length]; exact hl
  have ho := S.here G _ _ (hK _)
  have hcd : s.heap.CodeRec (kfd st q dV pm cd).code (kfd st q dV pm cd).qualname := (S.codes _ hc).keeps G.root
  refine e3a1 S.top fun s₀ mg mb TT => ?_
  have hlim : s.heap.NoLimit := TT.nolimit.keeps G.root
  have hroom : A.depth < recursionLimit := by
    have := R.d
    have e : recursionLimit = 1000 := rfl
    lia
  refine codeAny_call_function hroom ho rfl O.co O.gen O.body hcd (hb _ s vs (S.here G) hvl _ _ _ _ ?_)
  rw [O.clo]
  have hz : ∀ x ∈ ps.zip (vs ++ exs), x.1 ∈ ps := fun x hx => zip_keys _ _ _ (List.mem_map_of_mem hx)
  refine wpAny_newFunctionEnv_cells O.kind (fun x hx => (O.par x.1 (hz x hx)).imp id fun z => ⟨z, lookup_isSome_of_has (mem_of_lookup z) O.keys⟩) fun env hev s' x => ?_
  have hev : env = callEnvC (kfd st q dV pm cd) s.heap.objs.size f := hev
  subst hev
  refine ⟨hlim.keeps x.toInCall.keep, codeAny_func ?_⟩
  obtain ⟨G', E', F', N'⟩ := call_frame O G (by simp; lia) (r.append (he ρ s.heap)) x
  have g : Go c.dn (stScope st) vars (A.deeper (callEnvC (kfd st q dV pm cd) s.heap.objs.size f)) (callEnvC (kfd st q dV pm cd) s.heap.objs.size f) ρ ((args ++ extra).map some ++ List.replicate (vars.length - ps.length) none) L T s' :=
    ⟨room_deeper R h1, S, rfl, F', G'⟩
  refine wpAny_mono (okSs HS body c.dn _ _ _ hs g w) (fun fl s₂ z => ?_) fun _ _ e => e.elim
  cases fl with
  | next =>
    refine e4a4 z fun ρ' l' L' T' G2 E2 F2 k => ?_
    exact ⟨ρ', _, L', T', G2, (E'.step E2 N'), .d .none, k⟩
  | ret v =>
    refine e4a4 z fun ρ' av L' T' G2 E2 r2 k => ?_
    exact ⟨ρ', _, L', T', G2, (E'.step E2 N'), r2, k⟩
  | brk => exact z.elim
  | cont => exact z.elim
end
end Mine
end
section
open PySem.Calls
namespace Mine
theorem ln0 {P : List Value → Prop} {e : Nat} (f : P []) : ∀ vs : List Value, vs.length + e = e → P vs
  | [], _ => f
  | _ :: _, h => absurd h (by rw [List.length_cons]; lia)
theorem ln1 {P : List Value → Prop} {e : Nat} (f : ∀ a, P [a]) : ∀ vs : List Value, vs.length + e = 1 + e → P vs
  | [], h => absurd h (by rw [List.length_nil]; lia)
  | a :: r, h => ln0 (P := fun r => P (a :: r)) (e := e) (f a) r (by rw [List.length_cons] at h; lia)
theorem ln2 {P : List Value → Prop} {e : Nat} (f : ∀ a b, P [a, b]) : ∀ vs : List Value, vs.length + e = 2 + e → P vs
  | [], h => absurd h (by rw [List.length_nil]; lia)
  | a :: r, h => ln1 (P := fun r => P (a :: r)) (e := e) (f a) r (by rw [List.length_cons] at h; lia)
theorem ln3 {P : List Value → Prop} {e : Nat} (f : ∀ a b c, P [a, b, c]) : ∀ vs : List Value, vs.length + e = 3 + e → P vs
  | [], h => absurd h (by rw [List.length_nil]; lia)
  | a :: r, h => ln2 (P := fun r => P (a :: r)) (e := e) (f a) r (by rw [List.length_cons] at h; lia)
theorem ln4 {P : List Value → Prop} {e : Nat} (f : ∀ a b c d, P [a, b, c, d]) : ∀ vs : List Value, vs.length + e = 4 + e → P vs
  | [], h => absurd h (by rw [List.length_nil]; lia)
  | a :: r, h => ln3 (P := fun r => P (a :: r)) (e := e) (f a) r (by rw [List.length_cons] at h; lia)
theorem ln5 {P : List Value → Prop} {e : Nat} (f : ∀ a b c d x, P [a, b, c, d, x]) : ∀ vs : List Value, vs.length + e = 5 + e → P vs
  | [], h => absurd h (by rw [List.length_nil]; lia)
  | a :: r, h => ln4 (P := fun r => P (a :: r)) (e := e) (f a) r (by rw [List.length_cons] at h; lia)
theorem bt1 {s : Shared} {fd : FuncData} {ps : List Str} {exs : List Value} (f : ∀ a : Value, BindsTo s fd ⟨[a], []⟩ (ps.zip ([a] ++ exs))) (vs : List Value) (h : vs.length + exs.length = 1 + exs.length) : BindsTo s fd ⟨vs, []⟩ (ps.zip (vs ++ exs)) :=
  ln1 (P := fun vs => BindsTo s fd ⟨vs, []⟩ (ps.zip (vs ++ exs))) f vs h
theorem bt2 {s : Shared} {fd : FuncData} {ps : List Str} {exs : List Value} (f : ∀ a b : Value, BindsTo s fd ⟨[a, b], []⟩ (ps.zip ([a, b] ++ exs))) (vs : List Value) (h : vs.length + exs.length = 2 + exs.length) : BindsTo s fd ⟨vs, []⟩ (ps.zip (vs ++ exs)) :=
  ln2 (P := fun vs => BindsTo s fd ⟨vs, []⟩ (ps.zip (vs ++ exs))) f vs h
theorem bt3 {s : Shared} {fd : FuncData} {ps : List Str} {exs : List Value} (f : ∀ a b c : Value, BindsTo s fd ⟨[a, b, c], []⟩ (ps.zip ([a, b, c] ++ exs))) (vs : List Value) (h : vs.length + exs.length = 3 + exs.length) : BindsTo s fd ⟨vs, []⟩ (ps.zip (vs ++ exs)) :=
  ln3 (P := fun vs => BindsTo s fd ⟨vs, []⟩ (ps.zip (vs ++ exs))) f vs h
theorem bt4 {s : Shared} {fd : FuncData} {ps : List Str} {exs : List Value} (f : ∀ a b c d : Value, BindsTo s fd ⟨[a, b, c, d], []⟩ (ps.zip ([a, b, c, d] ++ exs))) (vs : List Value) (h : vs.length + exs.length = 4 + exs.length) : BindsTo s fd ⟨vs, []⟩ (ps.zip (vs ++ exs)) :=
  ln4 (P := fun vs => BindsTo s fd ⟨vs, []⟩ (ps.zip (vs ++ exs))) f vs h
theorem bt5 {s : Shared} {fd : FuncData} {ps : List Str} {exs : List Value} (f : ∀ a b c d x : Value, BindsTo s fd ⟨[a, b, c, d, x], []⟩ (ps.zip ([a, b, c, d, x] ++ exs))) (vs : List Value) (h : vs.length + exs.length = 5 + exs.length) : BindsTo s fd ⟨vs, []⟩ (ps.zip (vs ++ exs)) :=
  ln5 (P := fun vs => BindsTo s fd ⟨vs, []⟩ (ps.zip (vs ++ exs))) f vs h
theorem no_extra : ∀ ρ h, RepL ρ h [] [] := fun _ _ => .nil
noncomputable def initX : List Value := [.int 100000 723, .bool true, .int 4096 724]
theorem initX_rep : ∀ ρ h, RepL ρ h initX [.d (.int 100000), .d (.bool true), .d (.int 4096)] := fun _ _ => .cons (.d (.int _ _)) (.cons (.d (.bool _)) (.cons (.d (.int _ _)) .nil))
noncomputable def b_fixed_atoms : S :=
  (.seq (.ret (.tup (.cons (.str "[]") (.cons (.str ".") (.cons (.str "{}") (.cons (.str "-") (.cons (.str "+") (.cons (.str "*") (.cons (.str "/") (.cons (.str ",") (.cons (.str "|") (.cons (.str ";") (.cons (.str "->") (.cons (.str "\\+") (.cons (.str ":-") (.cons (.str "?-") (.cons (.str "-->") (.cons (.str "!") (.cons (.str "true") (.cons (.str "fail") (.cons (.str "false") (.cons (.str "call") (.cons (.str "=") (.cons (.str "^") (.cons (.str "error") (.cons (.str "") (.cons (.str "end_of_file") (.cons (.str "system") (.cons (.str "$VAR") (.cons (.str "catch") (.cons (.str "throw") .nil)))))))))))))))))))))))))))))))
  .nil)
noncomputable def v_fixed_atoms : List Str := []
noncomputable def p_fixed_atoms : List Str := []
theorem n_fixed_atoms (P : Params) (s : Shared) (vs : List Value) (hk : (Kof pp P).In s.heap) (h : vs.length + ([] : List Value).length = 0) : BindsTo s (kfd (fAt pp 10) "fixed_atoms" (.none) (.str (Str.ofString "clausemill.symbols") 194) 59) ⟨vs, []⟩ (p_fixed_atoms.zip (vs ++ [])) :=
  ln0 (P := fun vs => BindsTo s (kfd (fAt pp 10) "fixed_atoms" (.none) (.str (Str.ofString "clausemill.symbols") 194) 59) ⟨vs, []⟩ (p_fixed_atoms.zip (vs ++ []))) (e := 0) (BindsTo.of_eq (by kernel_rfl!)) vs h
theorem c_fixed_atoms (HS : SortOk) {c : Cx} {L : List AO} {T : Tm} {Q : AV → LT} (h1 : 1 ≤ c.n)
    (w : wpS c.dn b_fixed_atoms [] L T (fun _ L T => Q (.d .none) L T) Q) : CallOk c (.ref 60) [] L T Q :=
  call_row HS (st := fAt pp 10) (q := "fixed_atoms") (dV := .none) (pm := .str (Str.ofString "clausemill.symbols") 194) (cd := 59) (ps := p_fixed_atoms) (vars := v_fixed_atoms) (exs := []) (extra := [])
    (fun P => by kernel_rfl!) (by decide +kernel) (by decide +kernel) (by decide +kernel) no_extra n_fixed_atoms h1 rfl w
noncomputable def b_fixed_functors : S :=
  (.seq (.ret (.tup (.cons (.tup (.cons (.str ".") (.cons (.int 2) .nil))) (.cons (.tup (.cons (.str ",") (.cons (.int 2) .nil))) (.cons (.tup (.cons (.str ";") (.cons (.int 2) .nil))) (.cons (.tup (.cons (.str "->") (.cons (.int 2) .nil))) (.cons (.tup (.cons (.str "\\+") (.cons (.int 1) .nil))) (.cons (.tup (.cons (.str ":-") (.cons (.int 2) .nil))) (.cons (.tup (.cons (.str ":-") (.cons (.int 1) .nil))) (.cons (.tup (.cons (.str "?-") (.cons (.int 1) .nil))) (.cons (.tup (.cons (.str "-->") (.cons (.int 2) .nil))) (.cons (.tup (.cons (.str "{}") (.cons (.int 1) .nil))) (.cons (.tup (.cons (.str "=") (.cons (.int 2) .nil))) (.cons (.tup (.cons (.str "^") (.cons (.int 2) .nil))) (.cons (.tup (.cons (.str "-") (.cons (.int 1) .nil))) (.cons (.tup (.cons (.str "-") (.cons (.int 2) .nil))) (.cons (.tup (.cons (.str "+") (.cons (.int 2) .nil))) (.cons (.tup (.cons (.str "/") (.cons (.int 2) .nil))) (.cons (.tup (.cons (.str "error") (.cons (.int 2) .nil))) (.cons (.tup (.cons (.str "$VAR") (.cons (.int 1) .nil))) (.cons (.tup (.cons (.str "catch") (.cons (.int 3) .nil))) (.cons (.tup (.cons (.str "throw") (.cons (.int 1) .nil))) (.cons (.tup (.cons (.str "!") (.cons (.int 0) .nil))) (.cons (.tup (.cons (.str "true") (.cons (.int 0) .nil))) (.cons (.tup (.cons (.str "fail") (.cons (.int 0) .nil))) (.cons (.tup (.cons (.str "false") (.cons (.int 0) .nil))) (.cons (.tup (.cons (.str "call") (.cons (.int 1) .nil))) (.cons (.tup (.cons (.str "call") (.cons (.int 2) .nil))) (.cons (.tup (.cons (.str "call") (.cons (.int 3) .nil))) (.cons (.tup (.cons (.str "call") (.cons (.int 4) .nil))) (.cons (.tup (.cons (.str "call") (.cons (.int 5) .nil))) (.cons (.tup (.cons (.str "call") (.cons (.int 6) .nil))) (.cons (.tup (.cons (.str "call") (.cons (.int 7) .nil))) (.cons (.tup (.cons (.str "call") (.cons (.int 8) .nil))) .nil))))))))))))))))))))))))))))))))))
  .nil)
noncomputable def v_fixed_functors : List Str := []
noncomputable def p_fixed_functors : List Str := []
theorem n_fixed_functors (P : Params) (s : Shared) (vs : List Value) (hk : (Kof pp P).In s.heap) (h : vs.length + ([] : List Value).length = 0) : BindsTo s (kfd (fAt pp 11) "fixed_functors" (.none) (.str (Str.ofString "clausemill.symbols") 194) 66) ⟨vs, []⟩ (p_fixed_functors.zip (vs ++ [])) :=
  ln0 (P := fun vs => BindsTo s (kfd (fAt pp 11) "fixed_functors" (.none) (.str (Str.ofString "clausemill.symbols") 194) 66) ⟨vs, []⟩ (p_fixed_functors.zip (vs ++ []))) (e := 0) (BindsTo.of_eq (by kernel_rfl!)) vs h
theorem c_fixed_functors (HS : SortOk) {c : Cx} {L : List AO} {T : Tm} {Q : AV → LT} (h1 : 1 ≤ c.n)
    (w : wpS c.dn b_fixed_functors [] L T (fun _ L T => Q (.d .none) L T) Q) : CallOk c (.ref 67) [] L T Q :=
  call_row HS (st := fAt pp 11) (q := "fixed_functors") (dV := .none) (pm := .str (Str.ofString "clausemill.symbols") 194) (cd := 66) (ps := p_fixed_functors) (vars := v_fixed_functors) (exs := []) (extra := [])
    (fun P => by kernel_rfl!) (by decide +kernel) (by decide +kernel) (by decide +kernel) no_extra n_fixed_functors h1 rfl w
noncomputable def b_Symbols_init : S :=
  (.seq (.setA (.loc 0) .texts (.lst .nil))
  (.seq (.setA (.loc 0) .atom_numbers .dnew)
  (.seq (.setA (.loc 0) .functors (.lst .nil))
  (.seq (.setA (.loc 0) .functor_numbers .dnew)
  (.seq (.fr 1 (.val (.callF .fixed_atoms .nil)) (.seq (.ex (.mcall (.loc 0) .atom (.cons (.loc 1) .nil)))
   .nil))
  (.seq (.fr 2 (.val (.callF .fixed_functors .nil)) (.seq (.ex (.mcall (.loc 0) .func (.cons (.sub (.loc 2) (.int 0)) (.cons (.sub (.loc 2) (.int 1)) .nil))))
   .nil))
  .nil))))))
noncomputable def v_Symbols_init : List Str := ["self", "text", "row"]
noncomputable def p_Symbols_init : List Str := ["self"]
theorem n_Symbols_init (P : Params) (s : Shared) (vs : List Value) (hk : (Kof pp P).In s.heap) (h : vs.length + ([] : List Value).length = 1) : BindsTo s (kfd (mAt pp 12 0) "Symbols.__init__" (.none) (.str (Str.ofString "clausemill.symbols") 194) 80) ⟨vs, []⟩ (p_Symbols_init.zip (vs ++ [])) :=
  bt1 (fun x0 => BindsTo.of_eq (by kernel_rfl!)) vs h
theorem c_Symbols_init (HS : SortOk) {c : Cx} {a0 : AV} {L : List AO} {T : Tm} {Q : AV → LT} (h1 : 1 ≤ c.n)
    (w : wpS c.dn b_Symbols_init [some a0, none, none] L T (fun _ L T => Q (.d .none) L T) Q) : CallOk c (.ref 81) [a0] L T Q :=
  call_row HS (st := mAt pp 12 0) (q := "Symbols.__init__") (dV := .none) (pm := .str (Str.ofString "clausemill.symbols") 194) (cd := 80) (ps := p_Symbols_init) (vars := v_Symbols_init) (exs := []) (extra := [])
    (fun P => by kernel_rfl!) (by decide +kernel) (by decide +kernel) (by decide +kernel) no_extra n_Symbols_init h1 rfl w
noncomputable def b_Symbols_atom : S :=
  (.seq (.asg 2 (.dget (.attr (.loc 0) .atom_numbers) (.loc 1) (.int (-1))))
  (.seq (.ite (.cmp .ge (.loc 2) (.int 0)) (.seq (.ret (.loc 2))
   .nil) .nil)
  (.seq (.asg 3 (.len (.attr (.loc 0) .texts)))
  (.seq (.ex (.lapp (.attr (.loc 0) .texts) (.loc 1)))
  (.seq (.setI (.attr (.loc 0) .atom_numbers) (.loc 1) (.loc 3))
  (.seq (.ret (.loc 3))
  .nil))))))
noncomputable def v_Symbols_atom : List Str := ["self", "text", "found", "number"]
noncomputable def p_Symbols_atom : List Str := ["self", "text"]
theorem n_Symbols_atom (P : Params) (s : Shared) (vs : List Value) (hk : (Kof pp P).In s.heap) (h : vs.length + ([] : List Value).length = 2) : BindsTo s (kfd (mAt pp 12 1) "Symbols.atom" (.none) (.str (Str.ofString "clausemill.symbols") 194) 87) ⟨vs, []⟩ (p_Symbols_atom.zip (vs ++ [])) :=
  bt2 (fun x0 x1 => BindsTo.of_eq (by kernel_rfl!)) vs h
theorem c_Symbols_atom (HS : SortOk) {c : Cx} {a0 a1 : AV} {L : List AO} {T : Tm} {Q : AV → LT} (h1 : 1 ≤ c.n)
    (w : wpS c.dn b_Symbols_atom [some a0, some a1, none, none] L T (fun _ L T => Q (.d .none) L T) Q) : CallOk c (.ref 88) [a0, a1] L T Q :=
  call_row HS (st := mAt pp 12 1) (q := "Symbols.atom") (dV := .none) (pm := .str (Str.ofString "clausemill.symbols") 194) (cd := 87) (ps := p_Symbols_atom) (vars := v_Symbols_atom) (exs := []) (extra := [])
    (fun P => by kernel_rfl!) (by decide +kernel) (by decide +kernel) (by decide +kernel) no_extra n_Symbols_atom h1 rfl w
noncomputable def b_Symbols_functor : S :=
  (.seq (.asg 3 (.tup (.cons (.loc 1) (.cons (.loc 2) .nil))))
  (.seq (.asg 4 (.dget (.attr (.loc 0) .functor_numbers) (.loc 3) (.int (-1))))
  (.seq (.ite (.cmp .ge (.loc 4) (.int 0)) (.seq (.ret (.loc 4))
   .nil) .nil)
  (.seq (.asg 5 (.len (.attr (.loc 0) .functors)))
  (.seq (.ex (.lapp (.attr (.loc 0) .functors) (.loc 3)))
  (.seq (.setI (.attr (.loc 0) .functor_numbers) (.loc 3) (.loc 5))
  (.seq (.ret (.loc 5))
  .nil)))))))
noncomputable def v_Symbols_functor : List Str := ["self", "atom", "arity", "key", "found", "number"]
noncomputable def p_Symbols_functor : List Str := ["self", "atom", "arity"]
theorem n_Symbols_functor (P : Params) (s : Shared) (vs : List Value) (hk : (Kof pp P).In s.heap) (h : vs.length + ([] : List Value).length = 3) : BindsTo s (kfd (mAt pp 12 3) "Symbols.functor" (.none) (.str (Str.ofString "clausemill.symbols") 194) 101) ⟨vs, []⟩ (p_Symbols_functor.zip (vs ++ [])) :=
  bt3 (fun x0 x1 x2 => BindsTo.of_eq (by kernel_rfl!)) vs h
theorem c_Symbols_functor (HS : SortOk) {c : Cx} {a0 a1 a2 : AV} {L : List AO} {T : Tm} {Q : AV → LT} (h1 : 1 ≤ c.n)
    (w : wpS c.dn b_Symbols_functor [some a0, some a1, some a2, none, none, none] L T (fun _ L T => Q (.d .none) L T) Q) : CallOk c (.ref 102) [a0, a1, a2] L T Q :=
  call_row HS (st := mAt pp 12 3) (q := "Symbols.functor") (dV := .none) (pm := .str (Str.ofString "clausemill.symbols") 194) (cd := 101) (ps := p_Symbols_functor) (vars := v_Symbols_functor) (exs := []) (extra := [])
    (fun P => by kernel_rfl!) (by decide +kernel) (by decide +kernel) (by decide +kernel) no_extra n_Symbols_functor h1 rfl w
noncomputable def b_Symbols_func : S :=
  (.seq (.ret (.mcall (.loc 0) .functor (.cons (.mcall (.loc 0) .atom (.cons (.loc 1) .nil)) (.cons (.loc 2) .nil))))
  .nil)
noncomputable def v_Symbols_func : List Str := ["self", "text", "arity"]
noncomputable def p_Symbols_func : List Str := ["self", "text", "arity"]
theorem n_Symbols_func (P : Params) (s : Shared) (vs : List Value) (hk : (Kof pp P).In s.heap) (h : vs.length + ([] : List Value).length = 3) : BindsTo s (kfd (mAt pp 12 4) "Symbols.func" (.none) (.str (Str.ofString "clausemill.symbols") 194) 108) ⟨vs, []⟩ (p_Symbols_func.zip (vs ++ [])) :=
  bt3 (fun x0 x1 x2 => BindsTo.of_eq (by kernel_rfl!)) vs h
theorem c_Symbols_func (HS : SortOk) {c : Cx} {a0 a1 a2 : AV} {L : List AO} {T : Tm} {Q : AV → LT} (h1 : 1 ≤ c.n)
    (w : wpS c.dn b_Symbols_func [some a0, some a1, some a2] L T (fun _ L T => Q (.d .none) L T) Q) : CallOk c (.ref 109) [a0, a1, a2] L T Q :=
  call_row HS (st := mAt pp 12 4) (q := "Symbols.func") (dV := .none) (pm := .str (Str.ofString "clausemill.symbols") 194) (cd := 108) (ps := p_Symbols_func) (vars := v_Symbols_func) (exs := []) (extra := [])
    (fun P => by kernel_rfl!) (by decide +kernel) (by decide +kernel) (by decide +kernel) no_extra n_Symbols_func h1 rfl w
noncomputable def b_Symbols_name : S :=
  (.seq (.ret (.sub (.sub (.attr (.loc 0) .functors) (.loc 1)) (.int 0)))
  .nil)
noncomputable def v_Symbols_name : List Str := ["self", "functor"]
noncomputable def p_Symbols_name : List Str := ["self", "functor"]
theorem n_Symbols_name (P : Params) (s : Shared) (vs : List Value) (hk : (Kof pp P).In s.heap) (h : vs.length + ([] : List Value).length = 2) : BindsTo s (kfd (mAt pp 12 5) "Symbols.name" (.none) (.str (Str.ofString "clausemill.symbols") 194) 115) ⟨vs, []⟩ (p_Symbols_name.zip (vs ++ [])) :=
  bt2 (fun x0 x1 => BindsTo.of_eq (by kernel_rfl!)) vs h
theorem c_Symbols_name (HS : SortOk) {c : Cx} {a0 a1 : AV} {L : List AO} {T : Tm} {Q : AV → LT} (h1 : 1 ≤ c.n)
    (w : wpS c.dn b_Symbols_name [some a0, some a1] L T (fun _ L T => Q (.d .none) L T) Q) : CallOk c (.ref 116) [a0, a1] L T Q :=
  call_row HS (st := mAt pp 12 5) (q := "Symbols.name") (dV := .none) (pm := .str (Str.ofString "clausemill.symbols") 194) (cd := 115) (ps := p_Symbols_name) (vars := v_Symbols_name) (exs := []) (extra := [])
    (fun P => by kernel_rfl!) (by decide +kernel) (by decide +kernel) (by decide +kernel) no_extra n_Symbols_name h1 rfl w
noncomputable def b_Symbols_arity : S :=
  (.seq (.ret (.sub (.sub (.attr (.loc 0) .functors) (.loc 1)) (.int 1)))
  .nil)
noncomputable def v_Symbols_arity : List Str := ["self", "functor"]
noncomputable def p_Symbols_arity : List Str := ["self", "functor"]
theorem n_Symbols_arity (P : Params) (s : Shared) (vs : List Value) (hk : (Kof pp P).In s.heap) (h : vs.length + ([] : List Value).length = 2) : BindsTo s (kfd (mAt pp 12 6) "Symbols.arity" (.none) (.str (Str.ofString "clausemill.symbols") 194) 122) ⟨vs, []⟩ (p_Symbols_arity.zip (vs ++ [])) :=
  bt2 (fun x0 x1 => BindsTo.of_eq (by kernel_rfl!)) vs h
theorem c_Symbols_arity (HS : SortOk) {c : Cx} {a0 a1 : AV} {L : List AO} {T : Tm} {Q : AV → LT} (h1 : 1 ≤ c.n)
    (w : wpS c.dn b_Symbols_arity [some a0, some a1] L T (fun _ L T => Q (.d .none) L T) Q) : CallOk c (.ref 123) [a0, a1] L T Q :=
  call_row HS (st := mAt pp 12 6) (q := "Symbols.arity") (dV := .none) (pm := .str (Str.ofString "clausemill.symbols") 194) (cd := 122) (ps := p_Symbols_arity) (vars := v_Symbols_arity) (exs := []) (extra := [])
    (fun P => by kernel_rfl!) (by decide +kernel) (by decide +kernel) (by decide +kernel) no_extra n_Symbols_arity h1 rfl w
noncomputable def b_Cells_init : S :=
  (.seq (.setA (.loc 0) .symbols (.loc 1))
  (.seq (.setA (.loc 0) .max_heap (.loc 2))
  (.seq (.setA (.loc 0) .heap (.lst .nil))
  (.seq (.setA (.loc 0) .stack (.lst .nil))
  (.seq (.setA (.loc 0) .trail (.lst .nil))
  (.seq (.setA (.loc 0) .hb (.int 0))
  (.seq (.setA (.loc 0) .bb (.int 0))
  .nil)))))))
noncomputable def v_Cells_init : List Str := ["self", "symbols", "max_heap"]
noncomputable def p_Cells_init : List Str := ["self", "symbols", "max_heap"]
theorem n_Cells_init (P : Params) (s : Shared) (vs : List Value) (hk : (Kof pp P).In s.heap) (h : vs.length + ([] : List Value).length = 3) : BindsTo s (kfd (mAt pp 26 0) "Cells.__init__" (.ref 188) (.str (Str.ofString "clausemill.store") 413) 194) ⟨vs, []⟩ (p_Cells_init.zip (vs ++ [])) :=
  bt3 (fun x0 x1 x2 => BindsTo.of_defaults (T := 188) (o := ⟨.type "tuple", none, .seq #[.int 100000 443] 0, #[]⟩) rfl (hk _ _ (by kernel_rfl!)) rfl rfl rfl) vs h
theorem c_Cells_init (HS : SortOk) {c : Cx} {a0 a1 a2 : AV} {L : List AO} {T : Tm} {Q : AV → LT} (h1 : 1 ≤ c.n)
    (w : wpS c.dn b_Cells_init [some a0, some a1, some a2] L T (fun _ L T => Q (.d .none) L T) Q) : CallOk c (.ref 195) [a0, a1, a2] L T Q :=
  call_row HS (st := mAt pp 26 0) (q := "Cells.__init__") (dV := .ref 188) (pm := .str (Str.ofString "clausemill.store") 413) (cd := 194) (ps := p_Cells_init) (vars := v_Cells_init) (exs := []) (extra := [])
    (fun P => by kernel_rfl!) (by decide +kernel) (by decide +kernel) (by decide +kernel) no_extra n_Cells_init h1 rfl w
noncomputable def b_Cells_push : S :=
  (.seq (.asg 2 (.len (.attr (.loc 0) .heap)))
  (.seq (.ite (.cmp .ge (.loc 2) (.attr (.loc 0) .max_heap)) (.seq .bad
   .nil) .nil)
  (.seq (.ex (.lapp (.attr (.loc 0) .heap) (.loc 1)))
  (.seq (.ret (.loc 2))
  .nil))))
noncomputable def v_Cells_push : List Str := ["self", "cell", "address"]
noncomputable def p_Cells_push : List Str := ["self", "cell"]
theorem n_Cells_push (P : Params) (s : Shared) (vs : List Value) (hk : (Kof pp P).In s.heap) (h : vs.length + ([] : List Value).length = 2) : BindsTo s (kfd (mAt pp 26 1) "Cells.push" (.none) (.str (Str.ofString "clausemill.store") 413) 201) ⟨vs, []⟩ (p_Cells_push.zip (vs ++ [])) :=
  bt2 (fun x0 x1 => BindsTo.of_eq (by kernel_rfl!)) vs h
theorem c_Cells_push (HS : SortOk) {c : Cx} {a0 a1 : AV} {L : List AO} {T : Tm} {Q : AV → LT} (h1 : 1 ≤ c.n)
    (w : wpS c.dn b_Cells_push [some a0, some a1, none] L T (fun _ L T => Q (.d .none) L T) Q) : CallOk c (.ref 202) [a0, a1] L T Q :=
  call_row HS (st := mAt pp 26 1) (q := "Cells.push") (dV := .none) (pm := .str (Str.ofString "clausemill.store") 413) (cd := 201) (ps := p_Cells_push) (vars := v_Cells_push) (exs := []) (extra := [])
    (fun P => by kernel_rfl!) (by decide +kernel) (by decide +kernel) (by decide +kernel) no_extra n_Cells_push h1 rfl w
noncomputable def b_Cells_new_var : S :=
  (.seq (.asg 1 (.tup (.cons (.gl .REF) (.cons (.len (.attr (.loc 0) .heap)) .nil))))
  (.seq (.ex (.mcall (.loc 0) .push (.cons (.loc 1) .nil)))
  (.seq (.ret (.loc 1))
  .nil)))
noncomputable def v_Cells_new_var : List Str := ["self", "cell"]
noncomputable def p_Cells_new_var : List Str := ["self"]
theorem n_Cells_new_var (P : Params) (s : Shared) (vs : List Value) (hk : (Kof pp P).In s.heap) (h : vs.length + ([] : List Value).length = 1) : BindsTo s (kfd (mAt pp 26 2) "Cells.new_var" (.none) (.str (Str.ofString "clausemill.store") 413) 208) ⟨vs, []⟩ (p_Cells_new_var.zip (vs ++ [])) :=
  bt1 (fun x0 => BindsTo.of_eq (by kernel_rfl!)) vs h
theorem c_Cells_new_var (HS : SortOk) {c : Cx} {a0 : AV} {L : List AO} {T : Tm} {Q : AV → LT} (h1 : 1 ≤ c.n)
    (w : wpS c.dn b_Cells_new_var [some a0, none] L T (fun _ L T => Q (.d .none) L T) Q) : CallOk c (.ref 209) [a0] L T Q :=
  call_row HS (st := mAt pp 26 2) (q := "Cells.new_var") (dV := .none) (pm := .str (Str.ofString "clausemill.store") 413) (cd := 208) (ps := p_Cells_new_var) (vars := v_Cells_new_var) (exs := []) (extra := [])
    (fun P => by kernel_rfl!) (by decide +kernel) (by decide +kernel) (by decide +kernel) no_extra n_Cells_new_var h1 rfl w
noncomputable def b_Cells_reserve : S :=
  (.seq (.asg 2 (.len (.attr (.loc 0) .heap)))
  (.seq (.ite (.cmp .gt (.bin .add (.loc 2) (.loc 1)) (.attr (.loc 0) .max_heap)) (.seq .bad
   .nil) .nil)
  (.seq (.fr 3 (.r1 (.loc 1)) (.seq (.ex (.lapp (.attr (.loc 0) .heap) (.tup (.cons (.gl .REF) (.cons (.bin .add (.loc 2) (.loc 3)) .nil)))))
   .nil))
  (.seq (.ret (.loc 2))
  .nil))))
noncomputable def v_Cells_reserve : List Str := ["self", "count", "first", "step"]
noncomputable def p_Cells_reserve : List Str := ["self", "count"]
theorem n_Cells_reserve (P : Params) (s : Shared) (vs : List Value) (hk : (Kof pp P).In s.heap) (h : vs.length + ([] : List Value).length = 2) : BindsTo s (kfd (mAt pp 26 3) "Cells.reserve" (.none) (.str (Str.ofString "clausemill.store") 413) 215) ⟨vs, []⟩ (p_Cells_reserve.zip (vs ++ [])) :=
  bt2 (fun x0 x1 => BindsTo.of_eq (by kernel_rfl!)) vs h
theorem c_Cells_reserve (HS : SortOk) {c : Cx} {a0 a1 : AV} {L : List AO} {T : Tm} {Q : AV → LT} (h1 : 1 ≤ c.n)
    (w : wpS c.dn b_Cells_reserve [some a0, some a1, none, none] L T (fun _ L T => Q (.d .none) L T) Q) : CallOk c (.ref 216) [a0, a1] L T Q :=
  call_row HS (st := mAt pp 26 3) (q := "Cells.reserve") (dV := .none) (pm := .str (Str.ofString "clausemill.store") 413) (cd := 215) (ps := p_Cells_reserve) (vars := v_Cells_reserve) (exs := []) (extra := [])
    (fun P => by kernel_rfl!) (by decide +kernel) (by decide +kernel) (by decide +kernel) no_extra n_Cells_reserve h1 rfl w
noncomputable def b_Cells_trim : S :=
  (.seq (.delLo (.attr (.loc 0) .heap) (.loc 1))
  .nil)
noncomputable def v_Cells_trim : List Str := ["self", "h"]
noncomputable def p_Cells_trim : List Str := ["self", "h"]
theorem n_Cells_trim (P : Params) (s : Shared) (vs : List Value) (hk : (Kof pp P).In s.heap) (h : vs.length + ([] : List Value).length = 2) : BindsTo s (kfd (mAt pp 26 4) "Cells.trim" (.none) (.str (Str.ofString "clausemill.store") 413) 222) ⟨vs, []⟩ (p_Cells_trim.zip (vs ++ [])) :=
  bt2 (fun x0 x1 => BindsTo.of_eq (by kernel_rfl!)) vs h
theorem c_Cells_trim (HS : SortOk) {c : Cx} {a0 a1 : AV} {L : List AO} {T : Tm} {Q : AV → LT} (h1 : 1 ≤ c.n)
    (w : wpS c.dn b_Cells_trim [some a0, some a1] L T (fun _ L T => Q (.d .none) L T) Q) : CallOk c (.ref 223) [a0, a1] L T Q :=
  call_row HS (st := mAt pp 26 4) (q := "Cells.trim") (dV := .none) (pm := .str (Str.ofString "clausemill.store") 413) (cd := 222) (ps := p_Cells_trim) (vars := v_Cells_trim) (exs := []) (extra := [])
    (fun P => by kernel_rfl!) (by decide +kernel) (by decide +kernel) (by decide +kernel) no_extra n_Cells_trim h1 rfl w
noncomputable def b_Cells_deref : S :=
  (.seq (.whl .tt (.seq (.asg 2 (.sub (.loc 1) (.int 0)))
   (.seq (.ite (.cmp .eq (.loc 2) (.gl .REF)) (.seq (.asg 3 (.sub (.attr (.loc 0) .heap) (.sub (.loc 1) (.int 1))))
    .nil) (.seq (.ite (.cmp .eq (.loc 2) (.gl .SRF)) (.seq (.asg 3 (.sub (.attr (.loc 0) .stack) (.sub (.loc 1) (.int 1))))
     .nil) (.seq (.ret (.loc 1))
     .nil))
    .nil))
   (.seq (.ite (.cmp .eq (.loc 3) (.loc 1)) (.seq (.ret (.loc 1))
    .nil) .nil)
   (.seq (.asg 1 (.loc 3))
   .nil)))))
  .nil)
noncomputable def v_Cells_deref : List Str := ["self", "cell", "tag", "found"]
noncomputable def p_Cells_deref : List Str := ["self", "cell"]
theorem n_Cells_deref (P : Params) (s : Shared) (vs : List Value) (hk : (Kof pp P).In s.heap) (h : vs.length + ([] : List Value).length = 2) : BindsTo s (kfd (mAt pp 26 5) "Cells.deref" (.none) (.str (Str.ofString "clausemill.store") 413) 229) ⟨vs, []⟩ (p_Cells_deref.zip (vs ++ [])) :=
  bt2 (fun x0 x1 => BindsTo.of_eq (by kernel_rfl!)) vs h
theorem c_Cells_deref (HS : SortOk) {c : Cx} {a0 a1 : AV} {L : List AO} {T : Tm} {Q : AV → LT} (h1 : 1 ≤ c.n)
    (w : wpS c.dn b_Cells_deref [some a0, some a1, none, none] L T (fun _ L T => Q (.d .none) L T) Q) : CallOk c (.ref 230) [a0, a1] L T Q :=
  call_row HS (st := mAt pp 26 5) (q := "Cells.deref") (dV := .none) (pm := .str (Str.ofString "clausemill.store") 413) (cd := 229) (ps := p_Cells_deref) (vars := v_Cells_deref) (exs := []) (extra := [])
    (fun P => by kernel_rfl!) (by decide +kernel) (by decide +kernel) (by decide +kernel) no_extra n_Cells_deref h1 rfl w
noncomputable def b_Cells_bind : S :=
  (.seq (.asg 3 (.sub (.loc 1) (.int 1)))
  (.seq (.ite (.cmp .eq (.sub (.loc 1) (.int 0)) (.gl .REF)) (.seq (.setI (.attr (.loc 0) .heap) (.loc 3) (.loc 2))
   (.seq (.ite (.cmp .lt (.loc 3) (.attr (.loc 0) .hb)) (.seq (.ex (.lapp (.attr (.loc 0) .trail) (.loc 3)))
    .nil) .nil)
   .nil)) (.seq (.setI (.attr (.loc 0) .stack) (.loc 3) (.loc 2))
   (.seq (.ite (.cmp .lt (.loc 3) (.attr (.loc 0) .bb)) (.seq (.ex (.lapp (.attr (.loc 0) .trail) (.bin .sub (.int (-1)) (.loc 3))))
    .nil) .nil)
   .nil)))
  .nil))
noncomputable def v_Cells_bind : List Str := ["self", "cell", "value", "place"]
noncomputable def p_Cells_bind : List Str := ["self", "cell", "value"]
theorem n_Cells_bind (P : Params) (s : Shared) (vs : List Value) (hk : (Kof pp P).In s.heap) (h : vs.length + ([] : List Value).length = 3) : BindsTo s (kfd (mAt pp 26 7) "Cells.bind" (.none) (.str (Str.ofString "clausemill.store") 413) 243) ⟨vs, []⟩ (p_Cells_bind.zip (vs ++ [])) :=
  bt3 (fun x0 x1 x2 => BindsTo.of_eq (by kernel_rfl!)) vs h
theorem c_Cells_bind (HS : SortOk) {c : Cx} {a0 a1 a2 : AV} {L : List AO} {T : Tm} {Q : AV → LT} (h1 : 1 ≤ c.n)
    (w : wpS c.dn b_Cells_bind [some a0, some a1, some a2, none] L T (fun _ L T => Q (.d .none) L T) Q) : CallOk c (.ref 244) [a0, a1, a2] L T Q :=
  call_row HS (st := mAt pp 26 7) (q := "Cells.bind") (dV := .none) (pm := .str (Str.ofString "clausemill.store") 413) (cd := 243) (ps := p_Cells_bind) (vars := v_Cells_bind) (exs := []) (extra := [])
    (fun P => by kernel_rfl!) (by decide +kernel) (by decide +kernel) (by decide +kernel) no_extra n_Cells_bind h1 rfl w
noncomputable def b_Cells_bind_pair : S :=
  (.seq (.ite (.cmp .eq (.loc 1) (.loc 2)) (.seq .retN
   .nil) .nil)
  (.seq (.ite (.cmp .eq (.sub (.loc 1) (.int 0)) (.sub (.loc 2) (.int 0))) (.seq (.ite (.cmp .lt (.sub (.loc 1) (.int 1)) (.sub (.loc 2) (.int 1))) (.seq (.ex (.mcall (.loc 0) .bind (.cons (.loc 2) (.cons (.loc 1) .nil))))
    .nil) (.seq (.ex (.mcall (.loc 0) .bind (.cons (.loc 1) (.cons (.loc 2) .nil))))
    .nil))
   .nil) (.seq (.ite (.cmp .eq (.sub (.loc 1) (.int 0)) (.gl .SRF)) (.seq (.ex (.mcall (.loc 0) .bind (.cons (.loc 1) (.cons (.loc 2) .nil))))
    .nil) (.seq (.ex (.mcall (.loc 0) .bind (.cons (.loc 2) (.cons (.loc 1) .nil))))
    .nil))
   .nil))
  .nil))
noncomputable def v_Cells_bind_pair : List Str := ["self", "c1", "c2"]
noncomputable def p_Cells_bind_pair : List Str := ["self", "c1", "c2"]
theorem n_Cells_bind_pair (P : Params) (s : Shared) (vs : List Value) (hk : (Kof pp P).In s.heap) (h : vs.length + ([] : List Value).length = 3) : BindsTo s (kfd (mAt pp 26 8) "Cells.bind_pair" (.none) (.str (Str.ofString "clausemill.store") 413) 250) ⟨vs, []⟩ (p_Cells_bind_pair.zip (vs ++ [])) :=
  bt3 (fun x0 x1 x2 => BindsTo.of_eq (by kernel_rfl!)) vs h
theorem c_Cells_bind_pair (HS : SortOk) {c : Cx} {a0 a1 a2 : AV} {L : List AO} {T : Tm} {Q : AV → LT} (h1 : 1 ≤ c.n)
    (w : wpS c.dn b_Cells_bind_pair [some a0, some a1, some a2] L T (fun _ L T => Q (.d .none) L T) Q) : CallOk c (.ref 251) [a0, a1, a2] L T Q :=
  call_row HS (st := mAt pp 26 8) (q := "Cells.bind_pair") (dV := .none) (pm := .str (Str.ofString "clausemill.store") 413) (cd := 250) (ps := p_Cells_bind_pair) (vars := v_Cells_bind_pair) (exs := []) (extra := [])
    (fun P => by kernel_rfl!) (by decide +kernel) (by decide +kernel) (by decide +kernel) no_extra n_Cells_bind_pair h1 rfl w
noncomputable def b_Cells_globalise : S :=
  (.seq (.asg 1 (.mcall (.loc 0) .deref (.cons (.loc 1) .nil)))
  (.seq (.ite (.cmp .eq (.sub (.loc 1) (.int 0)) (.gl .SRF)) (.seq (.asg 2 (.mcall (.loc 0) .new_var .nil))
   (.seq (.ex (.mcall (.loc 0) .bind (.cons (.loc 1) (.cons (.loc 2) .nil))))
   (.seq (.ret (.loc 2))
   .nil))) .nil)
  (.seq (.ret (.loc 1))
  .nil)))
noncomputable def v_Cells_globalise : List Str := ["self", "cell", "fresh"]
noncomputable def p_Cells_globalise : List Str := ["self", "cell"]
theorem n_Cells_globalise (P : Params) (s : Shared) (vs : List Value) (hk : (Kof pp P).In s.heap) (h : vs.length + ([] : List Value).length = 2) : BindsTo s (kfd (mAt pp 26 9) "Cells.globalise" (.none) (.str (Str.ofString "clausemill.store") 413) 257) ⟨vs, []⟩ (p_Cells_globalise.zip (vs ++ [])) :=
  bt2 (fun x0 x1 => BindsTo.of_eq (by kernel_rfl!)) vs h
theorem c_Cells_globalise (HS : SortOk) {c : Cx} {a0 a1 : AV} {L : List AO} {T : Tm} {Q : AV → LT} (h1 : 1 ≤ c.n)
    (w : wpS c.dn b_Cells_globalise [some a0, some a1, none] L T (fun _ L T => Q (.d .none) L T) Q) : CallOk c (.ref 258) [a0, a1] L T Q :=
  call_row HS (st := mAt pp 26 9) (q := "Cells.globalise") (dV := .none) (pm := .str (Str.ofString "clausemill.store") 413) (cd := 257) (ps := p_Cells_globalise) (vars := v_Cells_globalise) (exs := []) (extra := [])
    (fun P => by kernel_rfl!) (by decide +kernel) (by decide +kernel) (by decide +kernel) no_extra n_Cells_globalise h1 rfl w
noncomputable def b_Cells_mark : S :=
  (.seq (.ret (.len (.attr (.loc 0) .trail)))
  .nil)
noncomputable def v_Cells_mark : List Str := ["self"]
noncomputable def p_Cells_mark : List Str := ["self"]
theorem n_Cells_mark (P : Params) (s : Shared) (vs : List Value) (hk : (Kof pp P).In s.heap) (h : vs.length + ([] : List Value).length = 1) : BindsTo s (kfd (mAt pp 26 10) "Cells.mark" (.none) (.str (Str.ofString "clausemill.store") 413) 264) ⟨vs, []⟩ (p_Cells_mark.zip (vs ++ [])) :=
  bt1 (fun x0 => BindsTo.of_eq (by kernel_rfl!)) vs h
theorem c_Cells_mark (HS : SortOk) {c : Cx} {a0 : AV} {L : List AO} {T : Tm} {Q : AV → LT} (h1 : 1 ≤ c.n)
    (w : wpS c.dn b_Cells_mark [some a0] L T (fun _ L T => Q (.d .none) L T) Q) : CallOk c (.ref 265) [a0] L T Q :=
  call_row HS (st := mAt pp 26 10) (q := "Cells.mark") (dV := .none) (pm := .str (Str.ofString "clausemill.store") 413) (cd := 264) (ps := p_Cells_mark) (vars := v_Cells_mark) (exs := []) (extra := [])
    (fun P => by kernel_rfl!) (by decide +kernel) (by decide +kernel) (by decide +kernel) no_extra n_Cells_mark h1 rfl w
noncomputable def b_Cells_undo_to : S :=
  (.seq (.whl (.cmp .gt (.len (.attr (.loc 0) .trail)) (.loc 1)) (.seq (.asg 2 (.lpop (.attr (.loc 0) .trail)))
   (.seq (.ite (.cmp .ge (.loc 2) (.int 0)) (.seq (.setI (.attr (.loc 0) .heap) (.loc 2) (.tup (.cons (.gl .REF) (.cons (.loc 2) .nil))))
    .nil) (.seq (.asg 3 (.bin .sub (.int (-1)) (.loc 2)))
    (.seq (.setI (.attr (.loc 0) .stack) (.loc 3) (.tup (.cons (.gl .SRF) (.cons (.loc 3) .nil))))
    .nil)))
   .nil)))
  .nil)
noncomputable def v_Cells_undo_to : List Str := ["self", "mark", "entry", "slot"]
noncomputable def p_Cells_undo_to : List Str := ["self", "mark"]
theorem n_Cells_undo_to (P : Params) (s : Shared) (vs : List Value) (hk : (Kof pp P).In s.heap) (h : vs.length + ([] : List Value).length = 2) : BindsTo s (kfd (mAt pp 26 11) "Cells.undo_to" (.none) (.str (Str.ofString "clausemill.store") 413) 271) ⟨vs, []⟩ (p_Cells_undo_to.zip (vs ++ [])) :=
  bt2 (fun x0 x1 => BindsTo.of_eq (by kernel_rfl!)) vs h
theorem c_Cells_undo_to (HS : SortOk) {c : Cx} {a0 a1 : AV} {L : List AO} {T : Tm} {Q : AV → LT} (h1 : 1 ≤ c.n)
    (w : wpS c.dn b_Cells_undo_to [some a0, some a1, none, none] L T (fun _ L T => Q (.d .none) L T) Q) : CallOk c (.ref 272) [a0, a1] L T Q :=
  call_row HS (st := mAt pp 26 11) (q := "Cells.undo_to") (dV := .none) (pm := .str (Str.ofString "clausemill.store") 413) (cd := 271) (ps := p_Cells_undo_to) (vars := v_Cells_undo_to) (exs := []) (extra := [])
    (fun P => by kernel_rfl!) (by decide +kernel) (by decide +kernel) (by decide +kernel) no_extra n_Cells_undo_to h1 rfl w
noncomputable def b_Cells_stack_put : S :=
  (.seq (.asg 3 (.attr (.loc 0) .stack))
  (.seq (.ite (.cmp .lt (.loc 1) (.len (.loc 3))) (.seq (.setI (.loc 3) (.loc 1) (.loc 2))
   (.seq .retN
   .nil)) .nil)
  (.seq (.whl (.cmp .lt (.len (.loc 3)) (.loc 1)) (.seq (.ex (.lapp (.loc 3) (.gl .VOID)))
   .nil))
  (.seq (.ex (.lapp (.loc 3) (.loc 2)))
  .nil))))
noncomputable def v_Cells_stack_put : List Str := ["self", "i", "value", "stack"]
noncomputable def p_Cells_stack_put : List Str := ["self", "i", "value"]
theorem n_Cells_stack_put (P : Params) (s : Shared) (vs : List Value) (hk : (Kof pp P).In s.heap) (h : vs.length + ([] : List Value).length = 3) : BindsTo s (kfd (mAt pp 26 12) "Cells.stack_put" (.none) (.str (Str.ofString "clausemill.store") 413) 278) ⟨vs, []⟩ (p_Cells_stack_put.zip (vs ++ [])) :=
  bt3 (fun x0 x1 x2 => BindsTo.of_eq (by kernel_rfl!)) vs h
theorem c_Cells_stack_put (HS : SortOk) {c : Cx} {a0 a1 a2 : AV} {L : List AO} {T : Tm} {Q : AV → LT} (h1 : 1 ≤ c.n)
    (w : wpS c.dn b_Cells_stack_put [some a0, some a1, some a2, none] L T (fun _ L T => Q (.d .none) L T) Q) : CallOk c (.ref 279) [a0, a1, a2] L T Q :=
  call_row HS (st := mAt pp 26 12) (q := "Cells.stack_put") (dV := .none) (pm := .str (Str.ofString "clausemill.store") 413) (cd := 278) (ps := p_Cells_stack_put) (vars := v_Cells_stack_put) (exs := []) (extra := [])
    (fun P => by kernel_rfl!) (by decide +kernel) (by decide +kernel) (by decide +kernel) no_extra n_Cells_stack_put h1 rfl w
noncomputable def b_Cells_base : S :=
  (.seq (.ite (.cmp .eq (.sub (.loc 1) (.int 0)) (.gl .LIS)) (.seq (.ret (.sub (.loc 1) (.int 1)))
   .nil) .nil)
  (.seq (.ret (.bin .add (.sub (.loc 1) (.int 1)) (.int 1)))
  .nil))
noncomputable def v_Cells_base : List Str := ["self", "cell"]
noncomputable def p_Cells_base : List Str := ["self", "cell"]
theorem n_Cells_base (P : Params) (s : Shared) (vs : List Value) (hk : (Kof pp P).In s.heap) (h : vs.length + ([] : List Value).length = 2) : BindsTo s (kfd (mAt pp 26 16) "Cells.base" (.none) (.str (Str.ofString "clausemill.store") 413) 306) ⟨vs, []⟩ (p_Cells_base.zip (vs ++ [])) :=
  bt2 (fun x0 x1 => BindsTo.of_eq (by kernel_rfl!)) vs h
theorem c_Cells_base (HS : SortOk) {c : Cx} {a0 a1 : AV} {L : List AO} {T : Tm} {Q : AV → LT} (h1 : 1 ≤ c.n)
    (w : wpS c.dn b_Cells_base [some a0, some a1] L T (fun _ L T => Q (.d .none) L T) Q) : CallOk c (.ref 307) [a0, a1] L T Q :=
  call_row HS (st := mAt pp 26 16) (q := "Cells.base") (dV := .none) (pm := .str (Str.ofString "clausemill.store") 413) (cd := 306) (ps := p_Cells_base) (vars := v_Cells_base) (exs := []) (extra := [])
    (fun P => by kernel_rfl!) (by decide +kernel) (by decide +kernel) (by decide +kernel) no_extra n_Cells_base h1 rfl w
noncomputable def b_Cells_new_block : S :=
  (.seq (.ite (.cmp .eq (.loc 1) (.gl .F_DOT)) (.seq (.ret (.tup (.cons (.gl .LIS) (.cons (.mcall (.loc 0) .reserve (.cons (.int 2) .nil)) .nil))))
   .nil) .nil)
  (.seq (.asg 2 (.mcall (.loc 0) .reserve (.cons (.bin .add (.int 1) (.mcall (.attr (.loc 0) .symbols) .arity (.cons (.loc 1) .nil))) .nil)))
  (.seq (.setI (.attr (.loc 0) .heap) (.loc 2) (.tup (.cons (.gl .FUN) (.cons (.loc 1) .nil))))
  (.seq (.ret (.tup (.cons (.gl .STR) (.cons (.loc 2) .nil))))
  .nil))))
noncomputable def v_Cells_new_block : List Str := ["self", "f", "start"]
noncomputable def p_Cells_new_block : List Str := ["self", "f"]
theorem n_Cells_new_block (P : Params) (s : Shared) (vs : List Value) (hk : (Kof pp P).In s.heap) (h : vs.length + ([] : List Value).length = 2) : BindsTo s (kfd (mAt pp 26 18) "Cells.new_block" (.none) (.str (Str.ofString "clausemill.store") 413) 320) ⟨vs, []⟩ (p_Cells_new_block.zip (vs ++ [])) :=
  bt2 (fun x0 x1 => BindsTo.of_eq (by kernel_rfl!)) vs h
theorem c_Cells_new_block (HS : SortOk) {c : Cx} {a0 a1 : AV} {L : List AO} {T : Tm} {Q : AV → LT} (h1 : 1 ≤ c.n)
    (w : wpS c.dn b_Cells_new_block [some a0, some a1, none] L T (fun _ L T => Q (.d .none) L T) Q) : CallOk c (.ref 321) [a0, a1] L T Q :=
  call_row HS (st := mAt pp 26 18) (q := "Cells.new_block") (dV := .none) (pm := .str (Str.ofString "clausemill.store") 413) (cd := 320) (ps := p_Cells_new_block) (vars := v_Cells_new_block) (exs := []) (extra := [])
    (fun P => by kernel_rfl!) (by decide +kernel) (by decide +kernel) (by decide +kernel) no_extra n_Cells_new_block h1 rfl w
noncomputable def b_Store_new_struct : S :=
  (.seq (.ite (.cmp .eq (.len (.loc 2)) (.int 0)) (.seq (.ret (.tup (.cons (.gl .CON) (.cons (.mcall (.attr (.loc 0) .symbols) .name (.cons (.loc 1) .nil)) .nil))))
   .nil) .nil)
  (.seq (.asg 3 (.lst .nil))
  (.seq (.fr 4 (.val (.loc 2)) (.seq (.ex (.lapp (.loc 3) (.mcall (.loc 0) .globalise (.cons (.loc 4) .nil))))
   .nil))
  (.seq (.asg 5 (.mcall (.loc 0) .new_block (.cons (.loc 1) .nil)))
  (.seq (.asg 6 (.mcall (.loc 0) .base (.cons (.loc 5) .nil)))
  (.seq (.fr 7 (.val (.loc 3)) (.seq (.setI (.attr (.loc 0) .heap) (.loc 6) (.loc 7))
   (.seq (.augL 6 (.int 1))
   .nil)))
  (.seq (.ret (.loc 5))
  .nil)))))))
noncomputable def v_Store_new_struct : List Str := ["self", "f", "cells", "values", "cell", "made", "place", "value"]
noncomputable def p_Store_new_struct : List Str := ["self", "f", "cells"]
theorem n_Store_new_struct (P : Params) (s : Shared) (vs : List Value) (hk : (Kof pp P).In s.heap) (h : vs.length + ([] : List Value).length = 3) : BindsTo s (kfd (mAt pp 27 0) "Store.new_struct" (.none) (.str (Str.ofString "clausemill.store") 413) 341) ⟨vs, []⟩ (p_Store_new_struct.zip (vs ++ [])) :=
  bt3 (fun x0 x1 x2 => BindsTo.of_eq (by kernel_rfl!)) vs h
theorem c_Store_new_struct (HS : SortOk) {c : Cx} {a0 a1 a2 : AV} {L : List AO} {T : Tm} {Q : AV → LT} (h1 : 1 ≤ c.n)
    (w : wpS c.dn b_Store_new_struct [some a0, some a1, some a2, none, none, none, none, none] L T (fun _ L T => Q (.d .none) L T) Q) : CallOk c (.ref 342) [a0, a1, a2] L T Q :=
  call_row HS (st := mAt pp 27 0) (q := "Store.new_struct") (dV := .none) (pm := .str (Str.ofString "clausemill.store") 413) (cd := 341) (ps := p_Store_new_struct) (vars := v_Store_new_struct) (exs := []) (extra := [])
    (fun P => by kernel_rfl!) (by decide +kernel) (by decide +kernel) (by decide +kernel) no_extra n_Store_new_struct h1 rfl w
noncomputable def b_Areas_init : S :=
  (.seq (.setA (.loc 0) .symbols (.loc 1))
  (.seq (.setA (.loc 0) .code (.loc 2))
  (.seq (.setA (.loc 0) .max_heap (.loc 3))
  (.seq (.setA (.loc 0) .occurs (.loc 4))
  (.seq (.setA (.loc 0) .max_bits (.loc 5))
  (.seq (.ex (.mcall (.loc 0) .reset .nil))
  .nil))))))
noncomputable def v_Areas_init : List Str := ["self", "symbols", "code", "max_heap", "occurs", "max_bits"]
noncomputable def p_Areas_init : List Str := ["self", "symbols", "code", "max_heap", "occurs", "max_bits"]
theorem n_Areas_init (P : Params) (s : Shared) (vs : List Value) (hk : (Kof pp P).In s.heap) (h : vs.length + (initX : List Value).length = 6) : BindsTo s (kfd (mAt pp 38 0) "Areas.__init__" (.ref 384) (.str (Str.ofString "clausemill.areas") 691) 390) ⟨vs, []⟩ (p_Areas_init.zip (vs ++ initX)) :=
  bt3 (fun x0 x1 x2 => BindsTo.of_defaults (T := 384) (o := ⟨.type "tuple", none, .seq #[.int 100000 723, .bool true, .int 4096 724] 0, #[]⟩) rfl (hk _ _ (by kernel_rfl!)) rfl rfl rfl) vs h
theorem c_Areas_init (HS : SortOk) {c : Cx} {a0 a1 a2 : AV} {L : List AO} {T : Tm} {Q : AV → LT} (h1 : 1 ≤ c.n)
    (w : wpS c.dn b_Areas_init [some a0, some a1, some a2, some (.d (.int 100000)), some (.d (.bool true)), some (.d (.int 4096))] L T (fun _ L T => Q (.d .none) L T) Q) : CallOk c (.ref 391) [a0, a1, a2] L T Q :=
  call_row HS (st := mAt pp 38 0) (q := "Areas.__init__") (dV := .ref 384) (pm := .str (Str.ofString "clausemill.areas") 691) (cd := 390) (ps := p_Areas_init) (vars := v_Areas_init) (exs := initX) (extra := [.d (.int 100000), .d (.bool true), .d (.int 4096)])
    (fun P => by kernel_rfl!) (by decide +kernel) (by decide +kernel) (by decide +kernel) initX_rep n_Areas_init h1 rfl w
noncomputable def b_Areas_reset : S :=
  (.seq (.setA (.loc 0) .store (.new .Store (.cons (.attr (.loc 0) .symbols) (.cons (.attr (.loc 0) .max_heap) .nil))))
  (.seq (.setA (.loc 0) .x (.lst (.cons (.gl .VOID) .nil)))
  (.seq (.setA (.loc 0) .p (.int 0))
  (.seq (.setA (.loc 0) .cp (.int 0))
  (.seq (.setA (.loc 0) .e (.int (-1)))
  (.seq (.setA (.loc 0) .b (.int (-1)))
  (.seq (.setA (.loc 0) .b0 (.int (-1)))
  (.seq (.setA (.loc 0) .mode (.gl .READ))
  (.seq (.setA (.loc 0) .s (.int 0))
  (.seq (.setA (.loc 0) .guard (.gl .VOID))
  (.seq (.setA (.loc 0) .roots (.lst .nil))
  (.seq (.setA (.loc 0) .bags .dnew)
  (.seq (.setA (.loc 0) .collect_wanted (.bool false))
  .nil)))))))))))))
noncomputable def v_Areas_reset : List Str := ["self"]
noncomputable def p_Areas_reset : List Str := ["self"]
theorem n_Areas_reset (P : Params) (s : Shared) (vs : List Value) (hk : (Kof pp P).In s.heap) (h : vs.length + ([] : List Value).length = 1) : BindsTo s (kfd (mAt pp 38 1) "Areas.reset" (.none) (.str (Str.ofString "clausemill.areas") 691) 397) ⟨vs, []⟩ (p_Areas_reset.zip (vs ++ [])) :=
  bt1 (fun x0 => BindsTo.of_eq (by kernel_rfl!)) vs h
theorem c_Areas_reset (HS : SortOk) {c : Cx} {a0 : AV} {L : List AO} {T : Tm} {Q : AV → LT} (h1 : 1 ≤ c.n)
    (w : wpS c.dn b_Areas_reset [some a0] L T (fun _ L T => Q (.d .none) L T) Q) : CallOk c (.ref 398) [a0] L T Q :=
  call_row HS (st := mAt pp 38 1) (q := "Areas.reset") (dV := .none) (pm := .str (Str.ofString "clausemill.areas") 691) (cd := 397) (ps := p_Areas_reset) (vars := v_Areas_reset) (exs := []) (extra := [])
    (fun P => by kernel_rfl!) (by decide +kernel) (by decide +kernel) (by decide +kernel) no_extra n_Areas_reset h1 rfl w
noncomputable def b_Areas_set_x : S :=
  (.seq (.whl (.cmp .le (.len (.attr (.loc 0) .x)) (.loc 1)) (.seq (.ex (.lapp (.attr (.loc 0) .x) (.gl .VOID)))
   .nil))
  (.seq (.setI (.attr (.loc 0) .x) (.loc 1) (.loc 2))
  .nil))
noncomputable def v_Areas_set_x : List Str := ["self", "number", "cell"]
noncomputable def p_Areas_set_x : List Str := ["self", "number", "cell"]
theorem n_Areas_set_x (P : Params) (s : Shared) (vs : List Value) (hk : (Kof pp P).In s.heap) (h : vs.length + ([] : List Value).length = 3) : BindsTo s (kfd (mAt pp 38 2) "Areas.set_x" (.none) (.str (Str.ofString "clausemill.areas") 691) 404) ⟨vs, []⟩ (p_Areas_set_x.zip (vs ++ [])) :=
  bt3 (fun x0 x1 x2 => BindsTo.of_eq (by kernel_rfl!)) vs h
theorem c_Areas_set_x (HS : SortOk) {c : Cx} {a0 a1 a2 : AV} {L : List AO} {T : Tm} {Q : AV → LT} (h1 : 1 ≤ c.n)
    (w : wpS c.dn b_Areas_set_x [some a0, some a1, some a2] L T (fun _ L T => Q (.d .none) L T) Q) : CallOk c (.ref 405) [a0, a1, a2] L T Q :=
  call_row HS (st := mAt pp 38 2) (q := "Areas.set_x") (dV := .none) (pm := .str (Str.ofString "clausemill.areas") 691) (cd := 404) (ps := p_Areas_set_x) (vars := v_Areas_set_x) (exs := []) (extra := [])
    (fun P => by kernel_rfl!) (by decide +kernel) (by decide +kernel) (by decide +kernel) no_extra n_Areas_set_x h1 rfl w
noncomputable def b_Areas_top : S :=
  (.seq (.ite (.cmp .gt (.attr (.loc 0) .e) (.attr (.loc 0) .b)) (.seq (.ret (.bin .add (.bin .add (.attr (.loc 0) .e) (.int 2)) (.sub (.sub (.attr (.loc 0) .code) (.bin .sub (.attr (.loc 0) .cp) (.int 1))) (.int 2))))
   .nil) .nil)
  (.seq (.ite (.cmp .ge (.attr (.loc 0) .b) (.int 0)) (.seq (.ret (.bin .add (.bin .add (.attr (.loc 0) .b) (.sub (.attr (.attr (.loc 0) .store) .stack) (.attr (.loc 0) .b))) (.gl .EXTRA)))
   .nil) .nil)
  (.seq (.ret (.int 0))
  .nil)))
noncomputable def v_Areas_top : List Str := ["self"]
noncomputable def p_Areas_top : List Str := ["self"]
theorem n_Areas_top (P : Params) (s : Shared) (vs : List Value) (hk : (Kof pp P).In s.heap) (h : vs.length + ([] : List Value).length = 1) : BindsTo s (kfd (mAt pp 38 8) "Areas.top" (.none) (.str (Str.ofString "clausemill.areas") 691) 446) ⟨vs, []⟩ (p_Areas_top.zip (vs ++ [])) :=
  bt1 (fun x0 => BindsTo.of_eq (by kernel_rfl!)) vs h
theorem c_Areas_top (HS : SortOk) {c : Cx} {a0 : AV} {L : List AO} {T : Tm} {Q : AV → LT} (h1 : 1 ≤ c.n)
    (w : wpS c.dn b_Areas_top [some a0] L T (fun _ L T => Q (.d .none) L T) Q) : CallOk c (.ref 447) [a0] L T Q :=
  call_row HS (st := mAt pp 38 8) (q := "Areas.top") (dV := .none) (pm := .str (Str.ofString "clausemill.areas") 691) (cd := 446) (ps := p_Areas_top) (vars := v_Areas_top) (exs := []) (extra := [])
    (fun P => by kernel_rfl!) (by decide +kernel) (by decide +kernel) (by decide +kernel) no_extra n_Areas_top h1 rfl w
noncomputable def b_Areas_push_environment : S :=
  (.seq (.asg 2 (.mcall (.loc 0) .top .nil))
  (.seq (.asg 3 (.attr (.loc 0) .store))
  (.seq (.ex (.mcall (.loc 3) .stack_put (.cons (.loc 2) (.cons (.attr (.loc 0) .e) .nil))))
  (.seq (.ex (.mcall (.loc 3) .stack_put (.cons (.bin .add (.loc 2) (.int 1)) (.cons (.attr (.loc 0) .cp) .nil))))
  (.seq (.fr 4 (.r1 (.loc 1)) (.seq (.ex (.mcall (.loc 3) .stack_put (.cons (.bin .add (.bin .add (.loc 2) (.int 2)) (.loc 4)) (.cons (.gl .VOID) .nil))))
   .nil))
  (.seq (.setA (.loc 0) .e (.loc 2))
  .nil))))))
noncomputable def v_Areas_push_environment : List Str := ["self", "size", "place", "store", "number"]
noncomputable def p_Areas_push_environment : List Str := ["self", "size"]
theorem n_Areas_push_environment (P : Params) (s : Shared) (vs : List Value) (hk : (Kof pp P).In s.heap) (h : vs.length + ([] : List Value).length = 2) : BindsTo s (kfd (mAt pp 38 9) "Areas.push_environment" (.none) (.str (Str.ofString "clausemill.areas") 691) 453) ⟨vs, []⟩ (p_Areas_push_environment.zip (vs ++ [])) :=
  bt2 (fun x0 x1 => BindsTo.of_eq (by kernel_rfl!)) vs h
theorem c_Areas_push_environment (HS : SortOk) {c : Cx} {a0 a1 : AV} {L : List AO} {T : Tm} {Q : AV → LT} (h1 : 1 ≤ c.n)
    (w : wpS c.dn b_Areas_push_environment [some a0, some a1, none, none, none] L T (fun _ L T => Q (.d .none) L T) Q) : CallOk c (.ref 454) [a0, a1] L T Q :=
  call_row HS (st := mAt pp 38 9) (q := "Areas.push_environment") (dV := .none) (pm := .str (Str.ofString "clausemill.areas") 691) (cd := 453) (ps := p_Areas_push_environment) (vars := v_Areas_push_environment) (exs := []) (extra := [])
    (fun P => by kernel_rfl!) (by decide +kernel) (by decide +kernel) (by decide +kernel) no_extra n_Areas_push_environment h1 rfl w
noncomputable def b_Areas_pop_environment : S :=
  (.seq (.asg 1 (.attr (.attr (.loc 0) .store) .stack))
  (.seq (.setA (.loc 0) .cp (.sub (.loc 1) (.bin .add (.attr (.loc 0) .e) (.int 1))))
  (.seq (.setA (.loc 0) .e (.sub (.loc 1) (.attr (.loc 0) .e)))
  .nil)))
noncomputable def v_Areas_pop_environment : List Str := ["self", "stack"]
noncomputable def p_Areas_pop_environment : List Str := ["self"]
theorem n_Areas_pop_environment (P : Params) (s : Shared) (vs : List Value) (hk : (Kof pp P).In s.heap) (h : vs.length + ([] : List Value).length = 1) : BindsTo s (kfd (mAt pp 38 10) "Areas.pop_environment" (.none) (.str (Str.ofString "clausemill.areas") 691) 460) ⟨vs, []⟩ (p_Areas_pop_environment.zip (vs ++ [])) :=
  bt1 (fun x0 => BindsTo.of_eq (by kernel_rfl!)) vs h
theorem c_Areas_pop_environment (HS : SortOk) {c : Cx} {a0 : AV} {L : List AO} {T : Tm} {Q : AV → LT} (h1 : 1 ≤ c.n)
    (w : wpS c.dn b_Areas_pop_environment [some a0, none] L T (fun _ L T => Q (.d .none) L T) Q) : CallOk c (.ref 461) [a0] L T Q :=
  call_row HS (st := mAt pp 38 10) (q := "Areas.pop_environment") (dV := .none) (pm := .str (Str.ofString "clausemill.areas") 691) (cd := 460) (ps := p_Areas_pop_environment) (vars := v_Areas_pop_environment) (exs := []) (extra := [])
    (fun P => by kernel_rfl!) (by decide +kernel) (by decide +kernel) (by decide +kernel) no_extra n_Areas_pop_environment h1 rfl w
noncomputable def b_Areas_in_chain : S :=
  (.seq (.asg 2 (.attr (.loc 0) .e))
  (.seq (.whl (.cmp .gt (.loc 2) (.loc 1)) (.seq (.asg 2 (.sub (.attr (.attr (.loc 0) .store) .stack) (.loc 2)))
   .nil))
  (.seq (.ret (.ofC (.cmp .eq (.loc 2) (.loc 1))))
  .nil)))
noncomputable def v_Areas_in_chain : List Str := ["self", "index", "e"]
noncomputable def p_Areas_in_chain : List Str := ["self", "index"]
theorem n_Areas_in_chain (P : Params) (s : Shared) (vs : List Value) (hk : (Kof pp P).In s.heap) (h : vs.length + ([] : List Value).length = 2) : BindsTo s (kfd (mAt pp 38 11) "Areas.in_chain" (.none) (.str (Str.ofString "clausemill.areas") 691) 467) ⟨vs, []⟩ (p_Areas_in_chain.zip (vs ++ [])) :=
  bt2 (fun x0 x1 => BindsTo.of_eq (by kernel_rfl!)) vs h
theorem c_Areas_in_chain (HS : SortOk) {c : Cx} {a0 a1 : AV} {L : List AO} {T : Tm} {Q : AV → LT} (h1 : 1 ≤ c.n)
    (w : wpS c.dn b_Areas_in_chain [some a0, some a1, none] L T (fun _ L T => Q (.d .none) L T) Q) : CallOk c (.ref 468) [a0, a1] L T Q :=
  call_row HS (st := mAt pp 38 11) (q := "Areas.in_chain") (dV := .none) (pm := .str (Str.ofString "clausemill.areas") 691) (cd := 467) (ps := p_Areas_in_chain) (vars := v_Areas_in_chain) (exs := []) (extra := [])
    (fun P => by kernel_rfl!) (by decide +kernel) (by decide +kernel) (by decide +kernel) no_extra n_Areas_in_chain h1 rfl w
noncomputable def b_Areas_set_choice : S :=
  (.seq (.asg 2 (.attr (.loc 0) .store))
  (.seq (.setA (.loc 0) .b (.loc 1))
  (.seq (.ite (.cmp .lt (.loc 1) (.int 0)) (.seq (.setA (.loc 2) .hb (.int 0))
   (.seq (.setA (.loc 2) .bb (.int 0))
   .nil)) (.seq (.setA (.loc 2) .hb (.sub (.attr (.loc 2) .stack) (.bin .add (.bin .add (.loc 1) (.sub (.attr (.loc 2) .stack) (.loc 1))) (.gl .AT_HEAP))))
   (.seq (.setA (.loc 2) .bb (.loc 1))
   .nil)))
  .nil)))
noncomputable def v_Areas_set_choice : List Str := ["self", "b", "store"]
noncomputable def p_Areas_set_choice : List Str := ["self", "b"]
theorem n_Areas_set_choice (P : Params) (s : Shared) (vs : List Value) (hk : (Kof pp P).In s.heap) (h : vs.length + ([] : List Value).length = 2) : BindsTo s (kfd (mAt pp 38 12) "Areas.set_choice" (.none) (.str (Str.ofString "clausemill.areas") 691) 474) ⟨vs, []⟩ (p_Areas_set_choice.zip (vs ++ [])) :=
  bt2 (fun x0 x1 => BindsTo.of_eq (by kernel_rfl!)) vs h
theorem c_Areas_set_choice (HS : SortOk) {c : Cx} {a0 a1 : AV} {L : List AO} {T : Tm} {Q : AV → LT} (h1 : 1 ≤ c.n)
    (w : wpS c.dn b_Areas_set_choice [some a0, some a1, none] L T (fun _ L T => Q (.d .none) L T) Q) : CallOk c (.ref 475) [a0, a1] L T Q :=
  call_row HS (st := mAt pp 38 12) (q := "Areas.set_choice") (dV := .none) (pm := .str (Str.ofString "clausemill.areas") 691) (cd := 474) (ps := p_Areas_set_choice) (vars := v_Areas_set_choice) (exs := []) (extra := [])
    (fun P => by kernel_rfl!) (by decide +kernel) (by decide +kernel) (by decide +kernel) no_extra n_Areas_set_choice h1 rfl w
noncomputable def b_Areas_push_choice : S :=
  (.seq (.asg 3 (.attr (.loc 0) .store))
  (.seq (.asg 4 (.mcall (.loc 0) .top .nil))
  (.seq (.asg 5 (.len (.loc 1)))
  (.seq (.ex (.mcall (.loc 3) .stack_put (.cons (.loc 4) (.cons (.loc 5) .nil))))
  (.seq (.asg 6 (.loc 4))
  (.seq (.fr 7 (.val (.loc 1)) (.seq (.augL 6 (.int 1))
   (.seq (.ex (.mcall (.loc 3) .stack_put (.cons (.loc 6) (.cons (.loc 7) .nil))))
   .nil)))
  (.seq (.ex (.mcall (.loc 3) .stack_put (.cons (.bin .add (.loc 6) (.gl .AT_E)) (.cons (.attr (.loc 0) .e) .nil))))
  (.seq (.ex (.mcall (.loc 3) .stack_put (.cons (.bin .add (.loc 6) (.gl .AT_CP)) (.cons (.attr (.loc 0) .cp) .nil))))
  (.seq (.ex (.mcall (.loc 3) .stack_put (.cons (.bin .add (.loc 6) (.gl .AT_PREVIOUS)) (.cons (.attr (.loc 0) .b) .nil))))
  (.seq (.ex (.mcall (.loc 3) .stack_put (.cons (.bin .add (.loc 6) (.gl .AT_ALTERNATIVE)) (.cons (.loc 2) .nil))))
  (.seq (.ex (.mcall (.loc 3) .stack_put (.cons (.bin .add (.loc 6) (.gl .AT_TRAIL)) (.cons (.mcall (.loc 3) .mark .nil) .nil))))
  (.seq (.ex (.mcall (.loc 3) .stack_put (.cons (.bin .add (.loc 6) (.gl .AT_HEAP)) (.cons (.len (.attr (.loc 3) .heap)) .nil))))
  (.seq (.ex (.mcall (.loc 3) .stack_put (.cons (.bin .add (.loc 6) (.gl .AT_B0)) (.cons (.attr (.loc 0) .b0) .nil))))
  (.seq (.ex (.mcall (.loc 0) .set_choice (.cons (.loc 4) .nil)))
  .nil))))))))))))))
noncomputable def v_Areas_push_choice : List Str := ["self", "cells", "alternative", "store", "place", "count", "at", "cell"]
noncomputable def p_Areas_push_choice : List Str := ["self", "cells", "alternative"]
theorem n_Areas_push_choice (P : Params) (s : Shared) (vs : List Value) (hk : (Kof pp P).In s.heap) (h : vs.length + ([] : List Value).length = 3) : BindsTo s (kfd (mAt pp 38 13) "Areas.push_choice" (.none) (.str (Str.ofString "clausemill.areas") 691) 481) ⟨vs, []⟩ (p_Areas_push_choice.zip (vs ++ [])) :=
  bt3 (fun x0 x1 x2 => BindsTo.of_eq (by kernel_rfl!)) vs h
theorem c_Areas_push_choice (HS : SortOk) {c : Cx} {a0 a1 a2 : AV} {L : List AO} {T : Tm} {Q : AV → LT} (h1 : 1 ≤ c.n)
    (w : wpS c.dn b_Areas_push_choice [some a0, some a1, some a2, none, none, none, none, none] L T (fun _ L T => Q (.d .none) L T) Q) : CallOk c (.ref 482) [a0, a1, a2] L T Q :=
  call_row HS (st := mAt pp 38 13) (q := "Areas.push_choice") (dV := .none) (pm := .str (Str.ofString "clausemill.areas") 691) (cd := 481) (ps := p_Areas_push_choice) (vars := v_Areas_push_choice) (exs := []) (extra := [])
    (fun P => by kernel_rfl!) (by decide +kernel) (by decide +kernel) (by decide +kernel) no_extra n_Areas_push_choice h1 rfl w
noncomputable def b_Areas_choice_part : S :=
  (.seq (.asg 2 (.attr (.attr (.loc 0) .store) .stack))
  (.seq (.ret (.sub (.loc 2) (.bin .add (.bin .add (.attr (.loc 0) .b) (.sub (.loc 2) (.attr (.loc 0) .b))) (.loc 1))))
  .nil))
noncomputable def v_Areas_choice_part : List Str := ["self", "part", "stack"]
noncomputable def p_Areas_choice_part : List Str := ["self", "part"]
theorem n_Areas_choice_part (P : Params) (s : Shared) (vs : List Value) (hk : (Kof pp P).In s.heap) (h : vs.length + ([] : List Value).length = 2) : BindsTo s (kfd (mAt pp 38 15) "Areas.choice_part" (.none) (.str (Str.ofString "clausemill.areas") 691) 495) ⟨vs, []⟩ (p_Areas_choice_part.zip (vs ++ [])) :=
  bt2 (fun x0 x1 => BindsTo.of_eq (by kernel_rfl!)) vs h
theorem c_Areas_choice_part (HS : SortOk) {c : Cx} {a0 a1 : AV} {L : List AO} {T : Tm} {Q : AV → LT} (h1 : 1 ≤ c.n)
    (w : wpS c.dn b_Areas_choice_part [some a0, some a1, none] L T (fun _ L T => Q (.d .none) L T) Q) : CallOk c (.ref 496) [a0, a1] L T Q :=
  call_row HS (st := mAt pp 38 15) (q := "Areas.choice_part") (dV := .none) (pm := .str (Str.ofString "clausemill.areas") 691) (cd := 495) (ps := p_Areas_choice_part) (vars := v_Areas_choice_part) (exs := []) (extra := [])
    (fun P => by kernel_rfl!) (by decide +kernel) (by decide +kernel) (by decide +kernel) no_extra n_Areas_choice_part h1 rfl w
noncomputable def b_Areas_restore_choice : S :=
  (.seq (.asg 1 (.attr (.loc 0) .store))
  (.seq (.asg 2 (.sub (.attr (.loc 1) .stack) (.attr (.loc 0) .b)))
  (.seq (.fr 3 (.r2 (.int 1) (.bin .add (.loc 2) (.int 1))) (.seq (.ex (.mcall (.loc 0) .set_x (.cons (.loc 3) (.cons (.sub (.attr (.loc 1) .stack) (.bin .add (.attr (.loc 0) .b) (.loc 3))) .nil))))
   .nil))
  (.seq (.setA (.loc 0) .e (.mcall (.loc 0) .choice_part (.cons (.gl .AT_E) .nil)))
  (.seq (.setA (.loc 0) .cp (.mcall (.loc 0) .choice_part (.cons (.gl .AT_CP) .nil)))
  (.seq (.ex (.mcall (.loc 1) .undo_to (.cons (.mcall (.loc 0) .choice_part (.cons (.gl .AT_TRAIL) .nil)) .nil)))
  (.seq (.ex (.mcall (.loc 1) .trim (.cons (.mcall (.loc 0) .choice_part (.cons (.gl .AT_HEAP) .nil)) .nil)))
  .nil)))))))
noncomputable def v_Areas_restore_choice : List Str := ["self", "store", "count", "i"]
noncomputable def p_Areas_restore_choice : List Str := ["self"]
theorem n_Areas_restore_choice (P : Params) (s : Shared) (vs : List Value) (hk : (Kof pp P).In s.heap) (h : vs.length + ([] : List Value).length = 1) : BindsTo s (kfd (mAt pp 38 16) "Areas.restore_choice" (.none) (.str (Str.ofString "clausemill.areas") 691) 502) ⟨vs, []⟩ (p_Areas_restore_choice.zip (vs ++ [])) :=
  bt1 (fun x0 => BindsTo.of_eq (by kernel_rfl!)) vs h
theorem c_Areas_restore_choice (HS : SortOk) {c : Cx} {a0 : AV} {L : List AO} {T : Tm} {Q : AV → LT} (h1 : 1 ≤ c.n)
    (w : wpS c.dn b_Areas_restore_choice [some a0, none, none, none] L T (fun _ L T => Q (.d .none) L T) Q) : CallOk c (.ref 503) [a0] L T Q :=
  call_row HS (st := mAt pp 38 16) (q := "Areas.restore_choice") (dV := .none) (pm := .str (Str.ofString "clausemill.areas") 691) (cd := 502) (ps := p_Areas_restore_choice) (vars := v_Areas_restore_choice) (exs := []) (extra := [])
    (fun P => by kernel_rfl!) (by decide +kernel) (by decide +kernel) (by decide +kernel) no_extra n_Areas_restore_choice h1 rfl w
noncomputable def b_Areas_cut_back : S :=
  (.seq (.ite (.cmp .gt (.attr (.loc 0) .b) (.loc 1)) (.seq (.ex (.mcall (.loc 0) .set_choice (.cons (.loc 1) .nil)))
   .nil) .nil)
  .nil)
noncomputable def v_Areas_cut_back : List Str := ["self", "b"]
noncomputable def p_Areas_cut_back : List Str := ["self", "b"]
theorem n_Areas_cut_back (P : Params) (s : Shared) (vs : List Value) (hk : (Kof pp P).In s.heap) (h : vs.length + ([] : List Value).length = 2) : BindsTo s (kfd (mAt pp 38 18) "Areas.cut_back" (.none) (.str (Str.ofString "clausemill.areas") 691) 516) ⟨vs, []⟩ (p_Areas_cut_back.zip (vs ++ [])) :=
  bt2 (fun x0 x1 => BindsTo.of_eq (by kernel_rfl!)) vs h
theorem c_Areas_cut_back (HS : SortOk) {c : Cx} {a0 a1 : AV} {L : List AO} {T : Tm} {Q : AV → LT} (h1 : 1 ≤ c.n)
    (w : wpS c.dn b_Areas_cut_back [some a0, some a1] L T (fun _ L T => Q (.d .none) L T) Q) : CallOk c (.ref 517) [a0, a1] L T Q :=
  call_row HS (st := mAt pp 38 18) (q := "Areas.cut_back") (dV := .none) (pm := .str (Str.ofString "clausemill.areas") 691) (cd := 516) (ps := p_Areas_cut_back) (vars := v_Areas_cut_back) (exs := []) (extra := [])
    (fun P => by kernel_rfl!) (by decide +kernel) (by decide +kernel) (by decide +kernel) no_extra n_Areas_cut_back h1 rfl w
noncomputable def b_Areas_choices : S :=
  (.seq (.asg 1 (.attr (.attr (.loc 0) .store) .stack))
  (.seq (.asg 2 (.lst .nil))
  (.seq (.asg 3 (.attr (.loc 0) .b))
  (.seq (.whl (.cmp .ge (.loc 3) (.int 0)) (.seq (.ex (.lapp (.loc 2) (.loc 3)))
   (.seq (.asg 3 (.sub (.loc 1) (.bin .add (.bin .add (.loc 3) (.sub (.loc 1) (.loc 3))) (.gl .AT_PREVIOUS))))
   .nil)))
  (.seq (.ret (.loc 2))
  .nil)))))
noncomputable def v_Areas_choices : List Str := ["self", "stack", "found", "b"]
noncomputable def p_Areas_choices : List Str := ["self"]
theorem n_Areas_choices (P : Params) (s : Shared) (vs : List Value) (hk : (Kof pp P).In s.heap) (h : vs.length + ([] : List Value).length = 1) : BindsTo s (kfd (mAt pp 38 19) "Areas.choices" (.none) (.str (Str.ofString "clausemill.areas") 691) 523) ⟨vs, []⟩ (p_Areas_choices.zip (vs ++ [])) :=
  bt1 (fun x0 => BindsTo.of_eq (by kernel_rfl!)) vs h
theorem c_Areas_choices (HS : SortOk) {c : Cx} {a0 : AV} {L : List AO} {T : Tm} {Q : AV → LT} (h1 : 1 ≤ c.n)
    (w : wpS c.dn b_Areas_choices [some a0, none, none, none] L T (fun _ L T => Q (.d .none) L T) Q) : CallOk c (.ref 524) [a0] L T Q :=
  call_row HS (st := mAt pp 38 19) (q := "Areas.choices") (dV := .none) (pm := .str (Str.ofString "clausemill.areas") 691) (cd := 523) (ps := p_Areas_choices) (vars := v_Areas_choices) (exs := []) (extra := [])
    (fun P => by kernel_rfl!) (by decide +kernel) (by decide +kernel) (by decide +kernel) no_extra n_Areas_choices h1 rfl w
noncomputable def b_Areas_environments : S :=
  (.seq (.asg 1 (.lst .nil))
  (.seq (.asg 2 (.attr (.loc 0) .e))
  (.seq (.whl (.cmp .ge (.loc 2) (.int 0)) (.seq (.ex (.lapp (.loc 1) (.loc 2)))
   (.seq (.asg 2 (.sub (.attr (.attr (.loc 0) .store) .stack) (.loc 2)))
   .nil)))
  (.seq (.ret (.loc 1))
  .nil))))
noncomputable def v_Areas_environments : List Str := ["self", "found", "e"]
noncomputable def p_Areas_environments : List Str := ["self"]
theorem n_Areas_environments (P : Params) (s : Shared) (vs : List Value) (hk : (Kof pp P).In s.heap) (h : vs.length + ([] : List Value).length = 1) : BindsTo s (kfd (mAt pp 38 20) "Areas.environments" (.none) (.str (Str.ofString "clausemill.areas") 691) 530) ⟨vs, []⟩ (p_Areas_environments.zip (vs ++ [])) :=
  bt1 (fun x0 => BindsTo.of_eq (by kernel_rfl!)) vs h
theorem c_Areas_environments (HS : SortOk) {c : Cx} {a0 : AV} {L : List AO} {T : Tm} {Q : AV → LT} (h1 : 1 ≤ c.n)
    (w : wpS c.dn b_Areas_environments [some a0, none, none] L T (fun _ L T => Q (.d .none) L T) Q) : CallOk c (.ref 531) [a0] L T Q :=
  call_row HS (st := mAt pp 38 20) (q := "Areas.environments") (dV := .none) (pm := .str (Str.ofString "clausemill.areas") 691) (cd := 530) (ps := p_Areas_environments) (vars := v_Areas_environments) (exs := []) (extra := [])
    (fun P => by kernel_rfl!) (by decide +kernel) (by decide +kernel) (by decide +kernel) no_extra n_Areas_environments h1 rfl w
noncomputable def b_state_faults_t : S :=
  (.seq (.asg 15 (.bin .add (.attr (.loc 0) .e) (.int 1)))
  (.seq (.fr 16 (.val (.mcall (.loc 0) .environments .nil)) (.seq (.ite (.cmp .ge (.loc 16) (.loc 15)) (.seq (.ex (.lapp (.loc 2) (.fstr (.cons (.str "environment ") (.cons (.loc 16) (.cons (.str " isn't older than ") (.cons (.loc 15) .nil)))))))
    .nil) .nil)
   (.seq (.asg 15 (.loc 16))
   .nil)))
  (.seq (.ret (.loc 2))
  .nil)))
noncomputable def b_state_faults_u : S :=
  (.seq (.asg 10 .dnew)
  (.seq (.fr 11 (.val (.slLo (.attr (.loc 1) .trail) (.loc 8))) (.seq (.setI (.loc 10) (.loc 11) (.bool true))
   .nil))
  (.seq (.fr 12 (.r1 (.loc 9)) (.seq (.asg2 13 14 (.sub (.attr (.loc 1) .heap) (.loc 12)))
   (.seq (.ite (.and (.isin false (.loc 13) (.tup (.cons (.gl .REF) (.cons (.gl .STR) (.cons (.gl .LIS) .nil))))) (.and (.cmp .ge (.loc 14) (.loc 9)) (.isin true (.loc 12) (.loc 10)))) (.seq (.ex (.lapp (.loc 2) (.fstr (.cons (.str "cell ") (.cons (.loc 12) (.cons (.str " isn't trailed for choice point ") (.cons (.loc 6) .nil)))))))
    .nil) .nil)
   .nil)))
  (.seq (.asg 3 (.loc 6))
  (.seq (.asg 4 (.loc 8))
  (.seq (.asg 5 (.loc 9))
  .nil))))))
noncomputable def b_state_faults : S :=
  (.seq (.asg 1 (.attr (.loc 0) .store))
  (.seq (.asg 2 (.lst .nil))
  (.seq (.asg 3 (.len (.attr (.loc 1) .stack)))
  (.seq (.asg 4 (.len (.attr (.loc 1) .trail)))
  (.seq (.asg 5 (.len (.attr (.loc 1) .heap)))
  (.seq (.fr 6 (.val (.mcall (.loc 0) .choices .nil)) (.seq (.asg 7 (.bin .add (.loc 6) (.sub (.attr (.loc 1) .stack) (.loc 6))))
   (.seq (.ite (.cmp .gt (.bin .add (.loc 7) (.gl .EXTRA)) (.loc 3)) (.seq (.ex (.lapp (.loc 2) (.fstr (.cons (.str "choice point ") (.cons (.loc 6) (.cons (.str " reaches beyond ") (.cons (.loc 3) .nil)))))))
    .nil) .nil)
   (.seq (.asg 8 (.sub (.attr (.loc 1) .stack) (.bin .add (.loc 7) (.gl .AT_TRAIL))))
   (.seq (.asg 9 (.sub (.attr (.loc 1) .stack) (.bin .add (.loc 7) (.gl .AT_HEAP))))
   (.seq (.ite (.or (.cmp .gt (.loc 8) (.loc 4)) (.cmp .gt (.loc 9) (.loc 5))) (.seq (.ex (.lapp (.loc 2) (.fstr (.cons (.str "choice point ") (.cons (.loc 6) (.cons (.str " is younger than a newer one") .nil))))))
    .nil) .nil)
   b_state_faults_u))))))
  b_state_faults_t))))))
noncomputable def v_state_faults : List Str := ["m", "store", "faults", "above", "trail_end", "heap_end", "b", "behind", "trail_start", "heap_start", "trailed", "entry", "address", "tag", "value", "last", "e"]
noncomputable def p_state_faults : List Str := ["m"]
theorem n_state_faults (P : Params) (s : Shared) (vs : List Value) (hk : (Kof pp P).In s.heap) (h : vs.length + ([] : List Value).length = 1) : BindsTo s (kfd (fAt pp 39) "state_faults" (.none) (.str (Str.ofString "clausemill.areas") 691) 544) ⟨vs, []⟩ (p_state_faults.zip (vs ++ [])) :=
  bt1 (fun x0 => BindsTo.of_eq (by kernel_rfl!)) vs h
theorem c_state_faults (HS : SortOk) {c : Cx} {a0 : AV} {L : List AO} {T : Tm} {Q : AV → LT} (h1 : 1 ≤ c.n)
    (w : wpS c.dn b_state_faults [some a0, none, none, none, none, none, none, none, none, none, none, none, none, none, none, none, none] L T (fun _ L T => Q (.d .none) L T) Q) : CallOk c (.ref 545) [a0] L T Q :=
  call_row HS (st := fAt pp 39) (q := "state_faults") (dV := .none) (pm := .str (Str.ofString "clausemill.areas") 691) (cd := 544) (ps := p_state_faults) (vars := v_state_faults) (exs := []) (extra := [])
    (fun P => by kernel_rfl!) (by decide +kernel) (by decide +kernel) (by decide +kernel) no_extra n_state_faults h1 rfl w
noncomputable def b_environment_slots_t : S :=
  (.seq (.fr 10 (.r2 (.loc 9) (.bin .add (.bin .add (.loc 1) (.int 2)) (.loc 7))) (.seq (.ex (.lapp (.loc 4) (.loc 10)))
   .nil))
  (.seq (.ite (.cmp .gt (.loc 7) (.loc 8)) (.seq (.setI (.loc 3) (.loc 1) (.loc 7))
   .nil) .nil)
  (.seq (.ite (.cmp .ge (.loc 8) (.int 0)) (.seq .retN
   .nil) .nil)
  (.seq (.asg 2 (.sub (.loc 5) (.bin .add (.loc 1) (.int 1))))
  (.seq (.asg 1 (.sub (.loc 5) (.loc 1)))
  .nil)))))
noncomputable def b_environment_slots : S :=
  (.seq (.asg 5 (.attr (.attr (.loc 0) .store) .stack))
  (.seq (.asg 6 (.attr (.loc 0) .code))
  (.seq (.whl (.cmp .ge (.loc 1) (.int 0)) (.seq (.asg 7 (.sub (.sub (.loc 6) (.bin .sub (.loc 2) (.int 1))) (.int 2)))
   (.seq (.asg 8 (.dget (.loc 3) (.loc 1) (.int (-1))))
   (.seq (.asg 9 (.bin .add (.loc 1) (.int 2)))
   (.seq (.ite (.cmp .gt (.loc 8) (.int 0)) (.seq (.augL 9 (.loc 8))
    .nil) .nil)
   b_environment_slots_t)))))
  .nil)))
noncomputable def v_environment_slots : List Str := ["m", "e", "cp", "seen", "found", "stack", "code", "live", "known", "first", "slot"]
noncomputable def p_environment_slots : List Str := ["m", "e", "cp", "seen", "found"]
theorem n_environment_slots (P : Params) (s : Shared) (vs : List Value) (hk : (Kof pp P).In s.heap) (h : vs.length + ([] : List Value).length = 5) : BindsTo s (kfd (fAt pp 41) "environment_slots" (.none) (.str (Str.ofString "clausemill.collector") 962) 551) ⟨vs, []⟩ (p_environment_slots.zip (vs ++ [])) :=
  bt5 (fun x0 x1 x2 x3 x4 => BindsTo.of_eq (by kernel_rfl!)) vs h
theorem c_environment_slots (HS : SortOk) {c : Cx} {a0 a1 a2 a3 a4 : AV} {L : List AO} {T : Tm} {Q : AV → LT} (h1 : 1 ≤ c.n)
    (w : wpS c.dn b_environment_slots [some a0, some a1, some a2, some a3, some a4, none, none, none, none, none, none] L T (fun _ L T => Q (.d .none) L T) Q) : CallOk c (.ref 552) [a0, a1, a2, a3, a4] L T Q :=
  call_row HS (st := fAt pp 41) (q := "environment_slots") (dV := .none) (pm := .str (Str.ofString "clausemill.collector") 962) (cd := 551) (ps := p_environment_slots) (vars := v_environment_slots) (exs := []) (extra := [])
    (fun P => by kernel_rfl!) (by decide +kernel) (by decide +kernel) (by decide +kernel) no_extra n_environment_slots h1 rfl w
noncomputable def b_slots : S :=
  (.seq (.asg 1 (.attr (.attr (.loc 0) .store) .stack))
  (.seq (.asg 2 .dnew)
  (.seq (.asg 3 (.lst .nil))
  (.seq (.ex (.callF .environment_slots (.cons (.loc 0) (.cons (.attr (.loc 0) .e) (.cons (.attr (.loc 0) .cp) (.cons (.loc 2) (.cons (.loc 3) .nil)))))))
  (.seq (.fr 4 (.val (.mcall (.loc 0) .choices .nil)) (.seq (.asg 5 (.sub (.loc 1) (.loc 4)))
   (.seq (.fr 6 (.r2 (.bin .add (.loc 4) (.int 1)) (.bin .add (.bin .add (.loc 4) (.loc 5)) (.int 1))) (.seq (.ex (.lapp (.loc 3) (.loc 6)))
    .nil))
   (.seq (.asg 7 (.bin .add (.loc 4) (.loc 5)))
   (.seq (.ex (.callF .environment_slots (.cons (.loc 0) (.cons (.sub (.loc 1) (.bin .add (.loc 7) (.gl .AT_E))) (.cons (.sub (.loc 1) (.bin .add (.loc 7) (.gl .AT_CP))) (.cons (.loc 2) (.cons (.loc 3) .nil)))))))
   .nil)))))
  (.seq (.ret (.sorted (.loc 3)))
  .nil))))))
noncomputable def v_slots : List Str := ["m", "stack", "seen", "found", "b", "count", "slot", "behind"]
noncomputable def p_slots : List Str := ["m"]
theorem n_slots (P : Params) (s : Shared) (vs : List Value) (hk : (Kof pp P).In s.heap) (h : vs.length + ([] : List Value).length = 1) : BindsTo s (kfd (fAt pp 42) "slots" (.none) (.str (Str.ofString "clausemill.collector") 962) 558) ⟨vs, []⟩ (p_slots.zip (vs ++ [])) :=
  bt1 (fun x0 => BindsTo.of_eq (by kernel_rfl!)) vs h
theorem c_slots (HS : SortOk) {c : Cx} {a0 : AV} {L : List AO} {T : Tm} {Q : AV → LT} (h1 : 1 ≤ c.n)
    (w : wpS c.dn b_slots [some a0, none, none, none, none, none, none, none] L T (fun _ L T => Q (.d .none) L T) Q) : CallOk c (.ref 559) [a0] L T Q :=
  call_row HS (st := fAt pp 42) (q := "slots") (dV := .none) (pm := .str (Str.ofString "clausemill.collector") 962) (cd := 558) (ps := p_slots) (vars := v_slots) (exs := []) (extra := [])
    (fun P => by kernel_rfl!) (by decide +kernel) (by decide +kernel) (by decide +kernel) no_extra n_slots h1 rfl w
noncomputable def b_saved_length : S :=
  (.seq (.ret (.sub (.attr (.loc 0) .stack) (.bin .add (.bin .add (.loc 1) (.sub (.attr (.loc 0) .stack) (.loc 1))) (.gl .AT_HEAP))))
  .nil)
noncomputable def v_saved_length : List Str := ["store", "b"]
noncomputable def p_saved_length : List Str := ["store", "b"]
theorem n_saved_length (P : Params) (s : Shared) (vs : List Value) (hk : (Kof pp P).In s.heap) (h : vs.length + ([] : List Value).length = 2) : BindsTo s (kfd (fAt pp 43) "saved_length" (.none) (.str (Str.ofString "clausemill.collector") 962) 565) ⟨vs, []⟩ (p_saved_length.zip (vs ++ [])) :=
  bt2 (fun x0 x1 => BindsTo.of_eq (by kernel_rfl!)) vs h
theorem c_saved_length (HS : SortOk) {c : Cx} {a0 a1 : AV} {L : List AO} {T : Tm} {Q : AV → LT} (h1 : 1 ≤ c.n)
    (w : wpS c.dn b_saved_length [some a0, some a1] L T (fun _ L T => Q (.d .none) L T) Q) : CallOk c (.ref 566) [a0, a1] L T Q :=
  call_row HS (st := fAt pp 43) (q := "saved_length") (dV := .none) (pm := .str (Str.ofString "clausemill.collector") 962) (cd := 565) (ps := p_saved_length) (vars := v_saved_length) (exs := []) (extra := [])
    (fun P => by kernel_rfl!) (by decide +kernel) (by decide +kernel) (by decide +kernel) no_extra n_saved_length h1 rfl w
noncomputable def b_cell_trouble : S :=
  (.seq (.asg 3 (.attr (.loc 0) .store))
  (.seq (.asg 4 (.sub (.loc 1) (.int 0)))
  (.seq (.asg 5 (.sub (.loc 1) (.int 1)))
  (.seq (.asg 6 (.len (.attr (.loc 3) .heap)))
  (.seq (.ite (.cmp .eq (.loc 4) (.gl .REF)) (.seq (.ite (.or (.cmp .lt (.loc 5) (.int 0)) (.cmp .ge (.loc 5) (.loc 6))) (.seq (.ret (.str "reference beyond the heap"))
    .nil) .nil)
   (.seq (.ite (.cmp .eq (.sub (.sub (.attr (.loc 3) .heap) (.loc 5)) (.int 0)) (.gl .FUN)) (.seq (.ret (.str "reference to a functor cell"))
    .nil) .nil)
   .nil)) (.seq (.ite (.cmp .eq (.loc 4) (.gl .LIS)) (.seq (.ite (.or (.cmp .lt (.loc 5) (.int 0)) (.cmp .ge (.bin .add (.loc 5) (.int 1)) (.loc 6))) (.seq (.ret (.str "list beyond the heap"))
     .nil) .nil)
    .nil) (.seq (.ite (.cmp .eq (.loc 4) (.gl .STR)) (.seq (.ite (.or (.cmp .lt (.loc 5) (.int 0)) (.or (.cmp .ge (.loc 5) (.loc 6)) (.cmp .ne (.sub (.sub (.attr (.loc 3) .heap) (.loc 5)) (.int 0)) (.gl .FUN)))) (.seq (.ret (.str "structure without a functor cell"))
      .nil) .nil)
     (.seq (.ite (.cmp .ge (.bin .add (.loc 5) (.mcall (.attr (.loc 0) .symbols) .arity (.cons (.sub (.sub (.attr (.loc 3) .heap) (.loc 5)) (.int 1)) .nil))) (.loc 6)) (.seq (.ret (.str "structure beyond the heap"))
      .nil) .nil)
     .nil)) (.seq (.ite (.cmp .eq (.loc 4) (.gl .SRF)) (.seq (.ite (.or (.cmp .lt (.loc 5) (.int 0)) (.cmp .ge (.loc 5) (.len (.attr (.loc 3) .stack)))) (.seq (.ret (.str "stack reference beyond the stack"))
       .nil) .nil)
      (.seq (.ite (.and (.cmp .ge (.loc 2) (.int 0)) (.cmp .gt (.loc 5) (.loc 2))) (.seq (.ret (.str "stack reference to a younger slot"))
       .nil) .nil)
      .nil)) (.seq (.ite (.cmp .eq (.loc 4) (.gl .FUN)) (.seq (.ret (.str "functor cell as a value"))
       .nil) .nil)
      .nil))
     .nil))
    .nil))
   .nil))
  (.seq (.ret (.str ""))
  .nil))))))
noncomputable def v_cell_trouble : List Str := ["m", "cell", "slot", "store", "tag", "value", "size"]
noncomputable def p_cell_trouble : List Str := ["m", "cell", "slot"]
theorem n_cell_trouble (P : Params) (s : Shared) (vs : List Value) (hk : (Kof pp P).In s.heap) (h : vs.length + ([] : List Value).length = 3) : BindsTo s (kfd (fAt pp 45) "cell_trouble" (.none) (.str (Str.ofString "clausemill.livecheck") 1003) 572) ⟨vs, []⟩ (p_cell_trouble.zip (vs ++ [])) :=
  bt3 (fun x0 x1 x2 => BindsTo.of_eq (by kernel_rfl!)) vs h
theorem c_cell_trouble (HS : SortOk) {c : Cx} {a0 a1 a2 : AV} {L : List AO} {T : Tm} {Q : AV → LT} (h1 : 1 ≤ c.n)
    (w : wpS c.dn b_cell_trouble [some a0, some a1, some a2, none, none, none, none] L T (fun _ L T => Q (.d .none) L T) Q) : CallOk c (.ref 573) [a0, a1, a2] L T Q :=
  call_row HS (st := fAt pp 45) (q := "cell_trouble") (dV := .none) (pm := .str (Str.ofString "clausemill.livecheck") 1003) (cd := 572) (ps := p_cell_trouble) (vars := v_cell_trouble) (exs := []) (extra := [])
    (fun P => by kernel_rfl!) (by decide +kernel) (by decide +kernel) (by decide +kernel) no_extra n_cell_trouble h1 rfl w
noncomputable def b_chain_troubles_t : S :=
  (.seq (.ite (.cmp .ne (.attr (.loc 1) .hb) (.loc 8)) (.seq (.ex (.lapp (.loc 2) (.str "heap bound is not that of the newest choice point")))
   .nil) .nil)
  (.seq (.ite (.cmp .ne (.attr (.loc 1) .bb) (.loc 9)) (.seq (.ex (.lapp (.loc 2) (.str "stack bound is not that of the newest choice point")))
   .nil) .nil)
  (.seq (.fr 10 (.val (.attr (.loc 1) .trail)) (.seq (.ite (.or (.cmp .ge (.loc 10) (.len (.attr (.loc 1) .heap))) (.cmp .ge (.bin .sub (.int (-1)) (.loc 10)) (.len (.attr (.loc 1) .stack)))) (.seq (.ex (.lapp (.loc 2) (.str "trail entry beyond its area")))
    .nil) .nil)
   .nil))
  (.seq (.ret (.loc 2))
  .nil))))
noncomputable def b_chain_troubles : S :=
  (.seq (.asg 1 (.attr (.loc 0) .store))
  (.seq (.asg 2 (.lst .nil))
  (.seq (.asg 3 (.len (.attr (.loc 1) .heap)))
  (.seq (.asg 4 (.len (.attr (.loc 1) .trail)))
  (.seq (.asg 5 (.len (.attr (.loc 1) .stack)))
  (.seq (.fr 6 (.val (.mcall (.loc 0) .choices .nil)) (.seq (.asg 7 (.sub (.attr (.loc 1) .stack) (.loc 6)))
   (.seq (.ite (.cmp .ge (.loc 6) (.loc 5)) (.seq (.ex (.lapp (.loc 2) (.str "choice point not below the newer one")))
    .nil) .nil)
   (.seq (.asg 5 (.loc 6))
   (.seq (.ite (.cmp .gt (.sub (.attr (.loc 1) .stack) (.bin .add (.bin .add (.loc 6) (.loc 7)) (.gl .AT_HEAP))) (.loc 3)) (.seq (.ex (.lapp (.loc 2) (.str "heap length above that of the newer choice point")))
    .nil) .nil)
   (.seq (.asg 3 (.sub (.attr (.loc 1) .stack) (.bin .add (.bin .add (.loc 6) (.loc 7)) (.gl .AT_HEAP))))
   (.seq (.ite (.cmp .gt (.sub (.attr (.loc 1) .stack) (.bin .add (.bin .add (.loc 6) (.loc 7)) (.gl .AT_TRAIL))) (.loc 4)) (.seq (.ex (.lapp (.loc 2) (.str "trail length above that of the newer choice point")))
    .nil) .nil)
   (.seq (.asg 4 (.sub (.attr (.loc 1) .stack) (.bin .add (.bin .add (.loc 6) (.loc 7)) (.gl .AT_TRAIL))))
   .nil))))))))
  (.seq (.asg 8 (.int 0))
  (.seq (.asg 9 (.int 0))
  (.seq (.ite (.cmp .ge (.attr (.loc 0) .b) (.int 0)) (.seq (.asg 8 (.callF .saved_length (.cons (.loc 1) (.cons (.attr (.loc 0) .b) .nil))))
   (.seq (.asg 9 (.attr (.loc 0) .b))
   .nil)) .nil)
  b_chain_troubles_t)))))))))
noncomputable def v_chain_troubles : List Str := ["m", "store", "rows", "heap_length", "trail_length", "above", "b", "count", "expected_heap", "expected_stack", "entry"]
noncomputable def p_chain_troubles : List Str := ["m"]
theorem n_chain_troubles (P : Params) (s : Shared) (vs : List Value) (hk : (Kof pp P).In s.heap) (h : vs.length + ([] : List Value).length = 1) : BindsTo s (kfd (fAt pp 46) "chain_troubles" (.none) (.str (Str.ofString "clausemill.livecheck") 1003) 579) ⟨vs, []⟩ (p_chain_troubles.zip (vs ++ [])) :=
  bt1 (fun x0 => BindsTo.of_eq (by kernel_rfl!)) vs h
theorem c_chain_troubles (HS : SortOk) {c : Cx} {a0 : AV} {L : List AO} {T : Tm} {Q : AV → LT} (h1 : 1 ≤ c.n)
    (w : wpS c.dn b_chain_troubles [some a0, none, none, none, none, none, none, none, none, none, none] L T (fun _ L T => Q (.d .none) L T) Q) : CallOk c (.ref 580) [a0] L T Q :=
  call_row HS (st := fAt pp 46) (q := "chain_troubles") (dV := .none) (pm := .str (Str.ofString "clausemill.livecheck") 1003) (cd := 579) (ps := p_chain_troubles) (vars := v_chain_troubles) (exs := []) (extra := [])
    (fun P => by kernel_rfl!) (by decide +kernel) (by decide +kernel) (by decide +kernel) no_extra n_chain_troubles h1 rfl w
noncomputable def b_troubles : S :=
  (.seq (.asg 2 (.callF .chain_troubles (.cons (.loc 0) .nil)))
  (.seq (.fr 3 (.val (.attr (.loc 0) .roots)) (.seq (.asg 4 (.callF .cell_trouble (.cons (.loc 0) (.cons (.loc 3) (.cons (.int (-1)) .nil)))))
   (.seq (.ite (.cmp .ne (.loc 4) (.str "")) (.seq (.ex (.lapp (.loc 2) (.bin .add (.str "root: ") (.loc 4))))
    .nil) .nil)
   .nil)))
  (.seq (.fr 5 (.r2 (.int 1) (.bin .add (.loc 1) (.int 1))) (.seq (.asg 4 (.callF .cell_trouble (.cons (.loc 0) (.cons (.sub (.attr (.loc 0) .x) (.loc 5)) (.cons (.int (-1)) .nil)))))
   (.seq (.ite (.cmp .ne (.loc 4) (.str "")) (.seq (.ex (.lapp (.loc 2) (.fstr (.cons (.str "register ") (.cons (.loc 5) (.cons (.str ": ") (.cons (.loc 4) .nil)))))))
    .nil) .nil)
   .nil)))
  (.seq (.fr 6 (.val (.callF .slots (.cons (.loc 0) .nil))) (.seq (.asg 4 (.callF .cell_trouble (.cons (.loc 0) (.cons (.sub (.attr (.attr (.loc 0) .store) .stack) (.loc 6)) (.cons (.loc 6) .nil)))))
   (.seq (.ite (.cmp .ne (.loc 4) (.str "")) (.seq (.ex (.lapp (.loc 2) (.fstr (.cons (.str "slot ") (.cons (.loc 6) (.cons (.str ": ") (.cons (.loc 4) .nil)))))))
    .nil) .nil)
   .nil)))
  (.seq (.ret (.loc 2))
  .nil)))))
noncomputable def v_troubles : List Str := ["m", "arity", "rows", "cell", "text", "register", "slot"]
noncomputable def p_troubles : List Str := ["m", "arity"]
theorem n_troubles (P : Params) (s : Shared) (vs : List Value) (hk : (Kof pp P).In s.heap) (h : vs.length + ([] : List Value).length = 2) : BindsTo s (kfd (fAt pp 47) "troubles" (.none) (.str (Str.ofString "clausemill.livecheck") 1003) 586) ⟨vs, []⟩ (p_troubles.zip (vs ++ [])) :=
  bt2 (fun x0 x1 => BindsTo.of_eq (by kernel_rfl!)) vs h
theorem c_troubles (HS : SortOk) {c : Cx} {a0 a1 : AV} {L : List AO} {T : Tm} {Q : AV → LT} (h1 : 1 ≤ c.n)
    (w : wpS c.dn b_troubles [some a0, some a1, none, none, none, none, none] L T (fun _ L T => Q (.d .none) L T) Q) : CallOk c (.ref 587) [a0, a1] L T Q :=
  call_row HS (st := fAt pp 47) (q := "troubles") (dV := .none) (pm := .str (Str.ofString "clausemill.livecheck") 1003) (cd := 586) (ps := p_troubles) (vars := v_troubles) (exs := []) (extra := [])
    (fun P => by kernel_rfl!) (by decide +kernel) (by decide +kernel) (by decide +kernel) no_extra n_troubles h1 rfl w
noncomputable def b_heap_faults : S :=
  (.seq (.asg 1 (.lst .nil))
  (.seq (.fr 2 (.r1 (.len (.attr (.loc 0) .heap))) (.seq (.asg 3 (.callF .cell_fault (.cons (.loc 0) (.cons (.loc 2) .nil))))
   (.seq (.ite (.cmp .ne (.loc 3) (.str "")) (.seq (.ex (.lapp (.loc 1) (.tup (.cons (.loc 2) (.cons (.loc 3) .nil)))))
    .nil) .nil)
   .nil)))
  (.seq (.ret (.loc 1))
  .nil)))
noncomputable def v_heap_faults : List Str := ["store", "faults", "address", "fault"]
noncomputable def p_heap_faults : List Str := ["store"]
theorem n_heap_faults (P : Params) (s : Shared) (vs : List Value) (hk : (Kof pp P).In s.heap) (h : vs.length + ([] : List Value).length = 1) : BindsTo s (kfd (fAt pp 49) "heap_faults" (.none) (.str (Str.ofString "clausemill.storecheck") 1048) 593) ⟨vs, []⟩ (p_heap_faults.zip (vs ++ [])) :=
  bt1 (fun x0 => BindsTo.of_eq (by kernel_rfl!)) vs h
theorem c_heap_faults (HS : SortOk) {c : Cx} {a0 : AV} {L : List AO} {T : Tm} {Q : AV → LT} (h1 : 1 ≤ c.n)
    (w : wpS c.dn b_heap_faults [some a0, none, none, none] L T (fun _ L T => Q (.d .none) L T) Q) : CallOk c (.ref 594) [a0] L T Q :=
  call_row HS (st := fAt pp 49) (q := "heap_faults") (dV := .none) (pm := .str (Str.ofString "clausemill.storecheck") 1048) (cd := 593) (ps := p_heap_faults) (vars := v_heap_faults) (exs := []) (extra := [])
    (fun P => by kernel_rfl!) (by decide +kernel) (by decide +kernel) (by decide +kernel) no_extra n_heap_faults h1 rfl w
noncomputable def b_cell_fault : S :=
  (.seq (.asg2 2 3 (.sub (.attr (.loc 0) .heap) (.loc 1)))
  (.seq (.asg 4 (.len (.attr (.loc 0) .heap)))
  (.seq (.ite (.cmp .eq (.loc 2) (.gl .SRF)) (.seq (.ret (.str "stack reference on the heap"))
   .nil) .nil)
  (.seq (.ite (.cmp .eq (.loc 2) (.gl .FUN)) (.seq (.ite (.cmp .eq (.loc 3) (.gl .F_DOT)) (.seq (.ret (.str "list functor in a functor cell"))
    .nil) .nil)
   (.seq (.ret (.str ""))
   .nil)) .nil)
  (.seq (.ite (.cmp .eq (.loc 2) (.gl .REF)) (.seq (.ite (.or (.cmp .lt (.loc 3) (.int 0)) (.cmp .ge (.loc 3) (.loc 4))) (.seq (.ret (.str "reference beyond the heap"))
    .nil) .nil)
   (.seq (.ite (.cmp .gt (.loc 3) (.loc 1)) (.seq (.ret (.str "reference to a younger cell"))
    .nil) .nil)
   (.seq (.ret (.str ""))
   .nil))) .nil)
  (.seq (.ite (.cmp .eq (.loc 2) (.gl .LIS)) (.seq (.ite (.or (.cmp .lt (.loc 3) (.int 0)) (.cmp .ge (.bin .add (.loc 3) (.int 1)) (.loc 4))) (.seq (.ret (.str "list cell beyond the heap"))
    .nil) .nil)
   (.seq (.ret (.str ""))
   .nil)) .nil)
  (.seq (.ite (.cmp .eq (.loc 2) (.gl .STR)) (.seq (.ite (.or (.cmp .lt (.loc 3) (.int 0)) (.or (.cmp .ge (.loc 3) (.loc 4)) (.cmp .ne (.sub (.sub (.attr (.loc 0) .heap) (.loc 3)) (.int 0)) (.gl .FUN)))) (.seq (.ret (.str "structure without a functor cell"))
    .nil) .nil)
   (.seq (.ite (.cmp .ge (.bin .add (.loc 3) (.mcall (.attr (.loc 0) .symbols) .arity (.cons (.sub (.sub (.attr (.loc 0) .heap) (.loc 3)) (.int 1)) .nil))) (.loc 4)) (.seq (.ret (.str "structure beyond the heap"))
    .nil) .nil)
   .nil)) .nil)
  (.seq (.ret (.str ""))
  .nil))))))))
noncomputable def v_cell_fault : List Str := ["store", "address", "tag", "value", "size"]
noncomputable def p_cell_fault : List Str := ["store", "address"]
theorem n_cell_fault (P : Params) (s : Shared) (vs : List Value) (hk : (Kof pp P).In s.heap) (h : vs.length + ([] : List Value).length = 2) : BindsTo s (kfd (fAt pp 50) "cell_fault" (.none) (.str (Str.ofString "clausemill.storecheck") 1048) 600) ⟨vs, []⟩ (p_cell_fault.zip (vs ++ [])) :=
  bt2 (fun x0 x1 => BindsTo.of_eq (by kernel_rfl!)) vs h
theorem c_cell_fault (HS : SortOk) {c : Cx} {a0 a1 : AV} {L : List AO} {T : Tm} {Q : AV → LT} (h1 : 1 ≤ c.n)
    (w : wpS c.dn b_cell_fault [some a0, some a1, none, none, none] L T (fun _ L T => Q (.d .none) L T) Q) : CallOk c (.ref 601) [a0, a1] L T Q :=
  call_row HS (st := fAt pp 50) (q := "cell_fault") (dV := .none) (pm := .str (Str.ofString "clausemill.storecheck") 1048) (cd := 600) (ps := p_cell_fault) (vars := v_cell_fault) (exs := []) (extra := [])
    (fun P => by kernel_rfl!) (by decide +kernel) (by decide +kernel) (by decide +kernel) no_extra n_cell_fault h1 rfl w
noncomputable def b_stack_faults : S :=
  (.seq (.asg 2 (.lst .nil))
  (.seq (.fr 3 (.val (.loc 1)) (.seq (.asg2 4 5 (.sub (.attr (.loc 0) .stack) (.loc 3)))
   (.seq (.ite (.and (.cmp .eq (.loc 4) (.gl .SRF)) (.or (.cmp .lt (.loc 5) (.int 0)) (.cmp .gt (.loc 5) (.loc 3)))) (.seq (.ex (.lapp (.loc 2) (.loc 3)))
    .nil) (.seq (.ite (.and (.cmp .eq (.loc 4) (.gl .REF)) (.or (.cmp .lt (.loc 5) (.int 0)) (.cmp .ge (.loc 5) (.len (.attr (.loc 0) .heap))))) (.seq (.ex (.lapp (.loc 2) (.loc 3)))
     .nil) .nil)
    .nil))
   .nil)))
  (.seq (.ret (.loc 2))
  .nil)))
noncomputable def v_stack_faults : List Str := ["store", "slots", "faults", "i", "tag", "value"]
noncomputable def p_stack_faults : List Str := ["store", "slots"]
theorem n_stack_faults (P : Params) (s : Shared) (vs : List Value) (hk : (Kof pp P).In s.heap) (h : vs.length + ([] : List Value).length = 2) : BindsTo s (kfd (fAt pp 51) "stack_faults" (.none) (.str (Str.ofString "clausemill.storecheck") 1048) 607) ⟨vs, []⟩ (p_stack_faults.zip (vs ++ [])) :=
  bt2 (fun x0 x1 => BindsTo.of_eq (by kernel_rfl!)) vs h
theorem c_stack_faults (HS : SortOk) {c : Cx} {a0 a1 : AV} {L : List AO} {T : Tm} {Q : AV → LT} (h1 : 1 ≤ c.n)
    (w : wpS c.dn b_stack_faults [some a0, some a1, none, none, none, none] L T (fun _ L T => Q (.d .none) L T) Q) : CallOk c (.ref 608) [a0, a1] L T Q :=
  call_row HS (st := fAt pp 51) (q := "stack_faults") (dV := .none) (pm := .str (Str.ofString "clausemill.storecheck") 1048) (cd := 607) (ps := p_stack_faults) (vars := v_stack_faults) (exs := []) (extra := [])
    (fun P => by kernel_rfl!) (by decide +kernel) (by decide +kernel) (by decide +kernel) no_extra n_stack_faults h1 rfl w
noncomputable def b_law_row : S :=
  (.seq (.asg 1 (.lst .nil))
  (.seq (.fr 2 (.val (.slHi (.loc 0) (.int 40))) (.seq (.asg 3 (.ife (.cmp .ge (.loc 2) (.int 0)) (.loc 2) (.bin .sub (.int 7) (.loc 2))))
   (.seq (.ex (.lapp (.loc 1) (.bin .mod (.loc 3) (.int 1013))))
   (.seq (.asg 3 (.bin .fdiv (.loc 3) (.int 1013)))
   (.seq (.fr 4 (.r1 (.int 30)) (.seq (.ite (.cmp .gt (.loc 3) (.int 0)) (.seq (.ex (.lapp (.loc 1) (.bin .mod (.loc 3) (.int 1013))))
     (.seq (.asg 3 (.bin .fdiv (.loc 3) (.int 1013)))
     .nil)) .nil)
    .nil))
   .nil)))))
  (.seq (.asg 1 (.slHi (.loc 1) (.int 120)))
  (.seq (.ex (.lrev (.loc 1)))
  (.seq (.ret (.loc 1))
  .nil)))))
noncomputable def v_law_row : List Str := ["script", "row", "cell", "number", "turn"]
noncomputable def p_law_row : List Str := ["script"]
theorem n_law_row (P : Params) (s : Shared) (vs : List Value) (hk : (Kof pp P).In s.heap) (h : vs.length + ([] : List Value).length = 1) : BindsTo s (kfd (fAt pp 53) "_law_row" (.none) (.str (Str.ofString "law_no0193_01") 1083) 614) ⟨vs, []⟩ (p_law_row.zip (vs ++ [])) :=
  bt1 (fun x0 => BindsTo.of_eq (by kernel_rfl!)) vs h
theorem c_law_row (HS : SortOk) {c : Cx} {a0 : AV} {L : List AO} {T : Tm} {Q : AV → LT} (h1 : 1 ≤ c.n)
    (w : wpS c.dn b_law_row [some a0, none, none, none, none] L T (fun _ L T => Q (.d .none) L T) Q) : CallOk c (.ref 615) [a0] L T Q :=
  call_row HS (st := fAt pp 53) (q := "_law_row") (dV := .none) (pm := .str (Str.ofString "law_no0193_01") 1083) (cd := 614) (ps := p_law_row) (vars := v_law_row) (exs := []) (extra := [])
    (fun P => by kernel_rfl!) (by decide +kernel) (by decide +kernel) (by decide +kernel) no_extra n_law_row h1 rfl w
noncomputable def b_law_next : S :=
  (.seq (.ret (.ife (.cmp .ne (.loc 0) (.lst .nil)) (.lpop (.loc 0)) (.int 0)))
  .nil)
noncomputable def v_law_next : List Str := ["row"]
noncomputable def p_law_next : List Str := ["row"]
theorem n_law_next (P : Params) (s : Shared) (vs : List Value) (hk : (Kof pp P).In s.heap) (h : vs.length + ([] : List Value).length = 1) : BindsTo s (kfd (fAt pp 54) "_law_next" (.none) (.str (Str.ofString "law_no0193_01") 1083) 621) ⟨vs, []⟩ (p_law_next.zip (vs ++ [])) :=
  bt1 (fun x0 => BindsTo.of_eq (by kernel_rfl!)) vs h
theorem c_law_next (HS : SortOk) {c : Cx} {a0 : AV} {L : List AO} {T : Tm} {Q : AV → LT} (h1 : 1 ≤ c.n)
    (w : wpS c.dn b_law_next [some a0] L T (fun _ L T => Q (.d .none) L T) Q) : CallOk c (.ref 622) [a0] L T Q :=
  call_row HS (st := fAt pp 54) (q := "_law_next") (dV := .none) (pm := .str (Str.ofString "law_no0193_01") 1083) (cd := 621) (ps := p_law_next) (vars := v_law_next) (exs := []) (extra := [])
    (fun P => by kernel_rfl!) (by decide +kernel) (by decide +kernel) (by decide +kernel) no_extra n_law_next h1 rfl w
noncomputable def b_law_code : S :=
  (.seq (.ret (.comp false ["live"] [] (.r1 (.int 4)) .tt (.tup (.cons (.str "call") (.cons (.int 0) (.cons (.loc 0) .nil))))))
  .nil)
noncomputable def v_law_code : List Str := []
noncomputable def p_law_code : List Str := []
theorem n_law_code (P : Params) (s : Shared) (vs : List Value) (hk : (Kof pp P).In s.heap) (h : vs.length + ([] : List Value).length = 0) : BindsTo s (kfd (fAt pp 55) "_law_code" (.none) (.str (Str.ofString "law_no0193_01") 1083) 626) ⟨vs, []⟩ (p_law_code.zip (vs ++ [])) :=
  ln0 (P := fun vs => BindsTo s (kfd (fAt pp 55) "_law_code" (.none) (.str (Str.ofString "law_no0193_01") 1083) 626) ⟨vs, []⟩ (p_law_code.zip (vs ++ []))) (e := 0) (BindsTo.of_eq (by kernel_rfl!)) vs h
theorem c_law_code (HS : SortOk) {c : Cx} {L : List AO} {T : Tm} {Q : AV → LT} (h1 : 1 ≤ c.n)
    (w : wpS c.dn b_law_code [] L T (fun _ L T => Q (.d .none) L T) Q) : CallOk c (.ref 627) [] L T Q :=
  call_row HS (st := fAt pp 55) (q := "_law_code") (dV := .none) (pm := .str (Str.ofString "law_no0193_01") 1083) (cd := 626) (ps := p_law_code) (vars := v_law_code) (exs := []) (extra := [])
    (fun P => by kernel_rfl!) (by decide +kernel) (by decide +kernel) (by decide +kernel) no_extra n_law_code h1 rfl w
noncomputable def b_law_size : S :=
  (.seq (.ret (.ife (.cmp .ge (.attr (.loc 0) .e) (.int 0)) (.sub (.sub (.attr (.loc 0) .code) (.bin .sub (.attr (.loc 0) .cp) (.int 1))) (.int 2)) (.int 0)))
  .nil)
noncomputable def v_law_size : List Str := ["m"]
noncomputable def p_law_size : List Str := ["m"]
theorem n_law_size (P : Params) (s : Shared) (vs : List Value) (hk : (Kof pp P).In s.heap) (h : vs.length + ([] : List Value).length = 1) : BindsTo s (kfd (fAt pp 56) "_law_size" (.none) (.str (Str.ofString "law_no0193_01") 1083) 633) ⟨vs, []⟩ (p_law_size.zip (vs ++ [])) :=
  bt1 (fun x0 => BindsTo.of_eq (by kernel_rfl!)) vs h
theorem c_law_size (HS : SortOk) {c : Cx} {a0 : AV} {L : List AO} {T : Tm} {Q : AV → LT} (h1 : 1 ≤ c.n)
    (w : wpS c.dn b_law_size [some a0] L T (fun _ L T => Q (.d .none) L T) Q) : CallOk c (.ref 634) [a0] L T Q :=
  call_row HS (st := fAt pp 56) (q := "_law_size") (dV := .none) (pm := .str (Str.ofString "law_no0193_01") 1083) (cd := 633) (ps := p_law_size) (vars := v_law_size) (exs := []) (extra := [])
    (fun P => by kernel_rfl!) (by decide +kernel) (by decide +kernel) (by decide +kernel) no_extra n_law_size h1 rfl w
noncomputable def b_law_pool : S :=
  (.seq (.asg 2 (.lst .nil))
  (.seq (.fr 3 (.val (.loc 1)) (.seq (.ite (.or (.isin true (.sub (.loc 3) (.int 0)) (.tup (.cons (.gl .REF) (.cons (.gl .STR) (.cons (.gl .LIS) .nil))))) (.cmp .lt (.sub (.loc 3) (.int 1)) (.len (.attr (.attr (.loc 0) .store) .heap)))) (.seq (.ex (.lapp (.loc 2) (.loc 3)))
    .nil) .nil)
   .nil))
  (.seq (.ret (.loc 2))
  .nil)))
noncomputable def v_law_pool : List Str := ["m", "pool", "found", "cell"]
noncomputable def p_law_pool : List Str := ["m", "pool"]
theorem n_law_pool (P : Params) (s : Shared) (vs : List Value) (hk : (Kof pp P).In s.heap) (h : vs.length + ([] : List Value).length = 2) : BindsTo s (kfd (fAt pp 57) "_law_pool" (.none) (.str (Str.ofString "law_no0193_01") 1083) 640) ⟨vs, []⟩ (p_law_pool.zip (vs ++ [])) :=
  bt2 (fun x0 x1 => BindsTo.of_eq (by kernel_rfl!)) vs h
theorem c_law_pool (HS : SortOk) {c : Cx} {a0 a1 : AV} {L : List AO} {T : Tm} {Q : AV → LT} (h1 : 1 ≤ c.n)
    (w : wpS c.dn b_law_pool [some a0, some a1, none, none] L T (fun _ L T => Q (.d .none) L T) Q) : CallOk c (.ref 641) [a0, a1] L T Q :=
  call_row HS (st := fAt pp 57) (q := "_law_pool") (dV := .none) (pm := .str (Str.ofString "law_no0193_01") 1083) (cd := 640) (ps := p_law_pool) (vars := v_law_pool) (exs := []) (extra := [])
    (fun P => by kernel_rfl!) (by decide +kernel) (by decide +kernel) (by decide +kernel) no_extra n_law_pool h1 rfl w
noncomputable def b_law_pick : S :=
  (.seq (.ret (.sub (.loc 1) (.bin .mod (.callF .law_next (.cons (.loc 0) .nil)) (.len (.loc 1)))))
  .nil)
noncomputable def v_law_pick : List Str := ["row", "pool"]
noncomputable def p_law_pick : List Str := ["row", "pool"]
theorem n_law_pick (P : Params) (s : Shared) (vs : List Value) (hk : (Kof pp P).In s.heap) (h : vs.length + ([] : List Value).length = 2) : BindsTo s (kfd (fAt pp 58) "_law_pick" (.none) (.str (Str.ofString "law_no0193_01") 1083) 647) ⟨vs, []⟩ (p_law_pick.zip (vs ++ [])) :=
  bt2 (fun x0 x1 => BindsTo.of_eq (by kernel_rfl!)) vs h
theorem c_law_pick (HS : SortOk) {c : Cx} {a0 a1 : AV} {L : List AO} {T : Tm} {Q : AV → LT} (h1 : 1 ≤ c.n)
    (w : wpS c.dn b_law_pick [some a0, some a1] L T (fun _ L T => Q (.d .none) L T) Q) : CallOk c (.ref 648) [a0, a1] L T Q :=
  call_row HS (st := fAt pp 58) (q := "_law_pick") (dV := .none) (pm := .str (Str.ofString "law_no0193_01") 1083) (cd := 647) (ps := p_law_pick) (vars := v_law_pick) (exs := []) (extra := [])
    (fun P => by kernel_rfl!) (by decide +kernel) (by decide +kernel) (by decide +kernel) no_extra n_law_pick h1 rfl w
noncomputable def b_law_bound : S :=
  (.seq (.asg 3 (.attr (.loc 0) .store))
  (.seq (.asg 1 (.mcall (.loc 3) .deref (.cons (.loc 1) .nil)))
  (.seq (.asg 2 (.mcall (.loc 3) .deref (.cons (.loc 2) .nil)))
  (.seq (.ite (.and (.cmp .eq (.sub (.loc 1) (.int 0)) (.gl .REF)) (.cmp .ne (.loc 2) (.loc 1))) (.seq (.ite (.cmp .eq (.sub (.loc 2) (.int 0)) (.gl .REF)) (.seq (.ex (.mcall (.loc 3) .bind_pair (.cons (.loc 1) (.cons (.loc 2) .nil))))
    .nil) (.seq (.ex (.mcall (.loc 3) .bind (.cons (.loc 1) (.cons (.loc 2) .nil))))
    .nil))
   .nil) .nil)
  .nil))))
noncomputable def v_law_bound : List Str := ["m", "cell", "value", "store"]
noncomputable def p_law_bound : List Str := ["m", "cell", "value"]
theorem n_law_bound (P : Params) (s : Shared) (vs : List Value) (hk : (Kof pp P).In s.heap) (h : vs.length + ([] : List Value).length = 3) : BindsTo s (kfd (fAt pp 59) "_law_bound" (.none) (.str (Str.ofString "law_no0193_01") 1083) 654) ⟨vs, []⟩ (p_law_bound.zip (vs ++ [])) :=
  bt3 (fun x0 x1 x2 => BindsTo.of_eq (by kernel_rfl!)) vs h
theorem c_law_bound (HS : SortOk) {c : Cx} {a0 a1 a2 : AV} {L : List AO} {T : Tm} {Q : AV → LT} (h1 : 1 ≤ c.n)
    (w : wpS c.dn b_law_bound [some a0, some a1, some a2, none] L T (fun _ L T => Q (.d .none) L T) Q) : CallOk c (.ref 655) [a0, a1, a2] L T Q :=
  call_row HS (st := fAt pp 59) (q := "_law_bound") (dV := .none) (pm := .str (Str.ofString "law_no0193_01") 1083) (cd := 654) (ps := p_law_bound) (vars := v_law_bound) (exs := []) (extra := [])
    (fun P => by kernel_rfl!) (by decide +kernel) (by decide +kernel) (by decide +kernel) no_extra n_law_bound h1 rfl w
noncomputable def b_law_step_0 : S :=
  (.seq (.asg 5 (.sub (.lst (.cons (.gl .F_MINUS1) (.cons (.gl .F_MINUS) (.cons (.gl .F_DOT) .nil)))) (.bin .mod (.callF .law_next (.cons (.loc 0) .nil)) (.int 3))))
  (.seq (.ex (.lapp (.loc 2) (.mcall (.loc 3) .new_struct (.cons (.loc 5) (.cons (.comp false ["turn", "row", "pool"] [0, 2] (.r1 (.mcall (.attr (.loc 1) .symbols) .arity (.cons (.loc 5) .nil))) .tt (.callF .law_pick (.cons (.loc 1) (.cons (.loc 2) .nil)))) .nil)))))
  .nil))
noncomputable def b_law_step_1 : S :=
  (.seq (.ite (.cmp .eq (.bin .mod (.callF .law_next (.cons (.loc 0) .nil)) (.int 2)) (.int 0)) (.seq (.ex (.lapp (.loc 2) (.mcall (.loc 3) .new_var .nil)))
   .nil) (.seq (.ex (.lapp (.loc 2) (.mcall (.loc 3) .new_block (.cons (.gl .F_MINUS) .nil))))
   (.seq (.ex (.lapp (.loc 2) (.tup (.cons (.gl .REF) (.cons (.mcall (.loc 3) .base (.cons (.sub (.loc 2) (.int (-1))) .nil)) .nil)))))
   .nil)))
  .nil)
noncomputable def b_law_step_2 : S :=
  (.seq (.ex (.callF .law_bound (.cons (.loc 1) (.cons (.callF .law_pick (.cons (.loc 0) (.cons (.loc 2) .nil))) (.cons (.callF .law_pick (.cons (.loc 0) (.cons (.loc 2) .nil))) .nil)))))
  .nil)
noncomputable def b_law_step_3 : S :=
  (.seq (.asg 6 (.bin .mod (.callF .law_next (.cons (.loc 0) .nil)) (.int 4)))
  (.seq (.ex (.mcall (.loc 1) .push_environment (.cons (.loc 6) .nil)))
  (.seq (.fr 7 (.r1 (.loc 6)) (.seq (.setI (.attr (.loc 3) .stack) (.bin .add (.bin .add (.attr (.loc 1) .e) (.int 2)) (.loc 7)) (.callF .law_pick (.cons (.loc 0) (.cons (.loc 2) .nil))))
   .nil))
  (.seq (.setA (.loc 1) .cp (.bin .add (.int 1) (.bin .mod (.callF .law_next (.cons (.loc 0) .nil)) (.bin .add (.loc 6) (.int 1)))))
  .nil))))
noncomputable def b_law_step_4 : S :=
  (.seq (.ex (.mcall (.loc 1) .push_choice (.cons (.comp false ["turn", "row", "pool"] [0, 2] (.r1 (.bin .mod (.callF .law_next (.cons (.loc 0) .nil)) (.int 4))) .tt (.callF .law_pick (.cons (.loc 1) (.cons (.loc 2) .nil)))) (.cons (.int 2) .nil))))
  .nil)
noncomputable def b_law_step_5 : S :=
  (.seq (.ite (.cmp .gt (.callF .law_size (.cons (.loc 1) .nil)) (.int 0)) (.seq (.asg 8 (.bin .add (.bin .add (.attr (.loc 1) .e) (.int 2)) (.bin .mod (.callF .law_next (.cons (.loc 0) .nil)) (.callF .law_size (.cons (.loc 1) .nil)))))
   (.seq (.ite (.cmp .lt (.loc 8) (.attr (.loc 3) .bb)) (.seq (.ex (.lapp (.attr (.loc 3) .trail) (.bin .sub (.int (-1)) (.loc 8))))
    .nil) .nil)
   (.seq (.setI (.attr (.loc 3) .stack) (.loc 8) (.callF .law_pick (.cons (.loc 0) (.cons (.loc 2) .nil))))
   .nil))) .nil)
  .nil)
noncomputable def b_law_step_6 : S :=
  (.seq (.ite (.cmp .ge (.attr (.loc 1) .e) (.int 0)) (.seq (.ex (.mcall (.loc 1) .pop_environment .nil))
   .nil) .nil)
  .nil)
noncomputable def b_law_step_7 : S :=
  (.seq (.ite (.cmp .ge (.attr (.loc 1) .b) (.int 0)) (.seq (.ex (.mcall (.loc 1) .cut_back (.cons (.sub (.attr (.loc 3) .stack) (.bin .add (.bin .add (.attr (.loc 1) .b) (.sub (.attr (.loc 3) .stack) (.attr (.loc 1) .b))) (.int 3))) .nil)))
   .nil) .nil)
  .nil)
noncomputable def b_law_step_8 : S :=
  (.seq (.ite (.cmp .ge (.attr (.loc 1) .b) (.int 0)) (.seq (.ex (.mcall (.loc 1) .restore_choice .nil))
   .nil) .nil)
  .nil)
noncomputable def b_law_step : S :=
  (.seq (.asg 3 (.attr (.loc 1) .store))
  (.seq (.asg 4 (.bin .mod (.callF .law_next (.cons (.loc 0) .nil)) (.int 9)))
  (.seq (.ite (.cmp .eq (.loc 4) (.int 0)) b_law_step_0 (.seq (.ite (.cmp .eq (.loc 4) (.int 1)) b_law_step_1 (.seq (.ite (.cmp .eq (.loc 4) (.int 2)) b_law_step_2 (.seq (.ite (.cmp .eq (.loc 4) (.int 3)) b_law_step_3 (.seq (.ite (.cmp .eq (.loc 4) (.int 4)) b_law_step_4 (.seq (.ite (.cmp .eq (.loc 4) (.int 5)) b_law_step_5 (.seq (.ite (.cmp .eq (.loc 4) (.int 6)) b_law_step_6 (.seq (.ite (.cmp .eq (.loc 4) (.int 7)) b_law_step_7 b_law_step_8)
         .nil))
        .nil))
       .nil))
      .nil))
     .nil))
    .nil))
   .nil))
  .nil)))
noncomputable def v_law_step : List Str := ["row", "m", "pool", "store", "kind", "f", "many", "place", "index"]
noncomputable def p_law_step : List Str := ["row", "m", "pool"]
theorem n_law_step (P : Params) (s : Shared) (vs : List Value) (hk : (Kof pp P).In s.heap) (h : vs.length + ([] : List Value).length = 3) : BindsTo s (kfd (fAt pp 60) "_law_step" (.none) (.str (Str.ofString "law_no0193_01") 1083) 659) ⟨vs, []⟩ (p_law_step.zip (vs ++ [])) :=
  bt3 (fun x0 x1 x2 => BindsTo.of_eq (by kernel_rfl!)) vs h
theorem c_law_step (HS : SortOk) {c : Cx} {a0 a1 a2 : AV} {L : List AO} {T : Tm} {Q : AV → LT} (h1 : 1 ≤ c.n)
    (w : wpS c.dn b_law_step [some a0, some a1, some a2, none, none, none, none, none, none] L T (fun _ L T => Q (.d .none) L T) Q) : CallOk c (.ref 660) [a0, a1, a2] L T Q :=
  call_row HS (st := fAt pp 60) (q := "_law_step") (dV := .none) (pm := .str (Str.ofString "law_no0193_01") 1083) (cd := 659) (ps := p_law_step) (vars := v_law_step) (exs := []) (extra := [])
    (fun P => by kernel_rfl!) (by decide +kernel) (by decide +kernel) (by decide +kernel) no_extra n_law_step h1 rfl w
noncomputable def b_law_state_t : S :=
  (.seq (.fr 4 (.r1 (.bin .mod (.callF .law_next (.cons (.loc 1) .nil)) (.int 28))) (.seq (.ex (.callF .law_step (.cons (.loc 1) (.cons (.loc 2) (.cons (.loc 3) .nil)))))
   (.seq (.asg 3 (.callF .law_pool (.cons (.loc 2) (.cons (.loc 3) .nil))))
   .nil)))
  (.seq (.asg 5 (.bin .mod (.callF .law_next (.cons (.loc 1) .nil)) (.int 4)))
  (.seq (.fr 6 (.r1 (.loc 5)) (.seq (.ex (.mcall (.loc 2) .set_x (.cons (.bin .add (.loc 6) (.int 1)) (.cons (.callF .law_pick (.cons (.loc 1) (.cons (.loc 3) .nil))) .nil))))
   .nil))
  (.seq (.ite (.and (.cmp .gt (.loc 5) (.int 0)) (.and (.cmp .gt (.callF .law_size (.cons (.loc 2) .nil)) (.int 0)) (.cmp .eq (.bin .mod (.callF .law_next (.cons (.loc 1) .nil)) (.int 2)) (.int 1)))) (.seq (.ex (.mcall (.loc 2) .set_x (.cons (.loc 5) (.cons (.tup (.cons (.gl .SRF) (.cons (.bin .add (.attr (.loc 2) .e) (.int 2)) .nil))) .nil))))
   .nil) .nil)
  (.seq (.ret (.tup (.cons (.loc 2) (.cons (.loc 5) .nil))))
  .nil)))))
noncomputable def b_law_state_a : S :=
  (.seq (.fr 4 (.r1 (.int 3)) (.seq (.ex (.lapp (.attr (.loc 2) .roots) (.mcall (.attr (.loc 2) .store) .new_var .nil)))
   (.seq (.ex (.lapp (.loc 3) (.sub (.attr (.loc 2) .roots) (.loc 4))))
   .nil)))
  (.seq (.augL 3 (.lst (.cons (.tup (.cons (.gl .CON) (.cons (.gl .A_NIL) .nil))) (.cons (.tup (.cons (.gl .INT) (.cons (.int 5) .nil))) .nil))))
  (.seq (.ex (.lapp (.attr (.loc 2) .roots) (.tup (.cons (.gl .INT) (.cons (.int 9) .nil)))))
  b_law_state_t)))
noncomputable def b_law_state : S :=
  (.seq (.asg 2 (.new .Areas (.cons (.loc 0) (.cons (.callF .law_code .nil) .nil))))
  (.seq (.asg 3 (.lst .nil))
  b_law_state_a))
noncomputable def v_law_state : List Str := ["signs", "row", "m", "pool", "turn", "many", "place"]
noncomputable def p_law_state : List Str := ["signs", "row"]
theorem n_law_state (P : Params) (s : Shared) (vs : List Value) (hk : (Kof pp P).In s.heap) (h : vs.length + ([] : List Value).length = 2) : BindsTo s (kfd (fAt pp 61) "_law_state" (.none) (.str (Str.ofString "law_no0193_01") 1083) 666) ⟨vs, []⟩ (p_law_state.zip (vs ++ [])) :=
  bt2 (fun x0 x1 => BindsTo.of_eq (by kernel_rfl!)) vs h
theorem c_law_state (HS : SortOk) {c : Cx} {a0 a1 : AV} {L : List AO} {T : Tm} {Q : AV → LT} (h1 : 1 ≤ c.n)
    (w : wpS c.dn b_law_state [some a0, some a1, none, none, none, none, none] L T (fun _ L T => Q (.d .none) L T) Q) : CallOk c (.ref 667) [a0, a1] L T Q :=
  call_row HS (st := fAt pp 61) (q := "_law_state") (dV := .none) (pm := .str (Str.ofString "law_no0193_01") 1083) (cd := 666) (ps := p_law_state) (vars := v_law_state) (exs := []) (extra := [])
    (fun P => by kernel_rfl!) (by decide +kernel) (by decide +kernel) (by decide +kernel) no_extra n_law_state h1 rfl w
noncomputable def b_law_chain : S :=
  (.seq (.asg 3 (.lst .nil))
  (.seq (.whl (.cmp .ge (.loc 1) (.int 0)) (.seq (.ex (.lapp (.loc 3) (.loc 1)))
   (.seq (.asg 1 (.ife (.cmp .eq (.loc 2) (.int 0)) (.sub (.loc 0) (.loc 1)) (.sub (.loc 0) (.bin .add (.bin .add (.loc 1) (.sub (.loc 0) (.loc 1))) (.loc 2)))))
   .nil)))
  (.seq (.ret (.loc 3))
  .nil)))
noncomputable def v_law_chain : List Str := ["stack", "at", "step", "found"]
noncomputable def p_law_chain : List Str := ["stack", "at", "step"]
theorem n_law_chain (P : Params) (s : Shared) (vs : List Value) (hk : (Kof pp P).In s.heap) (h : vs.length + ([] : List Value).length = 3) : BindsTo s (kfd (fAt pp 62) "_law_chain" (.none) (.str (Str.ofString "law_no0193_01") 1083) 673) ⟨vs, []⟩ (p_law_chain.zip (vs ++ [])) :=
  bt3 (fun x0 x1 x2 => BindsTo.of_eq (by kernel_rfl!)) vs h
theorem c_law_chain (HS : SortOk) {c : Cx} {a0 a1 a2 : AV} {L : List AO} {T : Tm} {Q : AV → LT} (h1 : 1 ≤ c.n)
    (w : wpS c.dn b_law_chain [some a0, some a1, some a2, none] L T (fun _ L T => Q (.d .none) L T) Q) : CallOk c (.ref 674) [a0, a1, a2] L T Q :=
  call_row HS (st := fAt pp 62) (q := "_law_chain") (dV := .none) (pm := .str (Str.ofString "law_no0193_01") 1083) (cd := 673) (ps := p_law_chain) (vars := v_law_chain) (exs := []) (extra := [])
    (fun P => by kernel_rfl!) (by decide +kernel) (by decide +kernel) (by decide +kernel) no_extra n_law_chain h1 rfl w
noncomputable def b_law_broken : S :=
  (.seq (.asg 3 (.sub (.loc 1) (.loc 2)))
  (.seq (.ite (.or (.cmp .eq (.sub (.loc 3) (.int 0)) (.gl .SRF)) (.cmp .eq (.loc 3) (.tup (.cons (.gl .FUN) (.cons (.gl .F_DOT) .nil))))) (.seq (.ret (.bool true))
   .nil) .nil)
  (.seq (.ite (.cmp .eq (.sub (.loc 3) (.int 0)) (.gl .REF)) (.seq (.ret (.ofC (.not (.chain .le .le (.int 0) (.sub (.loc 3) (.int 1)) (.loc 2)))))
   .nil) .nil)
  (.seq (.ite (.cmp .eq (.sub (.loc 3) (.int 0)) (.gl .LIS)) (.seq (.ret (.ofC (.not (.chain .le .lt (.int 0) (.sub (.loc 3) (.int 1)) (.bin .sub (.len (.loc 1)) (.int 1))))))
   .nil) .nil)
  (.seq (.ite (.cmp .eq (.sub (.loc 3) (.int 0)) (.gl .STR)) (.seq (.ite (.or (.not (.chain .le .lt (.int 0) (.sub (.loc 3) (.int 1)) (.len (.loc 1)))) (.cmp .ne (.sub (.sub (.loc 1) (.sub (.loc 3) (.int 1))) (.int 0)) (.gl .FUN))) (.seq (.ret (.bool true))
    .nil) .nil)
   (.seq (.ret (.ofC (.cmp .ge (.bin .add (.sub (.loc 3) (.int 1)) (.mcall (.loc 0) .arity (.cons (.sub (.sub (.loc 1) (.sub (.loc 3) (.int 1))) (.int 1)) .nil))) (.len (.loc 1)))))
   .nil)) .nil)
  (.seq (.ret (.bool false))
  .nil))))))
noncomputable def v_law_broken : List Str := ["signs", "heap", "address", "cell"]
noncomputable def p_law_broken : List Str := ["signs", "heap", "address"]
theorem n_law_broken (P : Params) (s : Shared) (vs : List Value) (hk : (Kof pp P).In s.heap) (h : vs.length + ([] : List Value).length = 3) : BindsTo s (kfd (fAt pp 63) "_law_broken" (.none) (.str (Str.ofString "law_no0193_01") 1083) 680) ⟨vs, []⟩ (p_law_broken.zip (vs ++ [])) :=
  bt3 (fun x0 x1 x2 => BindsTo.of_eq (by kernel_rfl!)) vs h
theorem c_law_broken (HS : SortOk) {c : Cx} {a0 a1 a2 : AV} {L : List AO} {T : Tm} {Q : AV → LT} (h1 : 1 ≤ c.n)
    (w : wpS c.dn b_law_broken [some a0, some a1, some a2, none] L T (fun _ L T => Q (.d .none) L T) Q) : CallOk c (.ref 681) [a0, a1, a2] L T Q :=
  call_row HS (st := fAt pp 63) (q := "_law_broken") (dV := .none) (pm := .str (Str.ofString "law_no0193_01") 1083) (cd := 680) (ps := p_law_broken) (vars := v_law_broken) (exs := []) (extra := [])
    (fun P => by kernel_rfl!) (by decide +kernel) (by decide +kernel) (by decide +kernel) no_extra n_law_broken h1 rfl w
noncomputable def b_law_spoiled_cell : S :=
  (.seq (.asg 2 (.bin .mod (.callF .law_next (.cons (.loc 0) .nil)) (.len (.loc 1))))
  (.seq (.asg 3 (.len (.loc 1)))
  (.seq (.asg 4 (.lst (.cons (.tup (.cons (.gl .REF) (.cons (.bin .add (.loc 2) (.int 1)) .nil))) (.cons (.tup (.cons (.gl .SRF) (.cons (.int 0) .nil))) (.cons (.tup (.cons (.gl .REF) (.cons (.loc 3) .nil))) (.cons (.tup (.cons (.gl .REF) (.cons (.int (-1)) .nil))) (.cons (.tup (.cons (.gl .LIS) (.cons (.bin .sub (.loc 3) (.int 1)) .nil))) (.cons (.tup (.cons (.gl .LIS) (.cons (.bin .sub (.loc 3) (.int 2)) .nil))) (.cons (.tup (.cons (.gl .LIS) (.cons (.int (-1)) .nil))) (.cons (.tup (.cons (.gl .STR) (.cons (.loc 3) .nil))) (.cons (.tup (.cons (.gl .STR) (.cons (.int (-1)) .nil))) (.cons (.tup (.cons (.gl .STR) (.cons (.loc 2) .nil))) (.cons (.tup (.cons (.gl .FUN) (.cons (.gl .F_DOT) .nil))) (.cons (.tup (.cons (.gl .FUN) (.cons (.gl .F_MINUS) .nil))) (.cons (.tup (.cons (.gl .INT) (.cons (.int (-1)) .nil))) (.cons (.tup (.cons (.gl .CON) (.cons (.int 0) .nil))) (.cons (.tup (.cons (.gl .REF) (.cons (.loc 2) .nil))) (.cons (.tup (.cons (.gl .STR) (.cons (.int 0) .nil))) .nil))))))))))))))))))
  (.seq (.setI (.loc 1) (.loc 2) (.sub (.loc 4) (.bin .mod (.callF .law_next (.cons (.loc 0) .nil)) (.len (.loc 4)))))
  .nil))))
noncomputable def v_law_spoiled_cell : List Str := ["row", "heap", "address", "far", "menu"]
noncomputable def p_law_spoiled_cell : List Str := ["row", "heap"]
theorem n_law_spoiled_cell (P : Params) (s : Shared) (vs : List Value) (hk : (Kof pp P).In s.heap) (h : vs.length + ([] : List Value).length = 2) : BindsTo s (kfd (fAt pp 64) "_law_spoiled_cell" (.none) (.str (Str.ofString "law_no0193_01") 1083) 687) ⟨vs, []⟩ (p_law_spoiled_cell.zip (vs ++ [])) :=
  bt2 (fun x0 x1 => BindsTo.of_eq (by kernel_rfl!)) vs h
theorem c_law_spoiled_cell (HS : SortOk) {c : Cx} {a0 a1 : AV} {L : List AO} {T : Tm} {Q : AV → LT} (h1 : 1 ≤ c.n)
    (w : wpS c.dn b_law_spoiled_cell [some a0, some a1, none, none, none] L T (fun _ L T => Q (.d .none) L T) Q) : CallOk c (.ref 688) [a0, a1] L T Q :=
  call_row HS (st := fAt pp 64) (q := "_law_spoiled_cell") (dV := .none) (pm := .str (Str.ofString "law_no0193_01") 1083) (cd := 687) (ps := p_law_spoiled_cell) (vars := v_law_spoiled_cell) (exs := []) (extra := [])
    (fun P => by kernel_rfl!) (by decide +kernel) (by decide +kernel) (by decide +kernel) no_extra n_law_spoiled_cell h1 rfl w
noncomputable def b_law_spoiled_rest_0 : S :=
  (.seq (.augA (.loc 3) .bb (.int 1))
  .nil)
noncomputable def b_law_spoiled_rest_1 : S :=
  (.seq (.ex (.lapp (.attr (.loc 3) .trail) (.loc 5)))
  .nil)
noncomputable def b_law_spoiled_rest_2 : S :=
  (.seq (.ex (.lapp (.attr (.loc 3) .trail) (.bin .sub (.int (-1)) (.len (.attr (.loc 3) .stack)))))
  .nil)
noncomputable def b_law_spoiled_rest_3 : S :=
  (.seq (.setI (.attr (.loc 1) .x) (.loc 2) (.sub (.lst (.cons (.tup (.cons (.gl .REF) (.cons (.loc 5) .nil))) (.cons (.tup (.cons (.gl .LIS) (.cons (.bin .sub (.loc 5) (.int 1)) .nil))) (.cons (.tup (.cons (.gl .STR) (.cons (.loc 5) .nil))) (.cons (.tup (.cons (.gl .STR) (.cons (.int 0) .nil))) (.cons (.tup (.cons (.gl .SRF) (.cons (.len (.attr (.loc 3) .stack)) .nil))) (.cons (.tup (.cons (.gl .FUN) (.cons (.gl .F_MINUS) .nil))) .nil))))))) (.bin .mod (.callF .law_next (.cons (.loc 0) .nil)) (.int 6))))
  .nil)
noncomputable def b_law_spoiled_rest_4 : S :=
  (.seq (.setI (.attr (.loc 1) .roots) (.bin .mod (.callF .law_next (.cons (.loc 0) .nil)) (.int 4)) (.sub (.lst (.cons (.tup (.cons (.gl .REF) (.cons (.int (-1)) .nil))) (.cons (.tup (.cons (.gl .LIS) (.cons (.int (-1)) .nil))) (.cons (.tup (.cons (.gl .STR) (.cons (.int (-1)) .nil))) (.cons (.tup (.cons (.gl .SRF) (.cons (.int (-1)) .nil))) .nil))))) (.bin .mod (.callF .law_next (.cons (.loc 0) .nil)) (.int 4))))
  .nil)
noncomputable def b_law_spoiled_rest_5 : S :=
  (.seq (.setI (.attr (.loc 3) .stack) (.bin .add (.bin .add (.attr (.loc 1) .b) (.sub (.attr (.loc 3) .stack) (.attr (.loc 1) .b))) (.int 6)) (.bin .add (.loc 5) (.int 1)))
  (.seq (.setA (.loc 3) .hb (.bin .add (.loc 5) (.int 1)))
  .nil))
noncomputable def b_law_spoiled_rest_6 : S :=
  (.seq (.setI (.attr (.loc 3) .stack) (.bin .add (.bin .add (.attr (.loc 1) .b) (.sub (.attr (.loc 3) .stack) (.attr (.loc 1) .b))) (.int 5)) (.bin .add (.len (.attr (.loc 3) .trail)) (.int 1)))
  .nil)
noncomputable def b_law_spoiled_rest_7 : S :=
  (.seq (.setI (.attr (.loc 3) .stack) (.bin .add (.attr (.loc 1) .b) (.int 1)) (.sub (.lst (.cons (.tup (.cons (.gl .SRF) (.cons (.bin .add (.attr (.loc 1) .b) (.int 2)) .nil))) (.cons (.tup (.cons (.gl .REF) (.cons (.loc 5) .nil))) (.cons (.tup (.cons (.gl .LIS) (.cons (.bin .sub (.loc 5) (.int 1)) .nil))) (.cons (.tup (.cons (.gl .STR) (.cons (.loc 5) .nil))) .nil))))) (.bin .mod (.callF .law_next (.cons (.loc 0) .nil)) (.int 4))))
  .nil)
noncomputable def b_law_spoiled_rest_8 : S :=
  (.seq (.augA (.loc 3) .hb (.int 1))
  .nil)
noncomputable def b_law_spoiled_rest : S :=
  (.seq (.asg 3 (.attr (.loc 1) .store))
  (.seq (.asg 4 (.bin .mod (.callF .law_next (.cons (.loc 0) .nil)) (.int 9)))
  (.seq (.asg 5 (.len (.attr (.loc 3) .heap)))
  (.seq (.ite (.cmp .eq (.loc 4) (.int 1)) b_law_spoiled_rest_0 (.seq (.ite (.cmp .eq (.loc 4) (.int 2)) b_law_spoiled_rest_1 (.seq (.ite (.cmp .eq (.loc 4) (.int 3)) b_law_spoiled_rest_2 (.seq (.ite (.and (.cmp .eq (.loc 4) (.int 4)) (.cmp .gt (.loc 2) (.int 0))) b_law_spoiled_rest_3 (.seq (.ite (.cmp .eq (.loc 4) (.int 5)) b_law_spoiled_rest_4 (.seq (.ite (.and (.cmp .eq (.loc 4) (.int 6)) (.cmp .ge (.attr (.loc 1) .b) (.int 0))) b_law_spoiled_rest_5 (.seq (.ite (.and (.cmp .eq (.loc 4) (.int 7)) (.cmp .ge (.attr (.loc 1) .b) (.int 0))) b_law_spoiled_rest_6 (.seq (.ite (.and (.cmp .eq (.loc 4) (.int 8)) (.and (.cmp .ge (.attr (.loc 1) .b) (.int 0)) (.cmp .gt (.sub (.attr (.loc 3) .stack) (.attr (.loc 1) .b)) (.int 0)))) b_law_spoiled_rest_7 b_law_spoiled_rest_8)
         .nil))
        .nil))
       .nil))
      .nil))
     .nil))
    .nil))
   .nil))
  .nil))))
noncomputable def v_law_spoiled_rest : List Str := ["row", "m", "many", "store", "kind", "far"]
noncomputable def p_law_spoiled_rest : List Str := ["row", "m", "many"]
theorem n_law_spoiled_rest (P : Params) (s : Shared) (vs : List Value) (hk : (Kof pp P).In s.heap) (h : vs.length + ([] : List Value).length = 3) : BindsTo s (kfd (fAt pp 65) "_law_spoiled_rest" (.none) (.str (Str.ofString "law_no0193_01") 1083) 694) ⟨vs, []⟩ (p_law_spoiled_rest.zip (vs ++ [])) :=
  bt3 (fun x0 x1 x2 => BindsTo.of_eq (by kernel_rfl!)) vs h
theorem c_law_spoiled_rest (HS : SortOk) {c : Cx} {a0 a1 a2 : AV} {L : List AO} {T : Tm} {Q : AV → LT} (h1 : 1 ≤ c.n)
    (w : wpS c.dn b_law_spoiled_rest [some a0, some a1, some a2, none, none, none] L T (fun _ L T => Q (.d .none) L T) Q) : CallOk c (.ref 695) [a0, a1, a2] L T Q :=
  call_row HS (st := fAt pp 65) (q := "_law_spoiled_rest") (dV := .none) (pm := .str (Str.ofString "law_no0193_01") 1083) (cd := 694) (ps := p_law_spoiled_rest) (vars := v_law_spoiled_rest) (exs := []) (extra := [])
    (fun P => by kernel_rfl!) (by decide +kernel) (by decide +kernel) (by decide +kernel) no_extra n_law_spoiled_rest h1 rfl w
noncomputable def b_law_r : S :=
  (.seq (.ex (.callF .law_spoiled_rest (.cons (.loc 1) (.cons (.loc 3) (.cons (.loc 4) .nil)))))
  (.seq (.ret (.ofC (.cmp .ne (.callF .troubles (.cons (.loc 3) (.cons (.loc 4) .nil))) (.lst .nil))))
  .nil))
noncomputable def b_law_s : S :=
  (.seq (.ex (.mcall (.loc 5) .stack_put (.cons (.len (.attr (.loc 5) .stack)) (.cons (.tup (.cons (.gl .SRF) (.cons (.len (.attr (.loc 5) .stack)) .nil))) .nil))))
  (.seq (.asg 10 (.bin .sub (.len (.attr (.loc 5) .stack)) (.int 1)))
  (.seq (.ite (.cmp .ne (.callF .stack_faults (.cons (.loc 5) (.cons (.lst (.cons (.loc 10) .nil)) .nil))) (.lst .nil)) (.seq (.ret (.bool false))
   .nil) .nil)
  (.seq (.setI (.attr (.loc 5) .stack) (.loc 10) (.sub (.lst (.cons (.tup (.cons (.gl .SRF) (.cons (.bin .add (.loc 10) (.int 1)) .nil))) (.cons (.tup (.cons (.gl .REF) (.cons (.len (.attr (.loc 5) .heap)) .nil))) (.cons (.tup (.cons (.gl .SRF) (.cons (.int (-1)) .nil))) (.cons (.tup (.cons (.gl .REF) (.cons (.int (-1)) .nil))) .nil))))) (.bin .mod (.callF .law_next (.cons (.loc 1) .nil)) (.int 4))))
  (.seq (.ret (.ofC (.cmp .eq (.callF .stack_faults (.cons (.loc 5) (.cons (.lst (.cons (.loc 10) .nil)) .nil))) (.lst (.cons (.loc 10) .nil)))))
  .nil)))))
noncomputable def b_law_e : S :=
  (.seq (.ite (.cmp .ne (.loc 6) (.lst (.cons (.attr (.loc 5) .heap) (.cons (.attr (.loc 5) .stack) (.cons (.attr (.loc 5) .trail) .nil))))) (.seq (.ret (.bool false))
   .nil) .nil)
  (.seq (.ite (.cmp .eq (.bin .mod (.callF .law_next (.cons (.loc 1) .nil)) (.int 2)) (.int 0)) (.seq (.ex (.callF .law_spoiled_cell (.cons (.loc 1) (.cons (.attr (.loc 5) .heap) .nil))))
   (.seq (.asg 9 (.comp false ["address", "signs", "store"] [2, 5] (.r1 (.len (.attr (.loc 5) .heap))) (.tru (.callF .law_broken (.cons (.loc 1) (.cons (.attr (.loc 2) .heap) (.cons (.loc 0) .nil))))) (.loc 0)))
   (.seq (.ite (.cmp .ne (.comp true ["address", "word"] [] (.val (.callF .heap_faults (.cons (.loc 5) .nil))) .tt (.loc 0)) (.loc 9)) (.seq (.ret (.bool false))
    .nil) .nil)
   b_law_s))) .nil)
  b_law_r))
noncomputable def b_law_i : S :=
  (.seq (.fr 8 (.r1 (.bin .add (.len (.attr (.loc 5) .stack)) (.int 1))) (.seq (.ite (.cmp .ne (.mcall (.loc 3) .in_chain (.cons (.loc 8) .nil)) (.ofC (.isin false (.loc 8) (.loc 7)))) (.seq (.ret (.bool false))
    .nil) .nil)
   .nil))
  b_law_e)
noncomputable def b_law_c : S :=
  (.seq (.asg 7 (.callF .law_chain (.cons (.attr (.loc 5) .stack) (.cons (.attr (.loc 3) .e) (.cons (.int 0) .nil)))))
  (.seq (.ite (.or (.cmp .ne (.mcall (.loc 3) .choices .nil) (.callF .law_chain (.cons (.attr (.loc 5) .stack) (.cons (.attr (.loc 3) .b) (.cons (.int 3) .nil))))) (.cmp .ne (.mcall (.loc 3) .environments .nil) (.loc 7))) (.seq (.ret (.bool false))
   .nil) .nil)
  b_law_i))
noncomputable def b_law_h : S :=
  (.seq (.asg 6 (.lst (.cons (.listOf (.attr (.loc 5) .heap)) (.cons (.listOf (.attr (.loc 5) .stack)) (.cons (.listOf (.attr (.loc 5) .trail)) .nil)))))
  (.seq (.ite (.or (.cmp .ne (.callF .heap_faults (.cons (.loc 5) .nil)) (.lst .nil)) (.or (.cmp .ne (.callF .troubles (.cons (.loc 3) (.cons (.loc 4) .nil))) (.lst .nil)) (.cmp .ne (.callF .state_faults (.cons (.loc 3) .nil)) (.lst .nil)))) (.seq (.ret (.bool false))
   .nil) .nil)
  b_law_c))
noncomputable def b_law : S :=
  (.seq (.asg 1 (.callF .law_row (.cons (.loc 0) .nil)))
  (.seq (.asg 2 (.new .Symbols .nil))
  (.seq (.asg2 3 4 (.callF .law_state (.cons (.loc 2) (.cons (.loc 1) .nil))))
  (.seq (.asg 5 (.attr (.loc 3) .store))
  b_law_h))))
noncomputable def v_law : List Str := ["script", "row", "signs", "m", "many", "store", "held", "chain", "index", "due", "last"]
noncomputable def p_law : List Str := ["script"]
theorem n_law (P : Params) (s : Shared) (vs : List Value) (hk : (Kof pp P).In s.heap) (h : vs.length + ([] : List Value).length = 1) : BindsTo s (kfd (fAt pp 66) "law" (.none) (.str (Str.ofString "law_no0193_01") 1083) 699) ⟨vs, []⟩ (p_law.zip (vs ++ [])) :=
  bt1 (fun x0 => BindsTo.of_eq (by kernel_rfl!)) vs h
theorem c_law (HS : SortOk) {c : Cx} {a0 : AV} {L : List AO} {T : Tm} {Q : AV → LT} (h1 : 1 ≤ c.n)
    (w : wpS c.dn b_law [some a0, none, none, none, none, none, none, none, none, none, none] L T (fun _ L T => Q (.d .none) L T) Q) : CallOk c (.ref 700) [a0] L T Q :=
  call_row HS (st := fAt pp 66) (q := "law") (dV := .none) (pm := .str (Str.ofString "law_no0193_01") 1083) (cd := 699) (ps := p_law) (vars := v_law) (exs := []) (extra := [])
    (fun P => by kernel_rfl!) (by decide +kernel) (by decide +kernel) (by decide +kernel) no_extra n_law h1 rfl w
end Mine
end
section
open PySem.Calls
set_option tactic.hygienic false
namespace Mine
abbrev Cell := Int × Int
inductive SV where
  | i (k : Int) | c (x : Cell)
structure St where
  row : List Int
  heap : List Cell
  stack : List SV
  trail : List Int
  x : List Cell
  roots : List Cell
  hb : Int
  bb : Int
  cp : Int
  e : Int
  b : Int
noncomputable def St.wR (M : St) (a : List Int) : St := { M with row := a }
noncomputable def St.wH (M : St) (a : List Cell) : St := { M with heap := a }
noncomputable def St.wS (M : St) (a : List SV) : St := { M with stack := a }
noncomputable def St.wT (M : St) (a : List Int) : St := { M with trail := a }
noncomputable def St.wX (M : St) (a : List Cell) : St := { M with x := a }
noncomputable def St.wO (M : St) (a : List Cell) : St := { M with roots := a }
noncomputable def St.wE (M : St) (a : Int) : St := { M with e := a }
noncomputable def St.wC (M : St) (a : Int) : St := { M with cp := a }
noncomputable def St.wB (M : St) (a : Int) : St := { M with b := a }
noncomputable def St.wh (M : St) (a : Int) : St := { M with hb := a }
noncomputable def St.wb (M : St) (a : Int) : St := { M with bb := a }
noncomputable def iA (k : Int) : AV := .d (.int k)
noncomputable def cA (c : Cell) : AV := .d (.tuple [.int c.1, .int c.2])
noncomputable def sA : SV → AV
  | .i k => iA k
  | .c x => cA x
structure Sy where
  texts : List Str
  an : List (Str × Int)
  fs : List (Int × Int)
  fn : List (List Int × Int)
noncomputable def symL (Y : Sy) : List AO := [.inst 154 [(.texts, .ref 2), (.atom_numbers, .ref 3), (.functors, .ref 4), (.functor_numbers, .ref 5)],
  .list (Y.texts.map fun t => .d (.str t)), .dS (Y.an.map fun p => (p.1, iA p.2)), .list (Y.fs.map cA), .dT (Y.fn.map fun p => (p.1, iA p.2))]
noncomputable def mkL (Y : Sy) (cd : Addr) (M : St) : List AO :=
  .list (M.row.map iA) :: (symL Y ++ [.inst 534 [(.symbols, .ref 1), (.code, .tmp cd), (.max_heap, iA 100000), (.occurs, .d (.bool true)), (.max_bits, iA 4096), (.store, .ref 7), (.x, .ref 11), (.p, iA 0),
      (.cp, iA M.cp), (.e, iA M.e), (.b, iA M.b), (.b0, iA (-1)), (.mode, .d (.str (Str.ofString "read"))), (.s, iA 0), (.guard, cA (5, 0)), (.roots, .ref 12), (.bags, .ref 13), (.collect_wanted, .d (.bool false))],
    .inst 374 [(.symbols, .ref 1), (.max_heap, iA 100000), (.heap, .ref 8), (.stack, .ref 9), (.trail, .ref 10), (.hb, iA M.hb), (.bb, iA M.bb)],
    .list (M.heap.map cA), .list (M.stack.map sA), .list (M.trail.map iA), .list (M.x.map cA), .list (M.roots.map cA), .dI []])
noncomputable def Ext (T T' : Tm) : Prop := ∀ a o, T a = some o → T' a = some o
theorem Ext.refl (T : Tm) : Ext T T := fun _ _ e => e
theorem Ext.trans {a b c : Tm} (x : Ext a b) (y : Ext b c) : Ext a c := fun p o e => y p o (x p o e)
theorem Ext.new {T : Tm} {a : Addr} {o : AO} (h : T a = none) : Ext T (upd T a o) := fun b o' e => by
  rw [upd_ne _ _ (by rintro rfl; rw [h] at e; cases e)]; exact e
theorem lv {a b : Nat} {c : Cx} (h : b ≤ c.n) (d : a + 1 ≤ b := by decide) : a ≤ c.dn.n := Nat.le_sub_of_add_le (Nat.le_trans d h)
theorem lw {a b : Nat} {c : Cx} (h : b ≤ c.n) (d : a + 2 ≤ b := by decide) : a ≤ c.dn.dn.n := Nat.le_sub_of_add_le (Nat.le_sub_of_add_le (Nat.le_trans d h))
theorem lx {a b : Nat} {c : Cx} (h : b ≤ c.n) (d : a + 3 ≤ b := by decide) : a ≤ c.dn.dn.dn.n := Nat.le_sub_of_add_le (Nat.le_sub_of_add_le (Nat.le_sub_of_add_le (Nat.le_trans d h)))
theorem lo {a b : Nat} {c : Cx} (h : b ≤ c.n) (d : a ≤ b := by decide) : a ≤ c.n := Nat.le_trans d h
theorem r_if {p : Prop} [Decidable p] {P N : Prop} (h1 : p → P) (h2 : ¬p → N) : wpIf (decide p) P N := by
  by_cases h : p
  · rw [decide_eq_true h]; exact h1 h
  · rw [decide_eq_false h]; exact h2 h
theorem r_t {p : Prop} [Decidable p] {P N : Prop} (h : p) (h1 : P) : wpIf (decide p) P N := by rw [decide_eq_true h]; exact h1
theorem r_f {p : Prop} [Decidable p] {P N : Prop} (h : ¬p) (h1 : N) : wpIf (decide p) P N := by rw [decide_eq_false h]; exact h1
theorem r_b {b : Bool} {P N : Prop} (h1 : b = true → P) (h2 : b = false → N) : wpIf b P N := by cases b; exact h2 rfl; exact h1 rfl
theorem r_bt {b : Bool} {P N : Prop} (h : b = true) (h1 : P) : wpIf b P N := by rw [h]; exact h1
theorem r_bf {b : Bool} {P N : Prop} (h : b = false) (h1 : N) : wpIf b P N := by rw [h]; exact h1
theorem eqv_c (a b c d : Int) : PyData.eqv (.tuple [.int a, .int b]) (.tuple [.int c, .int d]) = decide (a = c ∧ b = d) := by
  rw [Bool.eq_iff_iff, decide_eq_true_iff]
  show ((a == c) && ((b == d) && true)) = true ↔ _
  simp
theorem r_ceq {a b c d : Int} {P N : Prop} (h1 : a = c → b = d → P) (h2 : ¬(a = c ∧ b = d) → N) : wpIf (PyData.eqv (.tuple [.int a, .int b]) (.tuple [.int c, .int d])) P N := by
  rw [eqv_c]; exact r_if (fun h => h1 h.1 h.2) h2
theorem idx_map {α : Type} {f : α → AV} {l : List α} {k : Int} {v : α} (h0 : 0 ≤ k) (h : l[k.toNat]? = some v) : idx (l.map f) k = some (f v) := by
  unfold idx; rw [if_pos h0, List.getElem?_map, h]; rfl
theorem r_ix {α : Type} {f : α → AV} {l : List α} {k : Int} {v : α} {K : AV → Prop} (h0 : 0 ≤ k) (h : l[k.toNat]? = some v) (q : K (f v)) : ∃ x, idx (l.map f) k = some x ∧ K x := ⟨_, idx_map h0 h, q⟩
theorem r_ixn {l : List AV} {k : Int} {v : AV} {K : AV → Prop} (h0 : 0 ≤ k) (h : l[k.toNat]? = some v) (q : K v) : ∃ x, idx l k = some x ∧ K x := ⟨v, by unfold idx; rw [if_pos h0, h], q⟩
theorem lenI {α β : Type} {f : α → β} {l : List α} : ((l.map f).length : Int) = l.length := by rw [List.length_map]
theorem tn_lt {a b : Int} (h0 : 0 ≤ a) (h : a < b) : a.toNat < b.toNat := by lia
theorem lt_ne {a b : Int} (h : ¬a < b) (h1 : a ≠ b) : b < a := by lia
theorem big {a b : Nat} (h : a ≤ 999999) (hb : b ≤ a) : b < 1000000 := by lia
theorem rb {n : Nat} (h : n < 1000000) : -bigI ≤ (n : Int) ∧ (n : Int) ≤ bigI := by unfold bigI; lia
theorem map_snoc {α β : Type} (f : α → β) (l : List α) (x : α) : l.map f ++ [f x] = (l ++ [x]).map f := by rw [List.map_append]; rfl
theorem lt_len {α : Type} {l : List α} {k : Int} {v : α} (h0 : 0 ≤ k) (h : l[k.toNat]? = some v) : k < l.length := by
  have := lt_of_get h; lia
section
variable {Y : Sy} {cd : Addr} {M : St} {T : Tm}
theorem w_heapAdd {v : Cell} {K : LT} (h : M.heap.length < 1000000) (q : K (mkL Y cd (M.wH (M.heap ++ [v]))) T) : ((M.heap.map cA).length < lid ∧ wpPutL (.ref 8) (M.heap.map cA ++ [cA v]) (mkL Y cd M) T K) :=
  ⟨by rw [List.length_map]; exact Nat.lt_trans h (by decide), by rw [map_snoc]; exact q⟩
theorem w_heapSet {k : Int} {v : Cell} {K : LT} (h0 : 0 ≤ k) (h : k < M.heap.length) (q : K (mkL Y cd (M.wH (M.heap.set k.toNat v))) T) : 0 ≤ k ∧ k < (M.heap.map cA).length ∧ putObj (.ref 8) (.list ((M.heap.map cA).set k.toNat (cA v))) (mkL Y cd M) T K :=
  ⟨h0, by rw [List.length_map]; exact h, by rw [← List.map_set]; exact q⟩
theorem w_heapCut {k : Nat} {K : LT} (q : K (mkL Y cd (M.wH (M.heap.take k))) T) : wpPutL (.ref 8) ((M.heap.map cA).take k) (mkL Y cd M) T K := by rw [← List.map_take]; exact q
theorem w_stAdd {v : SV} {K : LT} (h : M.stack.length < 1000000) (q : K (mkL Y cd (M.wS (M.stack ++ [v]))) T) : ((M.stack.map sA).length < lid ∧ wpPutL (.ref 9) (M.stack.map sA ++ [sA v]) (mkL Y cd M) T K) :=
  ⟨by rw [List.length_map]; exact Nat.lt_trans h (by decide), by rw [map_snoc]; exact q⟩
theorem w_stSet {k : Int} {v : SV} {K : LT} (h0 : 0 ≤ k) (h : k < M.stack.length) (q : K (mkL Y cd (M.wS (M.stack.set k.toNat v))) T) : 0 ≤ k ∧ k < (M.stack.map sA).length ∧ putObj (.ref 9) (.list ((M.stack.map sA).set k.toNat (sA v))) (mkL Y cd M) T K :=
  ⟨h0, by rw [List.length_map]; exact h, by rw [← List.map_set]; exact q⟩
theorem w_trAdd {v : Int} {K : LT} (h : M.trail.length < 1000000) (q : K (mkL Y cd (M.wT (M.trail ++ [v]))) T) : ((M.trail.map iA).length < lid ∧ wpPutL (.ref 10) (M.trail.map iA ++ [iA v]) (mkL Y cd M) T K) :=
  ⟨by rw [List.length_map]; exact Nat.lt_trans h (by decide), by rw [map_snoc]; exact q⟩
theorem w_trPop {t : List Int} {v : Int} {K : AV → LT} (e : M.trail = t ++ [v]) (q : K (iA v) (mkL Y cd (M.wT t)) T) : ∃ r x, M.trail.map iA = r ++ [x] ∧ wpPutL (.ref 10) r (mkL Y cd M) T fun L T => K x L T :=
  ⟨t.map iA, iA v, by rw [map_snoc, e], q⟩
theorem w_xSet {k : Int} {v : Cell} {K : LT} (h0 : 0 ≤ k) (h : k < M.x.length) (q : K (mkL Y cd (M.wX (M.x.set k.toNat v))) T) : 0 ≤ k ∧ k < (M.x.map cA).length ∧ putObj (.ref 11) (.list ((M.x.map cA).set k.toNat (cA v))) (mkL Y cd M) T K :=
  ⟨h0, by rw [List.length_map]; exact h, by rw [← List.map_set]; exact q⟩
theorem w_xAdd {v : Cell} {K : LT} (h : M.x.length < 1000000) (q : K (mkL Y cd (M.wX (M.x ++ [v]))) T) : ((M.x.map cA).length < lid ∧ wpPutL (.ref 11) (M.x.map cA ++ [cA v]) (mkL Y cd M) T K) :=
  ⟨by rw [List.length_map]; exact Nat.lt_trans h (by decide), by rw [map_snoc]; exact q⟩
theorem w_rootSet {k : Int} {v : Cell} {K : LT} (h0 : 0 ≤ k) (h : k < M.roots.length) (q : K (mkL Y cd (M.wO (M.roots.set k.toNat v))) T) : 0 ≤ k ∧ k < (M.roots.map cA).length ∧ putObj (.ref 12) (.list ((M.roots.map cA).set k.toNat (cA v))) (mkL Y cd M) T K :=
  ⟨h0, by rw [List.length_map]; exact h, by rw [← List.map_set]; exact q⟩
theorem w_rootAdd {v : Cell} {K : LT} (h : M.roots.length < 1000000) (q : K (mkL Y cd (M.wO (M.roots ++ [v]))) T) : ((M.roots.map cA).length < lid ∧ wpPutL (.ref 12) (M.roots.map cA ++ [cA v]) (mkL Y cd M) T K) :=
  ⟨by rw [List.length_map]; exact Nat.lt_trans h (by decide), by rw [map_snoc]; exact q⟩
theorem w_rowPop {t : List Int} {v : Int} {K : AV → LT} (e : M.row = t ++ [v]) (q : K (iA v) (mkL Y cd (M.wR t)) T) : ∃ r x, M.row.map iA = r ++ [x] ∧ wpPutL (.ref 0) r (mkL Y cd M) T fun L T => K x L T :=
  ⟨t.map iA, iA v, by rw [map_snoc, e], q⟩
end
theorem w_tmpAdd {α : Type} {f : α → AV} {l : List α} {v : α} {L : List AO} {T : Tm} {a : Addr} {K : LT} (h : l.length < 1000000) (q : K L (upd T a (.list ((l ++ [v]).map f)))) : ((l.map f).length < lid ∧ wpPutL (.tmp a) (l.map f ++ [f v]) L T K) :=
  ⟨by rw [List.length_map]; exact Nat.lt_trans h (by decide), by rw [map_snoc]; exact q⟩
theorem w_new {vs : List AV} {T : Tm} {P : Prop} {K : Addr → Prop} (h : vs.length < 1000000) (q : ∀ a, T a = none → K a) : vs.length ≤ lid ∧ (P ∨ ∀ a, T a = none → K a) :=
  ⟨Nat.le_trans (Nat.le_of_lt h) (by decide), .inr q⟩
section
variable {L : List AO} {T : Tm} {l : Loc} {i : Nat} {body : Loc → List AO → Tm → (Loc → LT) → Prop} {K : Loc → LT}
theorem fr_list {α σ : Type} {f : α → AV} {v : AV} {xs : List α} (lf : σ → Loc) (Lf : σ → List AO) (I : List α → List α → σ → Tm → Prop) (s0 : σ) (hl : l = lf s0) (hL : L = Lf s0) (h : I [] xs s0 T)
    (live : ∀ d r s T (P : Prop), I d r s T → P → wpGetL v (Lf s) T fun ws => ws = xs.map f ∧ P)
    (step : ∀ d x r s T (P : Loc → LT), xs = d ++ x :: r → I d (x :: r) s T → (∀ s' T', I (d ++ [x]) r s' T' → P (lf s') (Lf s') T') → putNth (lf s) i (some (f x)) fun l' => body l' (Lf s) T P)
    (fin : ∀ s T, I xs [] s T → K (lf s) (Lf s) T) : wpFr (some (v, xs.map f)) i body (xs.map f) l L T K := by
  have go : ∀ (r d : List α) (s : σ) (T : Tm), xs = d ++ r → I d r s T → wpFr (some (v, xs.map f)) i body (r.map f) (lf s) (Lf s) T K := by
    intro r
    induction r with
    | nil => intro d s T e h; rw [List.append_nil] at e; subst e; exact live _ _ s T _ h (fin s T h)
    | cons x r ih =>
      intro d s T e h
      exact live _ _ s T _ h (step d x r s T _ e h fun s2 T2 h2 => ih _ s2 T2 (by rw [e, List.append_assoc]; rfl) h2)
  rw [hl, hL]
  exact go xs [] s0 T rfl h
theorem fr_tup {α σ : Type} {f : α → AV} {xs : List α} (lf : σ → Loc) (Lf : σ → List AO) (I : List α → List α → σ → Tm → Prop) (s0 : σ) (hl : l = lf s0) (hL : L = Lf s0) (h : I [] xs s0 T)
    (step : ∀ d x r s T (P : Loc → LT), xs = d ++ x :: r → I d (x :: r) s T → (∀ s' T', I (d ++ [x]) r s' T' → P (lf s') (Lf s') T') → putNth (lf s) i (some (f x)) fun l' => body l' (Lf s) T P)
    (fin : ∀ s T, I xs [] s T → K (lf s) (Lf s) T) : wpFr none i body (xs.map f) l L T K := by
  have go : ∀ (r d : List α) (s : σ) (T : Tm), xs = d ++ r → I d r s T → wpFr none i body (r.map f) (lf s) (Lf s) T K := by
    intro r
    induction r with
    | nil => intro d s T e h; rw [List.append_nil] at e; subst e; exact fin s T h
    | cons x r ih => intro d s T e h; exact step d x r s T _ e h fun s2 T2 h2 => ih _ s2 T2 (by rw [e, List.append_assoc]; rfl) h2
  rw [hl, hL]
  exact go xs [] s0 T rfl h
theorem fr_rng {σ : Type} {a : Int} {n : Nat} (lf : σ → Loc) (Lf : σ → List AO) (I : Nat → σ → Tm → Prop) (s0 : σ) (hl : l = lf s0) (hL : L = Lf s0) (h : I 0 s0 T)
    (step : ∀ (j : Nat) s T (P : Loc → LT), j < n → I j s T → (∀ s' T', I (j + 1) s' T' → P (lf s') (Lf s') T') → putNth (lf s) i (some (iA (a + j))) fun l' => body l' (Lf s) T P)
    (fin : ∀ s T, I n s T → K (lf s) (Lf s) T) : wpFr none i body (rangeAV a n) l L T K := by
  have go : ∀ (m j : Nat) (s : σ) (T : Tm), j + m = n → I j s T → wpFr none i body (rangeAV (a + j) m) (lf s) (Lf s) T K := by
    intro m
    induction m with
    | zero => intro j s T e h; subst e; exact fin s T h
    | succ m ih =>
      intro j s T e h
      refine step j s T _ (e ▸ Nat.lt_add_of_pos_right (Nat.succ_pos m)) h fun s2 T2 h2 => ?_
      have z := ih (j + 1) s2 T2 ((Nat.succ_add_eq_add_succ j m).trans e) h2
      rwa [Int.natCast_succ, ← Int.add_assoc] at z
  have z := go n 0 s0 T (Nat.zero_add n) h
  rw [hl, hL]
  rwa [show a + ((0 : Nat) : Int) = a from Int.add_zero a] at z
theorem whl_ind {σ : Type} {cond : Loc → List AO → Tm → (Bool → LT) → Prop} (lf : σ → Loc) (Lf : σ → List AO) (I : Nat → σ → Tm → Prop) {n : Nat} (s0 : σ) (hl : l = lf s0) (hL : L = Lf s0) (h : I n s0 T)
    (step : ∀ n s T (P : Loc → LT), I n s T → (∀ m s' T', m < n → I m s' T' → P (lf s') (Lf s') T') → cond (lf s) (Lf s) T fun b L1 T1 => wpIf b (body (lf s) L1 T1 P) (K (lf s) L1 T1)) : ∃ k, wpWhl cond body k l L T K := by
  have go : ∀ (f n : Nat) (s : σ) (T : Tm), n ≤ f → I n s T → wpWhl cond body (f + 1) (lf s) (Lf s) T K := by
    intro f
    induction f with
    | zero => intro n s T hn h; exact step n s T _ h fun m _ _ hm _ => absurd (Nat.lt_of_lt_of_le hm hn) (Nat.not_lt_zero _)
    | succ f ih => intro n s T hn h; exact step n s T _ h fun m s2 T2 hm h2 => ih m s2 T2 (Nat.le_of_lt_succ (Nat.lt_of_lt_of_le hm hn)) h2
  rw [hl, hL]
  exact ⟨n + 1, go n n s0 T (Nat.le_refl n) h⟩
theorem rng0 {σ : Type} {n : Nat} (lf : σ → Loc) (Lf : σ → List AO) (I : Nat → σ → Tm → Prop) (s0 : σ) (hl : l = lf s0) (hL : L = Lf s0) (h : I 0 s0 T)
    (step : ∀ (j : Nat) s T (P : Loc → LT), j < n → I j s T → (∀ s' T', I (j + 1) s' T' → P (lf s') (Lf s') T') → putNth (lf s) i (some (iA j)) fun l' => body l' (Lf s) T P)
    (fin : ∀ s T, I n s T → K (lf s) (Lf s) T) : wpFr none i body (rangeAV 0 n) l L T K :=
  fr_rng lf Lf I s0 hl hL h (fun j s T P hj hI k => by rw [Int.zero_add]; exact step j s T P hj hI k) fin
theorem whl_c {σ : Type} {cond : Loc → List AO → Tm → (Bool → LT) → Prop} (lf : σ → Loc) (Lf : σ → List AO) (I : Nat → σ → Prop) {n : Nat} (s0 : σ) (hl : l = lf s0) (hL : L = Lf s0) (h : I n s0)
    (step : ∀ n s (P : Loc → LT), I n s → (∀ m s', m < n → I m s' → P (lf s') (Lf s') T) → cond (lf s) (Lf s) T fun b L1 T1 => wpIf b (body (lf s) L1 T1 P) (K (lf s) L1 T1)) : ∃ k, wpWhl cond body k l L T K :=
  whl_ind lf Lf (fun n s T' => T' = T ∧ I n s) s0 hl hL ⟨rfl, h⟩ fun n s T' P hI k => by
    obtain ⟨rfl, hI⟩ := hI
    exact step n s P hI fun m s' hm h' => k m s' _ hm ⟨rfl, h'⟩
theorem rng_c {σ : Type} {a : Int} {n : Nat} (lf : σ → Loc) (Lf : σ → List AO) (I : Nat → σ → Prop) (s0 : σ) (hl : l = lf s0) (hL : L = Lf s0) (h : I 0 s0)
    (step : ∀ (j : Nat) s (P : Loc → LT), j < n → I j s → (∀ s', I (j + 1) s' → P (lf s') (Lf s') T) → putNth (lf s) i (some (iA (a + j))) fun l' => body l' (Lf s) T P)
    (fin : ∀ s, I n s → K (lf s) (Lf s) T) : wpFr none i body (rangeAV a n) l L T K :=
  fr_rng lf Lf (fun n s T' => T' = T ∧ I n s) s0 hl hL ⟨rfl, h⟩ (fun j s T' P hj hI k => by
    obtain ⟨rfl, hI⟩ := hI
    exact step j s P hj hI fun s' h' => k s' _ ⟨rfl, h'⟩) fun s T' hI => by
    obtain ⟨rfl, hI⟩ := hI
    exact fin s hI
theorem list_c {α σ : Type} {f : α → AV} {v : AV} {xs : List α} (lf : σ → Loc) (Lf : σ → List AO) (I : List α → List α → σ → Prop) (s0 : σ) (hl : l = lf s0) (hL : L = Lf s0) (h : I [] xs s0)
    (live : ∀ d r s (P : Prop), I d r s → P → wpGetL v (Lf s) T fun ws => ws = xs.map f ∧ P)
    (step : ∀ d x r s (P : Loc → LT), xs = d ++ x :: r → I d (x :: r) s → (∀ s', I (d ++ [x]) r s' → P (lf s') (Lf s') T) → putNth (lf s) i (some (f x)) fun l' => body l' (Lf s) T P)
    (fin : ∀ s, I xs [] s → K (lf s) (Lf s) T) : wpFr (some (v, xs.map f)) i body (xs.map f) l L T K :=
  fr_list lf Lf (fun d r s T' => T' = T ∧ I d r s) s0 hl hL ⟨rfl, h⟩ (fun d r s T' P hI hP => by obtain ⟨rfl, hI⟩ := hI; exact live d r s P hI hP)
    (fun d x r s T' P e hI k => by obtain ⟨rfl, hI⟩ := hI; exact step d x r s P e hI fun s' h' => k s' _ ⟨rfl, h'⟩) fun s T' hI => by obtain ⟨rfl, hI⟩ := hI; exact fin s hI
end
section
variable {Y : Sy} {cd : Addr} {M : St} {v : Int} {K : List AO → Prop}
theorem w_e (q : K (mkL Y cd (M.wE v))) : wpSetA (.ref 6) .e (iA v) (mkL Y cd M) K := ⟨Nat.le_of_ble_eq_true rfl, q⟩
theorem w_cp (q : K (mkL Y cd (M.wC v))) : wpSetA (.ref 6) .cp (iA v) (mkL Y cd M) K := ⟨Nat.le_of_ble_eq_true rfl, q⟩
theorem w_b (q : K (mkL Y cd (M.wB v))) : wpSetA (.ref 6) .b (iA v) (mkL Y cd M) K := ⟨Nat.le_of_ble_eq_true rfl, q⟩
theorem w_hb (q : K (mkL Y cd (M.wh v))) : wpSetA (.ref 7) .hb (iA v) (mkL Y cd M) K := ⟨Nat.le_of_ble_eq_true rfl, q⟩
theorem w_bb (q : K (mkL Y cd (M.wb v))) : wpSetA (.ref 7) .bb (iA v) (mkL Y cd M) K := ⟨Nat.le_of_ble_eq_true rfl, q⟩
end
end Mine
end
section
open PySem.Calls
namespace Mine
noncomputable def vars (a : Int) : Nat → List Cell
  | 0 => []
  | n + 1 => vars a n ++ [(0, a + n)]
theorem vars_len (a : Int) : ∀ n, (vars a n).length = n
  | 0 => rfl
  | n + 1 => (List.length_append (bs := [(0, a + n)])).trans (congrArg (· + 1) (vars_len a n))
section
variable {Y : Sy} {cd : Addr} {M : St} {c : Cx} {T : Tm} {Q : AV → LT} (HS : SortOk)
include HS
theorem k_mark (h : 1 ≤ c.n) (q : Q (iA M.trail.length) (mkL Y cd M) T) : CallOk c (.ref 265) [.ref 7] (mkL Y cd M) T Q :=
  c_Cells_mark HS h (by rw [← lenI (f := iA)] at q; exact q)
theorem k_push {v} (h : 1 ≤ c.n) (h1 : M.heap.length < 100000) (q : Q (iA M.heap.length) (mkL Y cd (M.wH (M.heap ++ [v]))) T) : CallOk c (.ref 202) [.ref 7, cA v] (mkL Y cd M) T Q := by
  rw [← lenI (f := cA)] at q
  exact c_Cells_push HS h (r_f (by rw [lenI]; lia) (w_heapAdd (Nat.lt_trans h1 (by decide)) q))
theorem k_new_var (h : 3 ≤ c.n) (h1 : M.heap.length < 100000) (q : Q (cA (0, M.heap.length)) (mkL Y cd (M.wH (M.heap ++ [(0, (M.heap.length : Int))]))) T) : CallOk c (.ref 209) [.ref 7] (mkL Y cd M) T Q := by
  have q' : CallOk c.dn.dn (.ref 202) [.ref 7, cA (0, M.heap.length)] (mkL Y cd M) T fun _ L T => Q (cA (0, M.heap.length)) L T := k_push HS (lw h) h1 q
  rw [← lenI (f := cA)] at q'
  exact c_Cells_new_var HS (lo h) q'
theorem k_reserve {n : Nat} (h : 1 ≤ c.n) (h1 : M.heap.length + n ≤ 100000) (q : Q (iA M.heap.length) (mkL Y cd (M.wH (M.heap ++ vars M.heap.length n))) T) : CallOk c (.ref 216) [.ref 7, iA n] (mkL Y cd M) T Q := by
  have e : M.heap.length = (M.heap.map cA).length := (List.length_map cA).symm
  rw [e] at q
  refine c_Cells_reserve HS h (r_f (by rw [lenI]; lia) ⟨(rb (by lia)).1, (rb (by lia)).2, ?_⟩)
  refine rng_c (σ := Nat × Option AV) (fun s => [some (.ref 7), some (iA n), some (iA (M.heap.map cA).length), s.2]) (fun s => mkL Y cd (M.wH (M.heap ++ vars (M.heap.map cA).length s.1)))
    (fun j s => s.1 = j) (0, none) rfl (by unfold vars; rw [List.append_nil]; rfl) rfl ?_ ?_
  · intro j s P hj hI k
    refine w_heapAdd (M := (M.wH (M.heap ++ vars (M.heap.map cA).length s.1))) (v := (0, ((M.heap.map cA).length : Int) + ((0 : Int) + (j : Int)))) (by show (M.heap ++ _).length < _; rw [List.length_append, vars_len, hI]; rw [Int.toNat_natCast] at hj; lia) ?_
    have z := k (j + 1, some (iA ((0 : Int) + (j : Int)))) rfl
    rw [show vars (M.heap.map cA).length (j + 1) = vars (M.heap.map cA).length s.1 ++ [(0, ((M.heap.map cA).length : Int) + ((0 : Int) + (j : Int)))] by rw [hI, Int.zero_add]; rfl, ← List.append_assoc] at z
    exact z
  · intro s hI
    rw [← Int.toNat_natCast n, ← hI] at q
    exact q
theorem k_trim {k : Nat} (h : 1 ≤ c.n) (h1 : k < 1000000) (q : Q (.d .none) (mkL Y cd (M.wH (M.heap.take k))) T) : CallOk c (.ref 223) [.ref 7, iA k] (mkL Y cd M) T Q :=
  c_Cells_trim HS h ⟨Int.natCast_nonneg k, by unfold bigI; lia, w_heapCut (k := (k : Int).toNat) q⟩
theorem k_bind {a : Int} {v : Cell} (h : 1 ≤ c.n) (h0 : 0 ≤ a) (h1 : a < M.heap.length) (h2 : M.trail.length < 1000000)
    (q : Q (.d .none) (mkL Y cd ((M.wH (M.heap.set a.toNat v)).wT (if a < M.hb then M.trail ++ [a] else M.trail))) T) : CallOk c (.ref 244) [.ref 7, cA (0, a), cA v] (mkL Y cd M) T Q := by
  refine c_Cells_bind HS h ⟨by decide, ⟨by decide, w_heapSet h0 h1 (r_if (p := a < M.hb) (fun hc => ?_) fun hc => ?_)⟩⟩
  · rw [if_pos hc] at q
    exact w_trAdd (M := M.wH (M.heap.set a.toNat v)) h2 q
  · rw [if_neg hc] at q
    exact q
theorem k_bind_pair {a b : Int} (h : 3 ≤ c.n) (hab : a ≠ b) (h0 : 0 ≤ a) (h0' : 0 ≤ b) (h1 : a < M.heap.length) (h1' : b < M.heap.length) (h2 : M.trail.length < 1000000)
    (q : ∀ x y : Int, ((x = a ∧ y = b) ∨ (x = b ∧ y = a)) → y < x → Q (.d .none) (mkL Y cd ((M.wH (M.heap.set x.toNat (0, y))).wT (if x < M.hb then M.trail ++ [x] else M.trail))) T) :
    CallOk c (.ref 251) [.ref 7, cA (0, a), cA (0, b)] (mkL Y cd M) T Q := by
  refine c_Cells_bind_pair HS (lo h) (r_ceq (fun _ e => absurd e hab) fun _ => ?_)
  refine ⟨by decide, ⟨by decide, ⟨by decide, ⟨by decide, r_if (fun hc => ?_) fun hc => ?_⟩⟩⟩⟩
  · exact k_bind HS (lw h) h0' h1' h2 (q b a (.inr ⟨rfl, rfl⟩) hc)
  · exact k_bind HS (lw h) h0 h1 h2 (q a b (.inl ⟨rfl, rfl⟩) (lt_ne hc hab))
theorem k_deref {v : Cell} (P : Cell → Prop) (h : 1 ≤ c.n) (h0 : P v) (hs : ∀ v, P (0, v) → 0 ≤ v ∧ ∃ x, M.heap[v.toNat]? = some x ∧ P x ∧ (x.1 = 0 → x.2 ≤ v)) (hn : ∀ v, ¬P (1, v)) (q : ∀ r, P r → (r.1 = 0 → M.heap[r.2.toNat]? = some r) → Q (cA r) (mkL Y cd M) T) :
    CallOk c (.ref 230) [.ref 7, cA v] (mkL Y cd M) T Q := by
  refine c_Cells_deref HS h ?_
  refine whl_c (n := v.2.toNat + 1) (σ := Cell × Option AV × Option AV) (fun s => [some (.ref 7), some (cA s.1), s.2.1, s.2.2]) (fun _ => mkL Y cd M) (fun n s => P s.1 ∧ (s.1.1 = 0 → s.1.2.toNat < n)) (v, none, none) rfl rfl ⟨h0, fun _ => Nat.lt_succ_self _⟩ ?_
  intro n s R hI k
  have hu := hI.1
  have e0 : ∀ {t : Int}, s.1.1 = t → s.1 = (t, s.1.2) := fun e => by rw [← e]
  refine ⟨by decide, r_if (fun hc => ⟨Nat.le_of_ble_eq_true rfl, ?_⟩) fun hc => r_if (fun hc' => absurd ((e0 hc') ▸ hu) (hn _)) fun _ => q _ hu fun e => absurd e hc⟩
  have hu0 := hs s.1.2 ((e0 hc) ▸ hu)
  refine hu0.2.elim fun y hy => r_ix hu0.1 hy.1 ?_
  refine r_ceq (fun e1 e2 => q _ hu fun _ => (Prod.ext e1 e2 : y = s.1) ▸ hy.1) fun hne => k s.1.2.toNat (y, _, _) (hI.2 hc) ⟨hy.2.1, fun e => ?_⟩
  have h1 := (hs y.2 (by rw [← e]; exact hy.2.1)).1
  have h2 := hy.2.2 e
  have h3 : y.2 ≠ s.1.2 := fun e3 => hne ⟨e.trans hc.symm, e3⟩
  exact tn_lt h1 (Int.lt_iff_le_and_ne.mpr ⟨h2, h3⟩)
end
end Mine
end
section
open PySem.Calls
set_option tactic.hygienic false
namespace Mine
noncomputable def put (st : List SV) (i : Nat) (v : SV) : List SV := st.take i ++ v :: st.drop (i + 1)
noncomputable def unH (u : List Int) (h : List Cell) : List Cell := h.mapIdx fun a c => if (a : Int) ∈ u then (0, (a : Int)) else c
noncomputable def unS (u : List Int) (h : List SV) : List SV := h.mapIdx fun s c => if (-1 - (s : Int)) ∈ u then .c (1, (s : Int)) else c
theorem ifc {p q : Prop} [Decidable p] [Decidable q] {α : Type} {a b : α} (h : p ↔ q) : (if p then a else b) = if q then a else b := by
  by_cases k : p
  · rw [if_pos k, if_pos (h.mp k)]
  · rw [if_neg k, if_neg fun q => k (h.mpr q)]
theorem mapIdx_nil {α : Type} {P : Nat → Prop} [DecidablePred P] (g : Nat → α) (l : List α) (h : ∀ i, ¬P i) : l.mapIdx (fun i c => if P i then g i else c) = l := by
  refine List.ext_getElem? fun i => ?_
  rw [List.getElem?_mapIdx]
  cases l[i]? with
  | none => rfl
  | some x => exact congrArg some (if_neg (h i))
theorem mapIdx_congr {α : Type} {P P' : Nat → Prop} [DecidablePred P] [DecidablePred P'] (g : Nat → α) (l : List α) (h : ∀ i, P i ↔ P' i) : l.mapIdx (fun i c => if P i then g i else c) = l.mapIdx (fun i c => if P' i then g i else c) :=
  congrArg (fun f => l.mapIdx f) (funext fun i => funext fun _ => ifc (h i))
theorem mapIdx_set {α : Type} {P P' : Nat → Prop} [DecidablePred P] [DecidablePred P'] (g : Nat → α) (l : List α) (k : Nat) (hP : ∀ i, P' i ↔ i = k ∨ P i) :
    (l.mapIdx (fun i c => if P i then g i else c)).set k (g k) = l.mapIdx (fun i c => if P' i then g i else c) := by
  refine List.ext_getElem? fun i => ?_
  rw [List.getElem?_set, List.getElem?_mapIdx, List.getElem?_mapIdx, List.length_mapIdx]
  split
  · rename_i e; subst e
    split
    · rename_i hlt
      rw [List.getElem?_eq_getElem hlt]; exact congrArg some (if_pos ((hP k).mpr (.inl rfl))).symm
    · rename_i hlt
      rw [List.getElem?_eq_none (Nat.le_of_not_lt hlt)]; rfl
  · rename_i hne
    cases l[i]? with
    | none => rfl
    | some x => exact congrArg some (ifc ⟨fun h => (hP i).mpr (.inr h), fun h => ((hP i).mp h).elim (fun e => absurd e.symm hne) id⟩)
theorem unH_pos {x : Int} {u : List Int} {h : List Cell} (hx : 0 ≤ x) : (unH u h).set x.toNat (0, x) = unH (x :: u) h := by
  have z := mapIdx_set (P := fun a => (a : Int) ∈ u) (P' := fun a => (a : Int) ∈ x :: u) (fun a => ((0, (a : Int)) : Cell)) h x.toNat fun i => by rw [List.mem_cons]; exact or_congr (by lia) Iff.rfl
  rwa [Int.toNat_of_nonneg hx] at z
theorem unH_neg {x : Int} {u : List Int} {h : List Cell} (hx : x < 0) : unH u h = unH (x :: u) h :=
  mapIdx_congr (P := fun a => (a : Int) ∈ u) (P' := fun a => (a : Int) ∈ x :: u) _ _ fun i => by rw [List.mem_cons]; exact ⟨.inr, fun e => e.elim (fun e => by lia) id⟩
theorem unS_neg {x : Int} {u : List Int} {h : List SV} (hx : x < 0) : (unS u h).set (-1 - x).toNat (.c (1, -1 - x)) = unS (x :: u) h := by
  have z := mapIdx_set (P := fun s => (-1 - (s : Int)) ∈ u) (P' := fun s => (-1 - (s : Int)) ∈ x :: u) (fun s => SV.c (1, (s : Int))) h (-1 - x).toNat fun i => by rw [List.mem_cons]; exact or_congr (by lia) Iff.rfl
  rwa [Int.toNat_of_nonneg (by lia)] at z
theorem unS_pos {x : Int} {u : List Int} {h : List SV} (hx : 0 ≤ x) : unS u h = unS (x :: u) h :=
  mapIdx_congr (P := fun s => (-1 - (s : Int)) ∈ u) (P' := fun s => (-1 - (s : Int)) ∈ x :: u) _ _ fun i => by rw [List.mem_cons]; exact ⟨.inr, fun e => e.elim (fun e => by lia) id⟩
theorem len_unH (u : List Int) (h : List Cell) : (unH u h).length = h.length := List.length_mapIdx
theorem len_unS (u : List Int) (h : List SV) : (unS u h).length = h.length := List.length_mapIdx
theorem put_lt {st : List SV} {i : Nat} {v : SV} (h : i < st.length) : st.set i v = put st i v := List.set_eq_take_append_cons_drop.trans (if_pos h)
theorem put_end {st : List SV} {v : SV} : st ++ [v] = put st st.length v := by
  unfold put; rw [List.take_length, List.drop_eq_nil_of_le (Nat.le_succ _)]
section
variable {Y : Sy} {cd : Addr} {M : St} {c : Cx} {T : Tm} {Q : AV → LT} (HS : SortOk)
include HS
theorem k_globalise {v : Cell} (P : Cell → Prop) (h : 3 ≤ c.n) (h0 : P v) (hs : ∀ v, P (0, v) → 0 ≤ v ∧ ∃ x, M.heap[v.toNat]? = some x ∧ P x ∧ (x.1 = 0 → x.2 ≤ v)) (hn : ∀ v, ¬P (1, v)) (q : ∀ r, P r → (r.1 = 0 → M.heap[r.2.toNat]? = some r) → Q (cA r) (mkL Y cd M) T) :
    CallOk c (.ref 258) [.ref 7, cA v] (mkL Y cd M) T Q :=
  c_Cells_globalise HS (lo h) (k_deref HS P (lw h) h0 hs hn fun r hr h1 => ⟨by decide, r_f (fun e => hn r.2 (by have z : r = (1, r.2) := Prod.ext e rfl; rw [← z]; exact hr)) (q _ hr h1)⟩)
theorem k_undo_to {t u : List Int} (h : 1 ≤ c.n) (e : M.trail = t ++ u) (hu : ∀ x ∈ u, (0 ≤ x → x < M.heap.length) ∧ (x < 0 → -1 - x < M.stack.length))
    (q : Q (.d .none) (mkL Y cd (((M.wT t).wH (unH u M.heap)).wS (unS u M.stack))) T) : CallOk c (.ref 272) [.ref 7, iA t.length] (mkL Y cd M) T Q := by
  refine c_Cells_undo_to HS h ?_
  refine whl_c (n := u.length) (σ := List Int × List Int × Option AV × Option AV) (fun s => [some (.ref 7), some (iA t.length), s.2.2.1, s.2.2.2]) (fun s => mkL Y cd (((M.wT (t ++ s.1)).wH (unH s.2.1 M.heap)).wS (unS s.2.1 M.stack)))
    (fun n s => u = s.1 ++ s.2.1 ∧ n = s.1.length) (u, [], none, none) rfl ?_ ⟨(List.append_nil u).symm, rfl⟩ ?_
  · have z1 : unH [] M.heap = M.heap := mapIdx_nil (P := fun a => (a : Int) ∈ ([] : List Int)) _ _ fun i h => by cases h
    have z2 : unS [] M.stack = M.stack := mapIdx_nil (P := fun s => (-1 - (s : Int)) ∈ ([] : List Int)) _ _ fun i h => by cases h
    rw [z1, z2, ← e]; rfl
  · intro n s R hI k
    refine r_if (fun hc => ?_) fun hc => ?_
    · have hne : s.1 ≠ [] := fun e => by rw [lenI] at hc; rw [e, List.append_nil] at hc; exact Int.lt_irrefl _ hc
      have hl : s.1.dropLast ++ [s.1.getLast hne] = s.1 := List.dropLast_concat_getLast hne
      have hm := hu (s.1.getLast hne) (by rw [hI.1]; exact List.mem_append_left _ (List.getLast_mem hne))
      refine w_trPop (M := (((M.wT (t ++ s.1)).wH (unH s.2.1 M.heap)).wS (unS s.2.1 M.stack))) (t := t ++ s.1.dropLast) (v := s.1.getLast hne) (by rw [List.append_assoc, hl]; rfl) ?_
      have hk : ∀ w1 w2, R [some (.ref 7), some (iA t.length), w1, w2] (mkL Y cd (((M.wT (t ++ s.1.dropLast)).wH (unH (s.1.getLast hne :: s.2.1) M.heap)).wS (unS (s.1.getLast hne :: s.2.1) M.stack))) T := fun w1 w2 =>
        k s.1.dropLast.length (s.1.dropLast, s.1.getLast hne :: s.2.1, w1, w2) (by rw [hI.2, ← hl, List.length_append, hl]; exact Nat.lt_succ_self _) ⟨by rw [hI.1]; exact (congrArg (· ++ s.2.1) hl.symm).trans (List.append_assoc _ [_] _), rfl⟩
      refine r_if (fun hx => ?_) fun hx => ?_
      · rw [← unH_pos hx, ← unS_pos hx] at hk
        exact w_heapSet (M := (((M.wT (t ++ s.1.dropLast)).wH (unH s.2.1 M.heap)).wS (unS s.2.1 M.stack))) (v := (0, s.1.getLast hne)) hx (by rw [← len_unH s.2.1] at hm; exact hm.1 hx) (hk _ _)
      · have hx := Int.lt_of_not_ge hx
        rw [← unS_neg hx, ← unH_neg hx] at hk
        exact w_stSet (M := (((M.wT (t ++ s.1.dropLast)).wH (unH s.2.1 M.heap)).wS (unS s.2.1 M.stack))) (v := .c (1, -1 - s.1.getLast hne)) (k := -1 - s.1.getLast hne) (by lia) (by rw [← len_unS s.2.1] at hm; exact hm.2 hx) (hk _ _)
    · have hn : s.1 = [] := by
        rw [lenI] at hc
        refine List.eq_nil_of_length_eq_zero (Nat.le_zero.mp (Nat.le_of_not_lt fun hp => hc ?_))
        show (t.length : Int) < ((t ++ s.1).length : Nat)
        rw [List.length_append]; exact Int.ofNat_lt.mpr (Nat.lt_add_of_pos_right hp)
      have hu2 : u = s.2.1 := by rw [hI.1, hn]; rfl
      rw [hu2, ← List.append_nil t, ← hn] at q
      exact q
theorem k_put {X : List SV} {i : Nat} {v : SV} (h : 1 ≤ c.n) (hi : i ≤ X.length) (hl : X.length < 1000000) (q : Q (.d .none) (mkL Y cd (M.wS (put X i v))) T) : CallOk c (.ref 279) [.ref 7, iA i, sA v] (mkL Y cd (M.wS X)) T Q := by
  refine c_Cells_stack_put HS h (r_if (p := (i : Int) < ((X.map sA).length : Nat)) (fun hc => ?_) fun hc => ?_)
  · rw [lenI] at hc
    rw [← put_lt (Int.ofNat_lt.mp hc)] at q
    exact w_stSet (k := i) (M := M.wS X) (Int.natCast_nonneg i) hc q
  · rw [lenI] at hc
    have e : i = X.length := Nat.le_antisymm hi (Int.ofNat_le.mp (Int.not_lt.mp hc))
    rw [e, ← put_end] at q
    refine whl_c (n := 0) (σ := Unit) (fun _ => [some (.ref 7), some (iA i), some (sA v), some (.ref 9)]) (fun _ => mkL Y cd (M.wS X)) (fun _ _ => True) () rfl rfl trivial fun n s R _ _ => ?_
    exact r_f (p := ((X.map sA).length : Int) < (i : Int)) (by rw [lenI, e]; exact Int.lt_irrefl _) (w_stAdd (M := M.wS X) hl q)
theorem k_arity {f : Int} {r : Cell} (h : 1 ≤ c.n) (h0 : 0 ≤ f) (e : Y.fs[f.toNat]? = some r) (q : Q (iA r.2) (mkL Y cd M) T) : CallOk c (.ref 123) [.ref 1, iA f] (mkL Y cd M) T Q := by
  exact c_Symbols_arity HS h (r_ix h0 e ⟨by decide, q⟩)
theorem k_base {x : Cell} (h : 1 ≤ c.n) (q : Q (iA (if x.1 = 3 then x.2 else x.2 + 1)) (mkL Y cd M) T) : CallOk c (.ref 307) [.ref 7, cA x] (mkL Y cd M) T Q := by
  refine c_Cells_base HS h ⟨by decide, r_if (fun hc => ?_) fun hc => ?_⟩
  · rw [if_pos hc] at q; exact ⟨by decide, q⟩
  · rw [if_neg hc] at q; exact ⟨by decide, q⟩
omit HS in
theorem set_at {α : Type} (p : List α) (x v : α) (w : List α) : (p ++ x :: w).set p.length v = p ++ v :: w := by
  rw [List.set_append_right _ _ (Nat.le_refl _), Nat.sub_self]; rfl
structure YOk (Y : Sy) : Prop where
  dot : ∃ x, Y.fs[(0 : Int).toNat]? = some (x, 2)
  m1 : ∃ x, Y.fs[(12 : Int).toNat]? = some (x, 1)
  m2 : ∃ x, Y.fs[(13 : Int).toNat]? = some (x, 2)
noncomputable def ar (f : Int) : Nat := if f = 12 then 1 else 2
noncomputable def fOk (f : Int) : Prop := f = 0 ∨ f = 12 ∨ f = 13
theorem k_ar {f : Int} (O : YOk Y) (hf : fOk f) (h : 1 ≤ c.n) (q : Q (iA (ar f)) (mkL Y cd M) T) : CallOk c (.ref 123) [.ref 1, iA f] (mkL Y cd M) T Q := by
  rcases hf with rfl | rfl | rfl
  · obtain ⟨x, e⟩ := O.dot; exact k_arity HS h (by decide) e q
  · obtain ⟨x, e⟩ := O.m1; exact k_arity HS h (by decide) e q
  · obtain ⟨x, e⟩ := O.m2; exact k_arity HS h (by decide) e q
noncomputable def hd (f : Int) : List Cell := if f = 0 then [] else [(6, f)]
noncomputable def blk (f : Int) (a : Int) : Cell := if f = 0 then (3, a) else (2, a)
omit HS in
theorem hd0 {f : Int} (h : f = 0) : hd f = [] := if_pos h
omit HS in
theorem hd1 {f : Int} (h : f ≠ 0) : hd f = [(6, f)] := if_neg h
omit HS in
theorem blk0 {f a : Int} (h : f = 0) : blk f a = (3, a) := if_pos h
omit HS in
theorem blk1 {f a : Int} (h : f ≠ 0) : blk f a = (2, a) := if_neg h
omit HS in
theorem ar0 {f : Int} (h : f = 0) : ar f = 2 := by rw [h]; rfl
omit HS in
theorem vars_split {f a : Int} (hf : fOk f) (hc : f ≠ 0) : ∃ w, vars a (1 + ar f) = (0, a + 0) :: w ∧ w.length = ar f ∧ ∀ (j : Nat) (x : Cell), w[j]? = some x → x = (0, a + 1 + j) := by
  rcases hf with rfl | rfl | rfl
  · exact absurd rfl hc
  · refine ⟨[(0, a + 1)], rfl, rfl, fun j x e => ?_⟩
    match j, e with
    | 0, e => cases e; exact congrArg (Prod.mk 0) (Int.add_zero _).symm
  · refine ⟨[(0, a + 1), (0, a + 2)], rfl, rfl, fun j x e => ?_⟩
    match j, e with
    | 0, e => cases e; exact congrArg (Prod.mk 0) (Int.add_zero _).symm
    | 1, e => cases e; exact congrArg (Prod.mk 0) (Int.add_assoc _ 1 1).symm
omit HS in
theorem ar_le (f : Int) : ar f ≤ 2 := by unfold ar; split <;> decide
theorem k_new_block {f : Int} (O : YOk Y) (hf : fOk f) (h : 3 ≤ c.n) (h1 : M.heap.length + 3 ≤ 100000)
    (q : ∀ w, w.length = ar f → (∀ (j : Nat) (x : Cell), w[j]? = some x → x = (0, (M.heap.length : Int) + (hd f).length + j)) → Q (cA (blk f M.heap.length)) (mkL Y cd (M.wH (M.heap ++ (hd f ++ w)))) T) : CallOk c (.ref 321) [.ref 7, iA f] (mkL Y cd M) T Q := by
  refine c_Cells_new_block HS (lo h) (r_if (fun hc => ?_) fun hc => ?_)
  · rw [hd0 hc, blk0 hc, ar0 hc] at q
    exact k_reserve (n := 2) HS (lw h) (Nat.le_trans (Nat.le_succ _) h1) (q [(0, (M.heap.length : Int) + 0), (0, (M.heap.length : Int) + 1)] rfl fun
      | 0, _, e => by cases e; rfl
      | 1, _, e => by cases e; rfl)
  · rw [hd1 hc, blk1 hc] at q
    refine k_ar HS O hf (lw h) ?_
    refine (vars_split (a := M.heap.length) hf hc).elim fun w hw => ?_
    have q' := q w hw.2.1 hw.2.2
    have hw2 : (M.heap ++ vars M.heap.length (1 + ar f)).set M.heap.length (6, f) = M.heap ++ ([(6, f)] ++ w) := by rw [hw.1, set_at]; rfl
    rw [← hw2] at q'
    have hl : M.heap.length + (1 + ar f) ≤ 100000 := by have := ar_le f; lia
    exact k_reserve (n := 1 + ar f) HS (lw h) hl (w_heapSet (M := M.wH (M.heap ++ vars M.heap.length (1 + ar f))) (v := (6, f)) (k := M.heap.length) (Int.natCast_nonneg _) (Int.ofNat_lt.mpr (by show _ < (M.heap ++ _).length; rw [List.length_append, vars_len]; exact Nat.lt_add_of_pos_right (Nat.lt_of_lt_of_le Nat.one_pos (Nat.le_add_right _ _)))) q')
end
end Mine
end
section
open PySem.Calls
set_option tactic.hygienic false
namespace Mine
theorem Ext.fresh {T T' : Tm} {a : Addr} (h : Ext T T') (ha : T' a = none) : T a = none := by
  cases e : T a with
  | none => rfl
  | some o => rw [h a o e] at ha; cases ha
theorem Ext.set {T T' : Tm} {a : Addr} {o : AO} (h : Ext T T') (ha : T a = none) : Ext T (upd T' a o) := fun b o' e => by
  rw [upd_ne _ _ (by rintro rfl; rw [ha] at e; cases e)]; exact h b o' e
theorem r_sx {st : List SV} {k : Int} {n : Nat} {v : SV} {K : AV → Prop} (e : k = n) (h : st[n]? = some v) (q : K (sA v)) : ∃ x, idx (st.map sA) k = some x ∧ K x :=
  r_ix (by rw [e]; exact Int.natCast_nonneg n) (by rw [e]; exact h) q
noncomputable def ovl (st : List SV) (p : Nat) (vs : List SV) : List SV := st.take p ++ vs ++ st.drop (p + vs.length)
theorem ovl_nil (st : List SV) (p : Nat) : ovl st p [] = st := by
  unfold ovl; rw [List.append_nil, List.length_nil, Nat.add_zero, List.take_append_drop]
theorem put_ovl {st : List SV} {p : Nat} {vs : List SV} {v : SV} (hp : p ≤ st.length) : put (ovl st p vs) (p + vs.length) v = ovl st p (vs ++ [v]) := by
  have hl : (st.take p ++ vs).length = p + vs.length := by rw [List.length_append, List.length_take, Nat.min_eq_left hp]
  unfold put ovl
  rw [List.take_append_of_le_length (Nat.le_of_eq hl.symm), ← hl, List.take_length, List.drop_append, List.drop_eq_nil_of_le (Nat.le_succ _), List.nil_append, Nat.add_sub_cancel_left, List.drop_drop, hl, List.length_append]
  simp only [List.append_assoc, List.length_cons, List.length_nil, List.cons_append, List.nil_append, Nat.zero_add, Nat.add_assoc]
theorem ovl_len {st : List SV} {p : Nat} {vs : List SV} (hp : p ≤ st.length) : p + vs.length ≤ (ovl st p vs).length ∧ st.length ≤ (ovl st p vs).length ∧ (ovl st p vs).length ≤ st.length + vs.length := by
  unfold ovl
  rw [List.length_append, List.length_append, List.length_take, List.length_drop, Nat.min_eq_left hp]
  lia
structure Ch where
  b : Nat
  n : Nat
  tr : Nat
  hp : Nat
  env : List (Nat × Nat)
noncomputable def eOf : List (Nat × Nat) → Int
  | [] => -1
  | p :: _ => p.1
noncomputable def cpOf : List (Nat × Nat) → Int
  | [] => 0
  | p :: _ => (p.2 : Int) + 1
noncomputable def bOf : List Ch → Int
  | [] => -1
  | d :: _ => d.b
noncomputable def hbOf : List Ch → Int
  | [] => 0
  | d :: _ => d.hp
noncomputable def bbOf : List Ch → Int
  | [] => 0
  | d :: _ => d.b
structure Env1 (st : List SV) (p : Nat × Nat) (r : List (Nat × Nat)) : Prop where
  n3 : p.2 ≤ 3
  sl : ∀ j, j < p.2 → ∃ c, st[p.1 + 2 + j]? = some (.c c)
  sep : ∀ q ∈ r, q.1 + 2 + q.2 ≤ p.1
  e : st[p.1]? = some (.i (eOf r))
  cp : st[p.1 + 1]? = some (.i (cpOf r))
noncomputable def Chain (st : List SV) : List (Nat × Nat) → Prop
  | [] => True
  | p :: r => Env1 st p r ∧ Chain st r
structure Ch1 (st : List SV) (d : Ch) (r : List Ch) : Prop where
  n3 : d.n ≤ 3
  nn : st[d.b]? = some (.i d.n)
  ar : ∀ j, j < d.n → ∃ c, st[d.b + 1 + j]? = some (.c c)
  env : ∀ p ∈ d.env, p.1 + 2 + p.2 ≤ d.b
  sep : ∀ q ∈ r, q.b + q.n + 8 ≤ d.b
  e : st[d.b + d.n + 1]? = some (.i (eOf d.env))
  cp : st[d.b + d.n + 2]? = some (.i (cpOf d.env))
  pb : st[d.b + d.n + 3]? = some (.i (bOf r))
  tr : st[d.b + d.n + 5]? = some (.i d.tr)
  hp : st[d.b + d.n + 6]? = some (.i d.hp)
  b0 : st[d.b + d.n + 7]? = some (.i (-1))
  ch : Chain st d.env
noncomputable def Chs (st : List SV) : List Ch → Prop
  | [] => True
  | d :: r => Ch1 st d r ∧ Chs st r
noncomputable def cdA (k : Int) : AV := .d (.tuple [.str "call", .int 0, .int k])
noncomputable def codeL : List Int := [0, 1, 2, 3]
noncomputable def Code (T : Tm) (cd : Addr) : Prop := T cd = some (.list (codeL.map cdA))
theorem r_code {T : Tm} {cd : Addr} {n : Nat} {k : Int} {K : AV → Prop} (h : Code T cd) (hn : n ≤ 3) (hk : k = (n : Int) + 1) (q : K (cdA n)) : ∃ vs, T cd = some (.list vs) ∧ ∃ x, idx vs (k - 1) = some x ∧ K x :=
  ⟨_, h, r_ix (f := cdA) (v := (n : Int)) (by lia) (by rw [hk, Int.add_sub_cancel]; match n, hn with | 0, _ => rfl | 1, _ => rfl | 2, _ => rfl | 3, _ => rfl) q⟩
noncomputable def topOf (C : List (Nat × Nat)) (D : List Ch) : Nat :=
  if bOf D < eOf C then (match C with | p :: _ => p.1 + 2 + p.2 | [] => 0) else (match D with | d :: _ => d.b + d.n + 8 | [] => 0)
theorem bOf_ge (D : List Ch) : -1 ≤ bOf D := by
  cases D with
  | nil => exact Int.le_refl _
  | cons d r => exact Int.le_trans (by decide) (Int.natCast_nonneg d.b)
section
variable {Y : Sy} {cd : Addr} {M : St} {c : Cx} {T : Tm} {Q : AV → LT} (HS : SortOk)
variable {C : List (Nat × Nat)} {D : List Ch}
include HS
theorem k_top_e {p : Nat × Nat} (h : 1 ≤ c.n) (hC : Code T cd) (he : M.e = p.1) (hcp : M.cp = (p.2 : Int) + 1) (h3 : p.2 ≤ 3) (hl : M.b < M.e) (q : Q (iA (p.1 + 2 + p.2 : Nat)) (mkL Y cd M) T) : CallOk c (.ref 447) [.ref 6] (mkL Y cd M) T Q := by
  have q' : Q (iA (M.e + 2 + (p.2 : Int))) (mkL Y cd M) T := by rw [he]; exact q
  exact c_Areas_top HS h (r_t hl (r_code hC h3 hcp ⟨by decide, q'⟩))
theorem k_top_b {d : Ch} {r : List Ch} (h : 1 ≤ c.n) (hb : M.b = d.b) (hD : Ch1 M.stack d r) (hl : ¬M.b < M.e) (q : Q (iA (d.b + d.n + 8 : Nat)) (mkL Y cd M) T) : CallOk c (.ref 447) [.ref 6] (mkL Y cd M) T Q := by
  have q' : Q (iA (M.b + (d.n : Int) + 8)) (mkL Y cd M) T := by rw [hb]; exact q
  exact c_Areas_top HS h (r_f hl (r_t (by rw [hb]; exact Int.natCast_nonneg _) (r_sx (n := d.b) hb hD.nn q')))
theorem k_top (h : 1 ≤ c.n) (hT : Code T cd) (he : M.e = eOf C) (hcp : M.cp = cpOf C) (hb : M.b = bOf D) (hC : Chain M.stack C) (hD : Chs M.stack D) (q : Q (iA (topOf C D)) (mkL Y cd M) T) : CallOk c (.ref 447) [.ref 6] (mkL Y cd M) T Q := by
  unfold topOf at q
  by_cases hl : bOf D < eOf C
  · rw [if_pos hl] at q
    cases C with
    | nil => exact absurd hl (Int.not_lt.mpr (bOf_ge D))
    | cons p r => exact k_top_e HS h hT he hcp hC.1.n3 (by rw [he, hb]; exact hl) q
  · rw [if_neg hl] at q
    have hl' : ¬M.b < M.e := by rw [he, hb]; exact hl
    cases D with
    | nil => exact c_Areas_top HS h (r_f hl' (r_f (by rw [hb]; decide) q))
    | cons d r => exact k_top_b HS h hb hD.1 hl' q
theorem k_push_environment {n : Nat} (h : 3 ≤ c.n) (hT : Code T cd) (he : M.e = eOf C) (hcp : M.cp = cpOf C) (hb : M.b = bOf D) (hC : Chain M.stack C) (hD : Chs M.stack D) (hl : topOf C D ≤ M.stack.length) (hs : M.stack.length < 900000) (hn : n ≤ 3)
    (q : Q (.d .none) (mkL Y cd ((M.wS (ovl M.stack (topOf C D) ([.i M.e, .i M.cp] ++ List.replicate n (.c (5, 0))))).wE (topOf C D))) T) : CallOk c (.ref 454) [.ref 6, iA n] (mkL Y cd M) T Q := by
  refine c_Areas_push_environment HS (lo h) (k_top HS (lw h) hT he hcp hb hC hD ?_)
  generalize topOf C D = t at hl q
  have hlt : ∀ vs : List SV, vs.length ≤ 10 → (ovl M.stack t vs).length < 1000000 := fun vs hv => by have := (ovl_len (vs := vs) hl).2.2; lia
  have z1 : put M.stack t (.i M.e) = ovl M.stack t [.i M.e] := by have z := put_ovl (vs := []) (v := .i M.e) hl; rw [ovl_nil] at z; exact z
  have z2 : put (ovl M.stack t [.i M.e]) (t + 1) (.i M.cp) = ovl M.stack t [.i M.e, .i M.cp] := put_ovl (vs := [.i M.e]) hl
  have z3 : ∀ j : Nat, ([SV.i M.e, .i M.cp] ++ List.replicate j (SV.c (5, 0))).length = 2 + j := fun j => by rw [List.length_append, List.length_replicate]; rfl
  have z4 : ∀ j, put (ovl M.stack t ([.i M.e, .i M.cp] ++ List.replicate j (.c (5, 0)))) (t + 2 + j) (.c (5, 0)) = ovl M.stack t ([.i M.e, .i M.cp] ++ List.replicate (j + 1) (.c (5, 0))) := fun j => by
    have z := put_ovl (vs := [.i M.e, .i M.cp] ++ List.replicate j (.c (5, 0))) (v := .c (5, 0)) hl
    rw [z3, ← Nat.add_assoc] at z
    rw [z, List.append_assoc, ← List.replicate_succ']
  refine k_put (M := M) (X := M.stack) (v := .i M.e) HS (lw h) hl (Nat.lt_trans hs (by decide)) ?_
  rw [z1]
  refine k_put (X := ovl M.stack t [.i M.e]) (i := t + 1) (v := .i M.cp) HS (lw h) (ovl_len (vs := [.i M.e]) hl).1 (hlt [.i M.e] (Nat.le_of_ble_eq_true rfl)) ⟨(rb (by lia)).1, (rb (by lia)).2, ?_⟩
  rw [z2]
  refine rng_c (σ := Nat × Option AV) (fun s => [some (.ref 6), some (iA n), some (iA t), some (.ref 7), s.2]) (fun s => mkL Y cd (M.wS (ovl M.stack t ([.i M.e, .i M.cp] ++ List.replicate s.1 (.c (5, 0)))))) (fun j s => s.1 = j) (0, none) rfl rfl rfl ?_ ?_
  · intro j s P hj hI k
    rw [Int.toNat_natCast] at hj
    have k' := k (j + 1, some (iA ((0 : Int) + j))) rfl
    rw [← z4] at k'
    have e2 : ((t : Int) + 2 + ((0 : Int) + (j : Int))) = ((t + 2 + j : Nat) : Int) := by lia
    have w : CallOk c.dn.dn (.ref 279) [.ref 7, iA ((t : Int) + 2 + ((0 : Int) + (j : Int))), cA (5, 0)] (mkL Y cd (M.wS (ovl M.stack t ([.i M.e, .i M.cp] ++ List.replicate s.1 (.c (5, 0)))))) T fun _ L T => P [some (.ref 6), some (iA n), some (iA t), some (.ref 7), some (iA ((0 : Int) + j))] L T := by
      rw [e2, hI]
      exact k_put (i := t + 2 + j) (v := .c (5, 0)) HS (lw h) (by have := (ovl_len (vs := [SV.i M.e, .i M.cp] ++ List.replicate j (.c (5, 0))) hl).1; rw [z3, ← Nat.add_assoc] at this; exact this) (hlt _ (by rw [z3]; lia)) k'
    exact w
  · intro s hI
    rw [Int.toNat_natCast] at hI
    rw [← hI] at q
    exact w_e q
theorem k_pop_environment {p : Nat × Nat} {r : List (Nat × Nat)} (h : 1 ≤ c.n) (he : M.e = p.1) (hp : Env1 M.stack p r) (q : Q (.d .none) (mkL Y cd ((M.wC (cpOf r)).wE (eOf r))) T) : CallOk c (.ref 461) [.ref 6] (mkL Y cd M) T Q :=
  c_Areas_pop_environment HS h (r_sx (n := p.1 + 1) (by rw [he]; rfl) hp.cp (w_cp (v := cpOf r) (r_sx (n := p.1) he hp.e (w_e (M := M.wC (cpOf r)) (v := eOf r) q))))
end
end Mine
end
section
open PySem.Calls
set_option tactic.hygienic false
namespace Mine
theorem chain_low {st : List SV} {p : Nat × Nat} {r : List (Nat × Nat)} (h : Env1 st p r) {q : Nat × Nat} (hq : q ∈ r) : q.1 < p.1 := by have := h.sep q hq; lia
theorem tl_sub {α : Type} {C r : List α} (h : ∃ d, C = d ++ r) {x : α} {r' : List α} (e : r = x :: r') : ∃ d, C = d ++ r' := by
  obtain ⟨d, rfl⟩ := h; subst e; exact ⟨d ++ [x], by rw [List.append_assoc]; rfl⟩
theorem chain_sub {st : List SV} {r : List (Nat × Nat)} : ∀ {d C : List (Nat × Nat)}, Chain st C → C = d ++ r → Chain st r
  | [], _, h, e => by rw [e] at h; exact h
  | x :: d, [], _, e => nomatch e
  | x :: d, y :: C, h, e => chain_sub (d := d) h.2 (List.cons.inj e).2
theorem chs_sub {st : List SV} {r : List Ch} : ∀ {d C : List Ch}, Chs st C → C = d ++ r → Chs st r
  | [], _, h, e => by rw [e] at h; exact h
  | x :: d, [], _, e => nomatch e
  | x :: d, y :: C, h, e => chs_sub (d := d) h.2 (List.cons.inj e).2
theorem chain_eq {st : List SV} {C : List (Nat × Nat)} {x : Nat} (h : Chain st C) (hx : eOf C ≤ x) : (∃ p ∈ C, p.1 = x) ↔ eOf C = (x : Int) := by
  cases C with
  | nil => exact ⟨fun ⟨_, h, _⟩ => (nomatch h), fun e => absurd (e ▸ (by decide : eOf [] < 0) : (x : Int) < 0) (Int.not_lt.mpr (Int.natCast_nonneg x))⟩
  | cons p r =>
    refine ⟨fun ⟨q, hq, e⟩ => (List.mem_cons.mp hq).elim (fun e2 => by rw [← e, e2]; rfl) fun hq => ?_, fun e => ⟨p, List.mem_cons_self, Int.ofNat.inj e⟩⟩
    have := chain_low h.1 hq
    have : (p.1 : Int) ≤ x := hx
    lia
theorem chain_step {p : Nat × Nat} {r : List (Nat × Nat)} {x : Nat} (h : x < p.1) : (∃ q ∈ p :: r, q.1 = x) ↔ ∃ q ∈ r, q.1 = x :=
  ⟨fun ⟨q, hq, e⟩ => (List.mem_cons.mp hq).elim (fun e2 => by rw [e2] at e; lia) fun hq => ⟨q, hq, e⟩, fun ⟨q, hq, e⟩ => ⟨q, .tail _ hq, e⟩⟩
section
variable {Y : Sy} {cd : Addr} {M : St} {c : Cx} {T : Tm} {Q : AV → LT} (HS : SortOk)
include HS
theorem k_in_chain {C : List (Nat × Nat)} {x : Nat} (h : 1 ≤ c.n) (he : M.e = eOf C) (hC : Chain M.stack C) (q : Q (.d (.bool (decide (∃ p ∈ C, p.1 = x)))) (mkL Y cd M) T) : CallOk c (.ref 468) [.ref 6, iA x] (mkL Y cd M) T Q := by
  refine c_Areas_in_chain HS h ?_
  refine whl_c (n := C.length) (σ := List (Nat × Nat)) (fun s => [some (.ref 6), some (iA x), some (iA (eOf s))]) (fun _ => mkL Y cd M) (fun n s => n = s.length ∧ Chain M.stack s ∧ ((∃ p ∈ C, p.1 = x) ↔ ∃ p ∈ s, p.1 = x)) C (by rw [← he]) rfl ⟨rfl, hC, Iff.rfl⟩ ?_
  intro n s R hI k
  refine r_if (fun hc => ?_) fun hc => ?_
  · cases s with
    | nil => exact absurd (Int.lt_trans hc (by decide)) (Int.not_lt.mpr (Int.natCast_nonneg x))
    | cons p r => exact r_sx (n := p.1) rfl hI.2.1.1.e (k r.length r (by rw [hI.1]; exact Nat.lt_succ_self _) ⟨rfl, hI.2.1.2, hI.2.2.trans (chain_step (Int.ofNat_lt.mp hc))⟩)
  · have e1 : decide (∃ p ∈ C, p.1 = x) = decide (eOf s = (x : Int)) := decide_eq_decide.mpr (hI.2.2.trans (chain_eq hI.2.1 (Int.not_lt.mp hc)))
    rw [e1] at q
    exact q
theorem k_environments {C : List (Nat × Nat)} (h : 1 ≤ c.n) (he : M.e = eOf C) (hC : Chain M.stack C) (hl : C.length < 100000) (q : ∀ a T', Ext T T' → T a = none → T' a = some (.list (C.map fun p => iA p.1)) → Q (.tmp a) (mkL Y cd M) T') :
    CallOk c (.ref 531) [.ref 6] (mkL Y cd M) T Q := by
  refine c_Areas_environments HS h (w_new (vs := []) (by decide) fun a ha => ?_)
  refine whl_ind (n := C.length) (σ := List (Nat × Nat) × List (Nat × Nat)) (fun s => [some (.ref 6), some (.tmp a), some (iA (eOf s.2))]) (fun _ => mkL Y cd M)
    (fun n s T' => Ext T T' ∧ n = s.2.length ∧ C = s.1 ++ s.2 ∧ T' a = some (.list (s.1.map fun p => iA p.1))) ([], C) (by rw [← he]) rfl ⟨Ext.new ha, rfl, rfl, upd_self ..⟩ ?_
  intro n s T1 R hI k
  obtain ⟨d, r⟩ := s
  have hr : Chain M.stack r := chain_sub hC hI.2.2.1
  cases r with
  | nil =>
    rw [hI.2.2.1, List.append_nil] at q
    exact q a T1 hI.1 ha hI.2.2.2
  | cons p r =>
    have hk := k r.length (d ++ [p], r) (upd T1 a (.list ((d ++ [p]).map fun p => iA p.1))) (by rw [hI.2.1]; exact Nat.lt_succ_self _)
      ⟨hI.1.set ha, rfl, by rw [hI.2.2.1, List.append_assoc]; rfl, upd_self ..⟩
    exact ⟨_, hI.2.2.2, ⟨_, hI.2.2.2, w_tmpAdd (f := fun p : Nat × Nat => iA p.1) (v := p) (by rw [hI.2.2.1, List.length_append] at hl; lia) (r_sx (n := p.1) rfl hr.1.e hk)⟩⟩
theorem k_choices {D : List Ch} (h : 1 ≤ c.n) (hb : M.b = bOf D) (hD : Chs M.stack D) (hl : D.length < 100000) (q : ∀ a T', Ext T T' → T a = none → T' a = some (.list (D.map fun d => iA d.b)) → Q (.tmp a) (mkL Y cd M) T') :
    CallOk c (.ref 524) [.ref 6] (mkL Y cd M) T Q := by
  refine c_Areas_choices HS h (w_new (vs := []) (by decide) fun a ha => ?_)
  refine whl_ind (n := D.length) (σ := List Ch × List Ch) (fun s => [some (.ref 6), some (.ref 9), some (.tmp a), some (iA (bOf s.2))]) (fun _ => mkL Y cd M)
    (fun n s T' => Ext T T' ∧ n = s.2.length ∧ D = s.1 ++ s.2 ∧ T' a = some (.list (s.1.map fun d => iA d.b))) ([], D) (by rw [← hb]) rfl ⟨Ext.new ha, rfl, rfl, upd_self ..⟩ ?_
  intro n s T1 R hI k
  obtain ⟨d, r⟩ := s
  have hr : Chs M.stack r := chs_sub hD hI.2.2.1
  cases r with
  | nil =>
    rw [hI.2.2.1, List.append_nil] at q
    exact q a T1 hI.1 ha hI.2.2.2
  | cons p r =>
    have hk := k r.length (d ++ [p], r) (upd T1 a (.list ((d ++ [p]).map fun d => iA d.b))) (by rw [hI.2.1]; exact Nat.lt_succ_self _)
      ⟨hI.1.set ha, rfl, by rw [hI.2.2.1, List.append_assoc]; rfl, upd_self ..⟩
    exact ⟨_, hI.2.2.2, ⟨_, hI.2.2.2, w_tmpAdd (f := fun d : Ch => iA d.b) (v := p) (by rw [hI.2.2.1, List.length_append] at hl; lia) (r_sx (n := p.b) rfl hr.1.nn (r_sx (n := p.b + p.n + 3) rfl hr.1.pb hk))⟩⟩
theorem k_choice_part {b n m : Nat} {v : SV} (h : 1 ≤ c.n) (hb : M.b = b) (h1 : M.stack[b]? = some (.i n)) (h2 : M.stack[b + n + m]? = some v) (q : Q (sA v) (mkL Y cd M) T) : CallOk c (.ref 496) [.ref 6, iA m] (mkL Y cd M) T Q :=
  c_Areas_choice_part HS h (r_sx (n := b) hb h1 (r_sx (n := b + n + m) (by rw [hb]; rfl) h2 q))
theorem k_set_choice {D : List Ch} (h : 1 ≤ c.n) (hD : Chs M.stack D) (q : Q (.d .none) (mkL Y cd (((M.wB (bOf D)).wh (hbOf D)).wb (bbOf D))) T) : CallOk c (.ref 475) [.ref 6, iA (bOf D)] (mkL Y cd M) T Q := by
  refine c_Areas_set_choice HS h (w_b ?_)
  cases D with
  | nil => exact w_hb (M := M.wB (-1)) (v := 0) (w_bb (M := (M.wB (-1)).wh 0) (v := 0) q)
  | cons d r => exact r_sx (n := d.b) rfl hD.1.nn (r_sx (n := d.b + d.n + 6) rfl hD.1.hp (w_hb (M := M.wB d.b) (v := d.hp) (w_bb (M := (M.wB d.b).wh d.hp) (v := d.b) q)))
theorem k_cut_back {D : List Ch} (h : 3 ≤ c.n) (hb : bOf D < M.b) (hD : Chs M.stack D) (q : Q (.d .none) (mkL Y cd (((M.wB (bOf D)).wh (hbOf D)).wb (bbOf D))) T) : CallOk c (.ref 517) [.ref 6, iA (bOf D)] (mkL Y cd M) T Q :=
  c_Areas_cut_back HS (lo h) (r_t hb (k_set_choice HS (lw h) hD q))
end
end Mine
end
section
open PySem.Calls
namespace Mine
theorem cat1 {α : Type} {l r : List α} {x : α} : l ++ [x] ++ r = l ++ x :: r := List.append_assoc l [x] r
section
variable {Y : Sy} {cd : Addr} {M : St} {c : Cx} {T : Tm} {Q : AV → LT} (HS : SortOk)
include HS
theorem k_set_x {k : Nat} {v : Cell} (h : 1 ≤ c.n) (hk : k < 1000) (q : ∀ X : List Cell, X.length ≤ max M.x.length (k + 1) → X[k]? = some v → (∀ j, j ≠ k → j < M.x.length → X[j]? = M.x[j]?) → Q (.d .none) (mkL Y cd (M.wX X)) T) :
    CallOk c (.ref 405) [.ref 6, iA k, cA v] (mkL Y cd M) T Q := by
  refine c_Areas_set_x HS h ?_
  refine whl_c (n := k + 1 - M.x.length) (σ := List Cell) (fun _ => [some (.ref 6), some (iA k), some (cA v)]) (fun s => mkL Y cd (M.wX s)) (fun n s => n = k + 1 - s.length ∧ s.length ≤ max M.x.length (k + 1) ∧ ∀ j, j < M.x.length → s[j]? = M.x[j]?) M.x rfl rfl ⟨rfl, Nat.le_max_left .., fun _ _ => rfl⟩ ?_
  intro n s R hI kk
  refine r_if (p := ((s.map cA).length : Int) ≤ k) (fun hc => ?_) fun hc => ?_
  · rw [lenI] at hc
    have hc := Int.ofNat_le.mp hc
    have hl : (s ++ [((5, 0) : Cell)]).length = s.length + 1 := List.length_append
    refine w_xAdd (M := M.wX s) (v := (5, 0)) (Nat.lt_trans (Nat.lt_of_le_of_lt hc hk) (by decide)) (kk (k + 1 - (s.length + 1)) (s ++ [(5, 0)]) (by rw [hI.1]; lia) ⟨by rw [hl], by rw [hl]; exact Nat.le_trans (Nat.succ_le_succ hc) (Nat.le_max_right ..), fun j hj => ?_⟩)
    have z := hI.2.2 j hj
    rw [List.getElem?_append_left (lt_of_get (z.trans (List.getElem?_eq_getElem hj)))]; exact z
  · rw [lenI] at hc
    have hc := Int.ofNat_lt.mp (Int.not_le.mp hc)
    exact w_xSet (M := M.wX s) (k := k) (Int.natCast_nonneg k) (Int.ofNat_lt.mpr hc) (q (s.set k v) (by rw [List.length_set]; exact hI.2.1) (List.getElem?_set_self hc) fun j hj hl => by rw [List.getElem?_set_ne (Ne.symm hj)]; exact hI.2.2 j hl)
theorem k_put_ovl {X : List SV} {t m : Nat} {vs : List SV} {v : SV} (h : 1 ≤ c.n) (hl : t ≤ X.length) (hv : vs.length = m) (hs : X.length + m < 1000000) (q : Q (.d .none) (mkL Y cd (M.wS (ovl X t (vs ++ [v])))) T) :
    CallOk c (.ref 279) [.ref 7, iA (t + m : Nat), sA v] (mkL Y cd (M.wS (ovl X t vs))) T Q := by
  have z := ovl_len (vs := vs) hl
  rw [← put_ovl hl, hv] at q
  rw [hv] at z
  exact k_put HS h z.1 (Nat.lt_of_le_of_lt z.2.2 hs) q
theorem k_set_choice1 {b n hp : Nat} (h : 1 ≤ c.n) (h1 : M.stack[b]? = some (.i n)) (h2 : M.stack[b + n + 6]? = some (.i hp)) (q : Q (.d .none) (mkL Y cd (((M.wB b).wh hp).wb b)) T) : CallOk c (.ref 475) [.ref 6, iA b] (mkL Y cd M) T Q :=
  c_Areas_set_choice HS h (w_b (r_sx (n := b) rfl h1 (r_sx (n := b + n + 6) rfl h2 (w_hb (M := M.wB b) (v := hp) (w_bb (M := (M.wB b).wh hp) (v := b) q)))))
noncomputable def frm (cs : List Cell) (e cp b : Int) (tr hp : Nat) : List SV := (.i cs.length :: cs.map .c) ++ [.i e, .i cp, .i b, .i 2, .i tr, .i hp, .i (-1)]
omit HS in
theorem ovl_get {st : List SV} {t j : Nat} {vs : List SV} (hl : t ≤ st.length) (hj : j < vs.length) : (ovl st t vs)[t + j]? = vs[j]? := by
  have hlt : (st.take t).length = t := by rw [List.length_take]; exact Nat.min_eq_left hl
  unfold ovl
  rw [List.append_assoc, List.getElem?_append_right (by rw [hlt]; exact Nat.le_add_right ..), hlt, Nat.add_sub_cancel_left, List.getElem?_append_left hj]
omit HS in
theorem frm_get {cs : List Cell} {e cp b : Int} {tr hp k : Nat} {v : SV} (h : [SV.i e, .i cp, .i b, .i 2, .i tr, .i hp, .i (-1)][k]? = some v) : (frm cs e cp b tr hp)[cs.length + 1 + k]? = some v := by
  unfold frm
  have hl : (SV.i cs.length :: cs.map .c).length = cs.length + 1 := by rw [List.length_cons, List.length_map]
  rw [List.getElem?_append_right (by rw [hl]; exact Nat.le_add_right ..), hl, Nat.add_sub_cancel_left]; exact h
theorem k_push_choice {C : List (Nat × Nat)} {D : List Ch} {a : Addr} {cs : List Cell} (h : 3 ≤ c.n) (hT : Code T cd) (ha : T a = some (.list (cs.map cA))) (he : M.e = eOf C) (hcp : M.cp = cpOf C) (hb : M.b = bOf D) (hC : Chain M.stack C) (hD : Chs M.stack D) (hl : topOf C D ≤ M.stack.length) (hs : M.stack.length < 900000) (hn : cs.length ≤ 3)
    (q : Q (.d .none) (mkL Y cd ((((M.wS (ovl M.stack (topOf C D) (frm cs M.e M.cp M.b M.trail.length M.heap.length))).wB (topOf C D)).wh M.heap.length).wb (topOf C D))) T) : CallOk c (.ref 482) [.ref 6, .tmp a, iA 2] (mkL Y cd M) T Q := by
  refine c_Areas_push_choice HS (lo h) (k_top HS (lw h) hT he hcp hb hC hD ⟨_, ha, ?_⟩)
  generalize topOf C D = t at hl q
  have z1 : put M.stack t (.i ((cs.map cA).length : Nat)) = ovl M.stack t [.i cs.length] := by rw [lenI]; have z := put_ovl (vs := []) (v := .i cs.length) hl; rw [ovl_nil] at z; exact z
  have hs' : ∀ m, m ≤ 20 → M.stack.length + m < 1000000 := fun m hm => Nat.lt_of_lt_of_le (Nat.add_lt_add_of_lt_of_le hs hm) (by decide)
  have hl0 : ∀ d : List Cell, (SV.i cs.length :: d.map .c).length = d.length + 1 := fun d => congrArg (· + 1) (List.length_map _)
  have hl1 : ∀ {V : List SV} {m v}, V.length = m → (V ++ [v]).length = m + 1 := fun h => (List.length_append ..).trans (congrArg (· + 1) h)
  rw [← List.length_map (as := M.heap) cA] at q
  refine k_put (M := M) (X := M.stack) (v := .i ((cs.map cA).length : Nat)) HS (lw h) hl (hs' 0 (by decide)) ?_
  rw [z1]
  refine ⟨_, ha, list_c (σ := List Cell × Option AV) (fun s => [some (.ref 6), some (.tmp a), some (iA 2), some (.ref 7), some (iA t), some (iA ((cs.map cA).length : Nat)), some (iA (t + s.1.length : Nat)), s.2]) (fun s => mkL Y cd (M.wS (ovl M.stack t (.i cs.length :: s.1.map .c)))) (fun d r s => s.1 = d) ([], none) rfl rfl rfl (fun d r s P _ hP => ⟨_, ha, rfl, hP⟩) ?_ ?_⟩
  · intro d x r s P hd hI k
    have k' := k (d ++ [x], some (cA x)) rfl
    have hdl : d.length + 1 ≤ 20 := by rw [hd, List.length_append, List.length_cons] at hn; lia
    have e : SV.i cs.length :: (d ++ [x]).map .c = (SV.i cs.length :: s.1.map .c) ++ [.c x] := by rw [hI, List.map_append]; rfl
    have e2 : (d ++ [x]).length = s.1.length + 1 := by rw [hI]; exact List.length_append
    rw [e, e2] at k'
    exact k_put_ovl (m := s.1.length + 1) (v := .c x) HS (lw h) hl (hl0 _) (hs' _ (by rw [hI]; exact hdl)) k'
  · intro s hI
    have hc : ∀ k, k ≤ 10 → cs.length + k ≤ 20 := fun k hk => by lia
    rw [hI]
    refine k_put_ovl (m := cs.length + 1) (v := .i M.e) HS (lw h) hl (hl0 _) (hs' _ (hc 1 (by decide))) ?_
    refine k_put_ovl (m := cs.length + 2) (v := .i M.cp) HS (lw h) hl (hl1 (hl0 _)) (hs' _ (hc 2 (by decide))) ?_
    refine k_put_ovl (m := cs.length + 3) (v := .i M.b) HS (lw h) hl (hl1 (hl1 (hl0 _))) (hs' _ (hc 3 (by decide))) ?_
    refine k_put_ovl (m := cs.length + 4) (v := .i 2) HS (lw h) hl (hl1 (hl1 (hl1 (hl0 _)))) (hs' _ (hc 4 (by decide))) ?_
    refine k_mark HS (lw h) ?_
    refine k_put_ovl (m := cs.length + 5) (v := .i M.trail.length) HS (lw h) hl (hl1 (hl1 (hl1 (hl1 (hl0 _))))) (hs' _ (hc 5 (by decide))) ?_
    refine k_put_ovl (m := cs.length + 6) (v := .i ((M.heap.map cA).length : Nat)) HS (lw h) hl (hl1 (hl1 (hl1 (hl1 (hl1 (hl0 _)))))) (hs' _ (hc 6 (by decide))) ?_
    refine k_put_ovl (m := cs.length + 7) (v := .i (-1)) HS (lw h) hl (hl1 (hl1 (hl1 (hl1 (hl1 (hl1 (hl0 _))))))) (hs' _ (hc 7 (by decide))) ?_
    rw [cat1, cat1, cat1, cat1, cat1, cat1]
    have hf : ∀ {k : Nat}, k < 7 → cs.length + 1 + k < (frm cs M.e M.cp M.b M.trail.length (M.heap.map cA).length).length := fun {k} hk => by unfold frm; rw [List.length_append, hl0]; exact Nat.add_lt_add_left hk _
    exact k_set_choice1 (n := cs.length) (hp := (M.heap.map cA).length) (M := M.wS (ovl M.stack t (frm cs M.e M.cp M.b M.trail.length (M.heap.map cA).length))) HS (lw h)
      (ovl_get (j := 0) hl (by unfold frm; rw [List.length_append, hl0]; exact Nat.lt_of_lt_of_le (Nat.succ_pos _) (Nat.le_add_right ..))) ((ovl_get (j := cs.length + 6) hl (hf (k := 5) (by decide))).trans (frm_get (k := 5) rfl)) q
end
end Mine
end
section
open PySem.Calls
set_option tactic.hygienic false
namespace Mine
section
variable {Y : Sy} {cd : Addr} {M : St} {c : Cx} {T : Tm} {Q : AV → LT} (HS : SortOk)
omit HS in
theorem one_add_sub (n : Nat) : ((n : Int) + 1 - 1).toNat = n := by lia
omit HS in
theorem sx_len {n m k : Nat} (h : n ≤ 4) (hk : k ≤ 3) (hm : m ≤ max n (k + 1)) : m ≤ 4 := by lia
omit HS in
theorem unS_get {u : List Int} {st : List SV} {s : Nat} (h : (-1 - (s : Int)) ∉ u) : (unS u st)[s]? = st[s]? := by
  unfold unS
  rw [List.getElem?_mapIdx]
  cases st[s]? with
  | none => rfl
  | some x => exact congrArg some (if_neg h)
include HS
theorem k_restore_choice {d : Ch} {D : List Ch} (h : 3 ≤ c.n) (hb : M.b = d.b) (hD : Ch1 M.stack d D) (hx : M.x.length ≤ 4) (ht : d.tr ≤ M.trail.length) (hh : d.hp < 1000000) (hu : ∀ x ∈ M.trail.drop d.tr, (0 ≤ x → x < M.heap.length) ∧ (x < 0 → -1 - x < M.stack.length))
    (h1 : ∀ k, k < d.n + 8 → (-1 - ((d.b + k : Nat) : Int)) ∉ M.trail.drop d.tr)
    (q : ∀ X : List Cell, X.length ≤ 4 → Q (.d .none) (mkL Y cd ((((((M.wX X).wE (eOf d.env)).wC (cpOf d.env)).wT (M.trail.take d.tr)).wS (unS (M.trail.drop d.tr) M.stack)).wH ((unH (M.trail.drop d.tr) M.heap).take d.hp))) T) : CallOk c (.ref 503) [.ref 6] (mkL Y cd M) T Q := by
  have ht' : (M.trail.take d.tr).length = d.tr := by rw [List.length_take]; exact Nat.min_eq_left ht
  have hn := hD.n3
  have g1 := (unS_get (st := M.stack) (h1 0 (Nat.succ_pos _))).trans hD.nn
  have g2 := (unS_get (st := M.stack) (s := d.b + d.n + 6) (h1 (d.n + 6) (Nat.add_lt_add_left (by decide) _))).trans hD.hp
  refine c_Areas_restore_choice HS (lo h) (r_sx (n := d.b) hb hD.nn ⟨by decide, by decide, (rb (n := d.n + 1) (by lia)).1, (rb (n := d.n + 1) (by lia)).2, ?_⟩)
  refine rng_c (σ := List Cell × Option AV) (fun s => [some (.ref 6), some (.ref 7), some (iA d.n), s.2]) (fun s => mkL Y cd (M.wX s.1)) (fun _ s => s.1.length ≤ 4) (M.x, none) rfl rfl hx ?_ ?_
  · intro j s P hj hI k
    rw [one_add_sub] at hj
    refine (hD.ar j hj).elim fun v hv => ?_
    rw [Nat.add_assoc] at hv
    refine r_sx (n := d.b + (1 + j)) (by rw [show (M.wX s.1).b = d.b from hb]; rfl) hv ?_
    have hj3 : j + 1 ≤ 3 := Nat.le_trans hj hn
    have w : CallOk c.dn.dn (.ref 405) [.ref 6, iA (1 + j : Nat), cA v] (mkL Y cd (M.wX s.1)) T fun _ L T => P [some (.ref 6), some (.ref 7), some (iA d.n), some (iA (1 + j : Nat))] L T :=
      k_set_x (M := M.wX s.1) HS (lw h) (by lia) fun X hX _ _ => k (X, _) (sx_len hI (by lia) hX)
    exact w
  · intro s hI
    refine k_choice_part (M := M.wX s.1) (m := 1) HS (lw h) hb hD.nn hD.e (w_e ?_)
    refine k_choice_part (M := (M.wX s.1).wE (eOf d.env)) (m := 2) HS (lw h) hb hD.nn hD.cp (w_cp ?_)
    refine k_choice_part (M := ((M.wX s.1).wE (eOf d.env)).wC (cpOf d.env)) (m := 5) HS (lw h) hb hD.nn hD.tr ?_
    have w : ∀ Q', Q' (.d .none) (mkL Y cd ((((((M.wX s.1).wE (eOf d.env)).wC (cpOf d.env)).wT (M.trail.take d.tr)).wH (unH (M.trail.drop d.tr) M.heap)).wS (unS (M.trail.drop d.tr) M.stack))) T → CallOk c.dn.dn (.ref 272) [.ref 7, iA d.tr] (mkL Y cd (((M.wX s.1).wE (eOf d.env)).wC (cpOf d.env))) T Q' := fun Q' q' => by
      have z := k_undo_to (M := ((M.wX s.1).wE (eOf d.env)).wC (cpOf d.env)) (c := c.dn.dn) (Y := Y) (cd := cd) (T := T) (Q := Q') (t := M.trail.take d.tr) (u := M.trail.drop d.tr) HS (lw h) (List.take_append_drop ..).symm hu q'
      rw [ht'] at z; exact z
    refine w _ ?_
    refine k_choice_part (M := ((((((M.wX s.1).wE (eOf d.env)).wC (cpOf d.env)).wT (M.trail.take d.tr)).wH (unH (M.trail.drop d.tr) M.heap)).wS (unS (M.trail.drop d.tr) M.stack))) (m := 6) HS (lw h) hb g1 g2 ?_
    exact k_trim (M := ((((((M.wX s.1).wE (eOf d.env)).wC (cpOf d.env)).wT (M.trail.take d.tr)).wH (unH (M.trail.drop d.tr) M.heap)).wS (unS (M.trail.drop d.tr) M.stack))) HS (lw h) hh (q s.1 hI)
theorem k_new_struct {f : Int} {a : Addr} {cs : List Cell} (P : Cell → Prop) (O : YOk Y) (hf : fOk f) (h : 5 ≤ c.n) (ha : T a = some (.list (cs.map cA))) (hn : cs.length = ar f) (h1 : M.heap.length + 3 ≤ 100000) (h0 : ∀ v ∈ cs, P v)
    (hs : ∀ v, P (0, v) → 0 ≤ v ∧ ∃ x, M.heap[v.toNat]? = some x ∧ P x ∧ (x.1 = 0 → x.2 ≤ v)) (hno : ∀ v, ¬P (1, v))
    (q : ∀ vs T', Ext T T' → vs.length = ar f → (∀ v ∈ vs, P v) → Q (cA (blk f M.heap.length)) (mkL Y cd (M.wH (M.heap ++ (hd f ++ vs)))) T') : CallOk c (.ref 342) [.ref 7, iA f, .tmp a] (mkL Y cd M) T Q := by
  have hl : cs.length ≠ 0 := by rw [hn]; unfold ar; split <;> decide
  have hl2 : cs.length ≤ 2 := by rw [hn]; exact ar_le f
  refine c_Store_new_struct HS (lo h) ⟨_, ha, r_f (p := ((cs.map cA).length : Int) = 0) (by rw [lenI]; exact fun e => hl (Int.ofNat.inj e)) ?_⟩
  refine w_new (vs := []) (by decide) fun b hb => ⟨_, Ext.new hb _ _ ha, ?_⟩
  have hab : a ≠ b := by rintro rfl; rw [hb] at ha; cases ha
  refine fr_list (σ := List Cell × Option AV) (fun s => [some (.ref 7), some (iA f), some (.tmp a), some (.tmp b), s.2, none, none, none]) (fun _ => mkL Y cd M) (fun d r s T' => Ext T T' ∧ s.1.length = d.length ∧ (∀ v ∈ s.1, P v) ∧ T' b = some (.list (s.1.map cA))) ([], none) rfl rfl ⟨Ext.new hb, rfl, (fun _ h => nomatch h), upd_self ..⟩
    (fun d r s T' P hI hP => ⟨_, hI.1 _ _ ha, rfl, hP⟩) ?_ ?_
  · intro d x r s T' R hd hI k
    refine ⟨_, hI.2.2.2, k_globalise HS P (lw h) (h0 x (by rw [hd]; exact List.mem_append_right _ List.mem_cons_self)) hs hno fun v hv _ => ⟨_, hI.2.2.2, w_tmpAdd (f := cA) (v := v) (by rw [hI.2.1]; rw [hd, List.length_append] at hl2; lia) ?_⟩⟩
    refine k (s.1 ++ [v], _) _ ⟨hI.1.set hb, by rw [List.length_append, List.length_append, hI.2.1]; rfl, fun y hy => ?_, upd_self ..⟩
    rcases List.mem_append.mp hy with hy | hy
    · exact hI.2.2.1 y hy
    · rw [List.mem_singleton.mp hy]; exact hv
  · intro s T' hI
    refine k_new_block HS O hf (lw h) h1 fun w hw _ => ?_
    refine k_base HS (lw h) ⟨_, hI.2.2.2, ?_⟩
    have e1 : (if (blk f M.heap.length).1 = 3 then (blk f M.heap.length).2 else (blk f M.heap.length).2 + 1) = ((M.heap.length + (hd f).length : Nat) : Int) := by
      unfold blk hd; split <;> rfl
    rw [e1]
    refine list_c (σ := List Cell × List Cell × Option AV) (fun s2 => [some (.ref 7), some (iA f), some (.tmp a), some (.tmp b), s.2, some (cA (blk f M.heap.length)), some (iA ((M.heap ++ hd f ++ s2.1).length : Nat)), s2.2.2]) (fun s2 => mkL Y cd (M.wH (M.heap ++ hd f ++ s2.1 ++ s2.2.1)))
      (fun d r s2 => s2.1 = d ∧ s2.2.1.length = r.length) ([], w, none) (by rw [List.append_nil, List.length_append]) (by rw [List.append_nil, List.append_assoc]) ⟨rfl, by rw [hw, ← hn, hI.2.1]⟩ (fun d r s2 P _ hP => ⟨_, hI.2.2.2, rfl, hP⟩) ?_ ?_
    · intro d x r s2 R hd2 hI2 k
      obtain ⟨d2, w2, w3⟩ := s2
      cases w2 with
      | nil => cases hI2.2
      | cons y w2 =>
        have k' := k (d2 ++ [x], w2, some (cA x)) ⟨by rw [← hI2.1], Nat.succ.inj hI2.2⟩
        have e2 : M.heap ++ hd f ++ (d2 ++ [x]) ++ w2 = (M.heap ++ hd f ++ d2 ++ y :: w2).set (M.heap ++ hd f ++ d2).length x := by rw [set_at, ← List.append_assoc, List.append_assoc _ [x]]; rfl
        have e3 : (M.heap ++ hd f ++ (d2 ++ [x])).length = (M.heap ++ hd f ++ d2).length + 1 := by rw [← List.append_assoc]; exact List.length_append
        rw [e2, e3] at k'
        exact w_heapSet (M := M.wH (M.heap ++ hd f ++ d2 ++ y :: w2)) (k := ((M.heap ++ hd f ++ d2).length : Nat)) (Int.natCast_nonneg _) (Int.ofNat_lt.mpr (by show _ < (M.heap ++ hd f ++ d2 ++ y :: w2).length; rw [List.length_append (bs := y :: w2)]; exact Nat.lt_add_of_pos_right (Nat.succ_pos _))) k'
    · intro s2 hI2
      have q' := q s.1 T' hI.1 (hI.2.1.trans hn) hI.2.2.1
      have e2 : M.heap ++ (hd f ++ s.1) = M.heap ++ hd f ++ s2.1 ++ s2.2.1 := by rw [List.eq_nil_of_length_eq_zero hI2.2, List.append_nil, hI2.1, List.append_assoc]
      rw [e2] at q'
      exact q'
end
end Mine
end
section
open PySem.Calls
set_option tactic.hygienic false
namespace Mine
theorem dataAll_map {α : Type} {f : α → AV} {g : α → PyData} {L : List AO} {T : Tm} (h : ∀ a, f a = .d (g a)) : ∀ l : List α, DataAll L T (l.map f) (l.map g)
  | [] => .nil
  | a :: l => .cons (by rw [h a]; exact .d) (dataAll_map h l)
theorem lay_list : ∀ {xs : List PyData} {d : Nat}, (∀ x ∈ xs, x.canLay0 = true ∧ x.depth ≤ d) → PyData.canLayAll0 xs = true ∧ PyData.depthAll xs ≤ d
  | [], _, _ => ⟨rfl, Nat.zero_le _⟩
  | x :: xs, d, h => ⟨(Bool.and_eq_true _ _).mpr ⟨(h x List.mem_cons_self).1, (lay_list fun y hy => h y (.tail _ hy)).1⟩, Nat.max_le.mpr ⟨(h x List.mem_cons_self).2, (lay_list fun y hy => h y (.tail _ hy)).2⟩⟩
theorem sh_list {xs : List PyData} {d : Nat} (hd : d ≤ 63) (h : ∀ x ∈ xs, x.canLay0 = true ∧ x.depth ≤ d) : SeqAt.shaped (.list xs) = true :=
  (Bool.and_eq_true _ _).mpr ⟨(lay_list h).1, decide_eq_true (Nat.succ_le_succ (Nat.le_trans (lay_list h).2 hd))⟩
theorem sh_map {α : Type} {g : α → PyData} (h : ∀ a, (g a).canLay0 = true ∧ (g a).depth ≤ 1) (l : List α) : SeqAt.shaped (.list (l.map g)) = true :=
  sh_list (d := 1) (by decide) fun x hx => by (refine e1a2 (List.mem_map.mp hx) fun a _ x1_ => ?_; subst x1_); exact h a
theorem r_emp {α : Type} {g : α → PyData} {l : List α} {P N : Prop} (h1 : l ≠ [] → P) (h2 : l = [] → N) : wpIf (!(PyData.eqv (.list (l.map g)) (.list []))) P N := by
  cases l with
  | nil => exact h2 rfl
  | cons a l => exact h1 (List.cons_ne_nil a l)
theorem r_not {p : Prop} [Decidable p] {P N : Prop} (h1 : ¬p → P) (h2 : p → N) : wpIf (!(decide p)) P N := by
  by_cases h : p
  · rw [decide_eq_true h]; exact h2 h
  · rw [decide_eq_false h]; exact h1 h
theorem fm_nn {v : Int} {n : Nat} (h : 0 ≤ v) : 0 ≤ v.fmod n := Int.fmod_nonneg h (Int.natCast_nonneg n)
theorem fm_lt {v : Int} {n : Nat} (hn : 0 < n) : v.fmod n < n := Int.fmod_lt_of_pos _ (Int.ofNat_lt.mpr hn)
theorem int_nat {k : Int} {n : Nat} (h0 : 0 ≤ k) (h : k < n) : ∃ m : Nat, m < n ∧ k = m := ⟨k.toNat, by lia, by lia⟩
theorem r_cne {a b c d : Int} {P N : Prop} (h1 : ¬(a = c ∧ b = d) → P) (h2 : a = c → b = d → N) : wpIf (!(PyData.eqv (.tuple [.int a, .int b]) (.tuple [.int c, .int d]))) P N := by
  rw [eqv_c]; exact r_not h1 fun h => h2 h.1 h.2
noncomputable def RowOk (r : List Int) : Prop := ∀ v ∈ r, 0 ≤ v
section
variable {Y : Sy} {cd : Addr} {M : St} {c : Cx} {T : Tm} {Q : AV → LT} (HS : SortOk)
include HS
theorem k_next (h : 1 ≤ c.n) (hr : RowOk M.row) (q : ∀ r v T', RowOk r → 0 ≤ v → Ext T T' → Q (iA v) (mkL Y cd (M.wR r)) T') : CallOk c (.ref 622) [.ref 0] (mkL Y cd M) T Q := by
  refine c_law_next HS h (w_new (vs := []) (by decide) fun a ha => ?_)
  refine ⟨.list (M.row.map PyData.int), .list [], .ref rfl (dataAll_map (fun _ => rfl) _), .tmp (upd_self ..) .nil, sh_map (fun _ => ⟨rfl, Nat.zero_le _⟩) _, by decide, r_emp (fun hne => ?_) fun _ => q M.row 0 _ hr (Int.le_refl _) (Ext.new ha)⟩
  have hl : M.row.dropLast ++ [M.row.getLast hne] = M.row := List.dropLast_concat_getLast hne
  exact w_rowPop hl.symm (q _ _ _ (fun v hv => hr v (List.dropLast_subset _ hv)) (hr _ (List.getLast_mem hne)) (Ext.new ha))
theorem k_pick {p : Addr} {pool : List Cell} (h : 3 ≤ c.n) (hr : RowOk M.row) (hp : T p = some (.list (pool.map cA))) (hne : pool ≠ []) (q : ∀ r x T', RowOk r → x ∈ pool → Ext T T' → Q (cA x) (mkL Y cd (M.wR r)) T') : CallOk c (.ref 648) [.ref 0, .tmp p] (mkL Y cd M) T Q := by
  have hpos : 0 < (pool.map cA).length := by rw [List.length_map]; exact List.length_pos_iff.mpr hne
  refine c_law_pick HS (lo h) (k_next HS (lw h) hr fun r v T' hr' hv hE => ⟨_, hE _ _ hp, ⟨fun e => Nat.ne_of_gt hpos (Int.ofNat.inj e), ⟨_, hE _ _ hp, ?_⟩⟩⟩)
  have h0 : 0 ≤ v.fmod ((pool.map cA).length : Nat) := fm_nn hv
  have hlt : (v.fmod ((pool.map cA).length : Nat)).toNat < pool.length := by rw [← List.length_map (as := pool) cA]; exact (Int.toNat_lt h0).mpr (fm_lt hpos)
  exact r_ix (f := cA) h0 (List.getElem?_eq_getElem hlt) (q r _ T' hr' (List.getElem_mem hlt) hE)
theorem k_size {p : Nat × Nat} (h : 1 ≤ c.n) (hC : Code T cd) (he : M.e = p.1) (hcp : M.cp = (p.2 : Int) + 1) (h3 : p.2 ≤ 3) (q : Q (iA p.2) (mkL Y cd M) T) : CallOk c (.ref 634) [.ref 6] (mkL Y cd M) T Q :=
  c_law_size HS h (r_t (by rw [he]; exact Int.natCast_nonneg _) (r_code hC h3 hcp ⟨by decide, q⟩))
theorem k_size0 (h : 1 ≤ c.n) (he : M.e = -1) (q : Q (iA 0) (mkL Y cd M) T) : CallOk c (.ref 634) [.ref 6] (mkL Y cd M) T Q :=
  c_law_size HS h (r_f (by rw [he]; decide) q)
noncomputable def pf (n : Nat) (x : Cell) : Bool := !(decide (x.1 = 0 ∨ x.1 = 2 ∨ x.1 = 3)) || decide (x.2 < n)
omit HS in
theorem in3 (t : Int) : ([.int 0, .int 2, .int 3] : List PyData).any (fun z => PyData.eqv z (.int t)) = decide (t = 0 ∨ t = 2 ∨ t = 3) := by
  rw [Bool.eq_iff_iff, decide_eq_true_iff]
  show ((0 == t) || ((2 == t) || ((3 == t) || false))) = true ↔ _
  rw [Bool.or_eq_true, Bool.or_eq_true, Bool.or_false, beq_iff_eq, beq_iff_eq, beq_iff_eq, eq_comm (a := (0 : Int)), eq_comm (a := (2 : Int)), eq_comm (a := (3 : Int))]
omit HS in
theorem r_in3 {t : Int} {P N : Prop} (h1 : ¬(t = 0 ∨ t = 2 ∨ t = 3) → P) (h2 : t = 0 ∨ t = 2 ∨ t = 3 → N) : wpIf (!(([.int 0, .int 2, .int 3] : List PyData).any fun z => PyData.eqv z (.int t))) P N := by
  rw [in3]; exact r_not h1 h2
theorem k_pool {p : Addr} {pool : List Cell} (h : 1 ≤ c.n) (hp : T p = some (.list (pool.map cA))) (hl : pool.length < 1000000) (q : ∀ a T', Ext T T' → T a = none → T' a = some (.list ((pool.filter (pf M.heap.length)).map cA)) → Q (.tmp a) (mkL Y cd M) T') : CallOk c (.ref 641) [.ref 6, .tmp p] (mkL Y cd M) T Q := by
  refine c_law_pool HS h (w_new (vs := []) (by decide) fun a ha => ⟨_, Ext.new ha _ _ hp, ?_⟩)
  refine fr_list (σ := List Cell × Option AV) (fun s => [some (.ref 6), some (.tmp p), some (.tmp a), s.2]) (fun _ => mkL Y cd M) (fun d r s T' => Ext T T' ∧ s.1.length ≤ d.length ∧ s.1 = d.filter (pf M.heap.length) ∧ T' a = some (.list (s.1.map cA))) ([], none) rfl rfl ⟨Ext.new ha, Nat.le_refl _, rfl, upd_self ..⟩
    (fun d r s T' P hI hP => ⟨_, hI.1 _ _ hp, rfl, hP⟩) ?_ fun s T' hI => q a T' hI.1 ha (by rw [← hI.2.2.1]; exact hI.2.2.2)
  intro d x r s T' P hd hI k
  have hf : (d ++ [x]).filter (pf M.heap.length) = d.filter (pf M.heap.length) ++ [x].filter (pf M.heap.length) := List.filter_append ..
  have hlen : (d ++ [x]).length = d.length + 1 := List.length_append
  have hdl : d.length < 1000000 := by rw [hd, List.length_append] at hl; exact Nat.lt_of_le_of_lt (Nat.le_add_right ..) hl
  have add : pf M.heap.length x = true → P [some (.ref 6), some (.tmp p), some (.tmp a), some (cA x)] (mkL Y cd M) (upd T' a (.list ((s.1 ++ [x]).map cA))) := fun hx =>
    k (s.1 ++ [x], some (cA x)) _ ⟨hI.1.set ha, by rw [hlen, List.length_append]; exact Nat.succ_le_succ hI.2.1, by rw [hf, hI.2.2.1, List.filter_cons_of_pos hx]; rfl, upd_self ..⟩
  have no : pf M.heap.length x = false → P [some (.ref 6), some (.tmp p), some (.tmp a), some (cA x)] (mkL Y cd M) T' := fun hx =>
    k (s.1, some (cA x)) _ ⟨hI.1, by rw [hlen]; exact Nat.le_succ_of_le hI.2.1, by rw [hf, hI.2.2.1, List.filter_cons_of_neg (by rw [hx]; exact Bool.false_ne_true)]; exact (List.append_nil _).symm, hI.2.2.2⟩
  have app : pf M.heap.length x = true → ∃ vs, T' a = some (.list vs) ∧ (∃ vs, T' a = some (.list vs) ∧ vs.length < lid ∧ wpPutL (.tmp a) (vs ++ [cA x]) (mkL Y cd M) T' fun L T => P [some (.ref 6), some (.tmp p), some (.tmp a), some (cA x)] L T) := fun hx =>
    ⟨_, hI.2.2.2, _, hI.2.2.2, w_tmpAdd (f := cA) (Nat.lt_of_le_of_lt hI.2.1 hdl) (add hx)⟩
  refine ⟨by decide, r_in3 (t := x.1) (fun hc => app ?_) fun hc => ⟨by decide, r_if (fun hc2 => app ?_) fun hc2 => no ?_⟩⟩
  · unfold pf; rw [decide_eq_false hc]; rfl
  · unfold pf; rw [lenI] at hc2; rw [decide_eq_true hc2]; exact Bool.or_true _
  · unfold pf; rw [lenI] at hc2; rw [decide_eq_true hc, decide_eq_false hc2]; rfl
theorem k_bound {u v : Cell} (P : Cell → Prop) (h : 5 ≤ c.n) (h0 : P u) (h1 : P v) (hs : ∀ v, P (0, v) → 0 ≤ v ∧ ∃ x, M.heap[v.toNat]? = some x ∧ P x ∧ (x.1 = 0 → x.2 ≤ v)) (hn : ∀ v, ¬P (1, v)) (hl : M.trail.length < 1000000)
    (q0 : Q (.d .none) (mkL Y cd M) T)
    (q1 : ∀ a x, 0 ≤ a → M.heap[a.toNat]? = some (0, a) → P x → (x.1 = 0 → x.2 < a) → Q (.d .none) (mkL Y cd ((M.wH (M.heap.set a.toNat x)).wT (if a < M.hb then M.trail ++ [a] else M.trail))) T) :
    CallOk c (.ref 655) [.ref 6, cA u, cA v] (mkL Y cd M) T Q := by
  refine c_law_bound HS (lo h) (k_deref HS P (lw h) h0 hs hn fun r hr hr1 => k_deref HS P (lw h) h1 hs hn fun z hz hz1 => ?_)
  refine ⟨by decide, r_if (fun hc => r_cne (fun hne => ?_) fun _ _ => q0) fun _ => q0⟩
  have er : r = (0, r.2) := Prod.ext hc rfl
  have hr0 := hr1 hc
  have hp0 : P (0, r.2) := er ▸ hr
  have hnn := (hs r.2 hp0).1
  have hlt : r.2 < M.heap.length := lt_len hnn hr0
  rw [er] at hr0
  have ez : z.1 = 0 → z = (0, z.2) := fun e => Prod.ext e rfl
  refine ⟨by decide, r_if (fun hz0 => ?_) fun hz0 => ?_⟩
  · have hpz : P (0, z.2) := ez hz0 ▸ hz
    have hz2 : M.heap[z.2.toNat]? = some (0, z.2) := (hz1 hz0).trans (congrArg some (ez hz0))
    have w : ∀ Q' : AV → LT, (∀ x y : Int, ((x = r.2 ∧ y = z.2) ∨ (x = z.2 ∧ y = r.2)) → y < x → Q' (.d .none) (mkL Y cd ((M.wH (M.heap.set x.toNat (0, y))).wT (if x < M.hb then M.trail ++ [x] else M.trail))) T) → CallOk c.dn.dn (.ref 251) [.ref 7, cA r, cA z] (mkL Y cd M) T Q' := fun Q' q' => by
      rw [er, ez hz0]
      exact k_bind_pair HS (lw h) (fun e => hne ⟨hz0.trans hc.symm, e.symm⟩) hnn (hs z.2 hpz).1 hlt (lt_len (hs z.2 hpz).1 hz2) hl q'
    refine w _ fun x y hxy hlt => ?_
    rcases hxy with ⟨e1, e2⟩ | ⟨e1, e2⟩
    · rw [e1, e2]; rw [e1, e2] at hlt; exact q1 r.2 (0, z.2) hnn hr0 hpz fun _ => hlt
    · rw [e1, e2]; rw [e1, e2] at hlt; exact q1 z.2 (0, r.2) (hs z.2 hpz).1 hz2 hp0 fun _ => hlt
  · have w : ∀ Q' : AV → LT, Q' (.d .none) (mkL Y cd ((M.wH (M.heap.set r.2.toNat z)).wT (if r.2 < M.hb then M.trail ++ [r.2] else M.trail))) T → CallOk c.dn.dn (.ref 244) [.ref 7, cA r, cA z] (mkL Y cd M) T Q' := fun Q' q' => by rw [er]; exact k_bind HS (lw h) hnn hlt hl q'
    exact w _ (q1 r.2 z hnn hr0 hz fun e => absurd e hz0)
end
end Mine
end
section
open PySem.Calls
set_option tactic.hygienic false
namespace Mine
noncomputable def ptr (c : Cell) : Prop := c.1 = 0 ∨ c.1 = 2 ∨ c.1 = 3
noncomputable def okc (heap : List Cell) (bs : List Nat) (c : Cell) : Prop :=
  c.1 = 4 ∨ c.1 = 5 ∨ (0 ≤ c.2 ∧ ∃ x, heap[c.2.toNat]? = some x ∧ ((c.1 = 0 ∧ x.1 ≠ 6) ∨ (c.1 = 2 ∧ x.1 = 6) ∨ (c.1 = 3 ∧ ∀ h ∈ bs, c.2.toNat < h → c.2.toNat + 1 < h)))
noncomputable def bnd (heap : List Cell) (D : List Ch) : List Nat := heap.length :: D.map (·.hp)
noncomputable def allE (C : List (Nat × Nat)) (D : List Ch) : List (Nat × Nat) := C ++ D.flatMap (·.env)
noncomputable def hOk (heap : List Cell) (D : List Ch) (tr : List Int) (a : Nat) (c : Cell) : Prop :=
  (c.1 = 6 ∧ (c.2 = 12 ∨ c.2 = 13) ∧ ∀ h ∈ bnd heap D, a < h → a + ar c.2 < h) ∨
  (okc heap (bnd heap D) c ∧ (c.1 = 0 → c.2 ≤ a) ∧ ∀ d ∈ D, a < d.hp → ptr c → d.hp ≤ c.2 → (a : Int) ∈ tr.drop d.tr)
noncomputable def Mono : List Ch → Nat → Nat → Prop
  | [], _, _ => True
  | d :: r, t, h => d.tr ≤ t ∧ d.hp ≤ h ∧ 3 ≤ d.hp ∧ Mono r d.tr d.hp
theorem Mono.all : ∀ {D : List Ch} {t h : Nat}, Mono D t h → ∀ d ∈ D, d.tr ≤ t ∧ d.hp ≤ h ∧ 3 ≤ d.hp
  | d :: r, t, h, m, x, hx => (List.mem_cons.mp hx).elim (fun e => e ▸ ⟨m.1, m.2.1, m.2.2.1⟩) fun hx =>
    have z := Mono.all m.2.2.2 x hx
    ⟨Nat.le_trans z.1 m.1, Nat.le_trans z.2.1 m.2.1, z.2.2⟩
theorem Mono.up : ∀ {D : List Ch} {t h t' h' : Nat}, Mono D t h → t ≤ t' → h ≤ h' → Mono D t' h'
  | [], _, _, _, _, _, _, _ => trivial
  | _ :: _, _, _, _, _, m, a, b => ⟨Nat.le_trans m.1 a, Nat.le_trans m.2.1 b, m.2.2⟩
structure InvH (heap : List Cell) (D : List Ch) (tr : List Int) : Prop where
  mono : Mono D tr.length heap.length
  three : 3 ≤ heap.length
  cell : ∀ (a : Nat) c, heap[a]? = some c → hOk heap D tr a c
  tr1 : ∀ x ∈ tr, 0 ≤ x → ∃ c, heap[x.toNat]? = some c ∧ c.1 ≠ 6
  tr2 : ∀ d ∈ D, ∀ x ∈ tr.take d.tr, 0 ≤ x → x < d.hp
structure InvS (st : List SV) (C : List (Nat × Nat)) (D : List Ch) (tr : List Int) : Prop where
  ch : Chain st C
  cs : Chs st D
  sep : ∀ p ∈ allE C D, ∀ d ∈ D, d.b + d.n + 8 ≤ p.1 ∨ p.1 + 2 + p.2 ≤ d.b
  tr1 : ∀ x ∈ tr, x < 0 → -1 - x < st.length
  tr3 : ∀ d ∈ D, ∀ s : Nat, (-1 - (s : Int)) ∈ tr.drop d.tr → d.b + d.n + 8 ≤ s ∨ (s < d.b ∧ ∃ c, st[s]? = some (.c c))
structure InvV (st : List SV) (heap : List Cell) (C : List (Nat × Nat)) (D : List Ch) (tr : List Int) : Prop where
  slot : ∀ p ∈ allE C D, ∀ j, j < p.2 → ∃ c, st[p.1 + 2 + j]? = some (.c c) ∧ (c = (1, ((p.1 + 2 + j : Nat) : Int)) ∨ okc heap (bnd heap D) c) ∧
    ∀ d ∈ D, p.1 + 2 + j < d.b → ptr c → d.hp ≤ c.2 → (-1 - ((p.1 + 2 + j : Nat) : Int)) ∈ tr.drop d.tr
  args : ∀ d ∈ D, ∀ j, j < d.n → ∃ c, st[d.b + 1 + j]? = some (.c c) ∧ okc heap (bnd heap D) c ∧ (ptr c → c.2 < d.hp)
structure Inv (M : St) (C : List (Nat × Nat)) (D : List Ch) : Prop where
  e : M.e = eOf C
  cp : M.cp = cpOf C
  b : M.b = bOf D
  hb : M.hb = hbOf D
  bb : M.bb = bbOf D
  H : InvH M.heap D M.trail
  S : InvS M.stack C D M.trail
  V : InvV M.stack M.heap C D M.trail
theorem okc_lt {heap : List Cell} {bs : List Nat} {c : Cell} (h : okc heap bs c) (hp : ptr c) : 0 ≤ c.2 ∧ c.2.toNat < heap.length := by
  rcases h with h | h | ⟨h0, x, hx, _⟩
  · rcases hp with e | e | e <;> (rw [e] at h; exact absurd h (by decide))
  · rcases hp with e | e | e <;> (rw [e] at h; exact absurd h (by decide))
  · exact ⟨h0, lt_of_get hx⟩
theorem okc_map {heap heap' : List Cell} {bs bs' : List Nat} {c : Cell} (h : okc heap bs c) (hx : ptr c → ∀ x, heap[c.2.toNat]? = some x → ∃ x', heap'[c.2.toNat]? = some x' ∧ (x'.1 = 6 ↔ x.1 = 6))
    (hb : c.2.toNat < heap.length → ∀ h ∈ bs', ∃ h0 ∈ bs, h0 ≤ h ∧ (c.2.toNat < h → c.2.toNat < h0)) : okc heap' bs' c := by
  rcases h with h | h | ⟨h0, x, e, hk⟩
  · exact .inl h
  · exact .inr (.inl h)
  · have hp : ptr c := hk.elim (fun a => .inl a.1) fun a => a.elim (fun a => .inr (.inl a.1)) fun a => .inr (.inr a.1)
    refine e1a2 (hx hp x e) fun x' e' i => ?_
    refine .inr (.inr ⟨h0, x', e', hk.imp (fun a => ⟨a.1, fun z => a.2 (i.mp z)⟩) fun a => a.imp (fun a => ⟨a.1, i.mpr a.2⟩) fun a => ⟨a.1, fun h hh hlt => ?_⟩⟩)
    refine e1a3 (hb (lt_of_get e) h hh) fun h1 m1 m2 m3 => ?_
    exact Nat.lt_of_lt_of_le (a.2 h1 m1 (m3 hlt)) m2
theorem okc_tag {heap : List Cell} {bs : List Nat} {c : Cell} (h : okc heap bs c) : c.1 ≠ 6 ∧ c.1 ≠ 1 := by
  rcases h with h | h | ⟨_, _, _, h | h | h⟩ <;> first | (rw [h]; decide) | (rw [h.1]; decide)
structure HKeep (heap heap' : List Cell) : Prop where
  len : heap.length ≤ heap'.length
  at_ : ∀ (a : Nat) x, heap[a]? = some x → ∃ x', heap'[a]? = some x' ∧ (x'.1 = 6 ↔ x.1 = 6)
theorem bnd_up {heap heap' : List Cell} {D : List Ch} (k : heap.length ≤ heap'.length) {n : Nat} (hn : n < heap.length) : ∀ h ∈ bnd heap' D, ∃ h0 ∈ bnd heap D, h0 ≤ h ∧ (n < h → n < h0) := fun h hh =>
  (List.mem_cons.mp hh).elim (fun e => ⟨_, List.mem_cons_self, e ▸ k, fun _ => hn⟩) fun hh => ⟨h, .tail _ hh, Nat.le_refl _, id⟩
theorem okc_keep {heap heap' : List Cell} {D : List Ch} {c : Cell} (k : HKeep heap heap') (h : okc heap (bnd heap D) c) : okc heap' (bnd heap' D) c :=
  okc_map h (fun _ x e => k.at_ _ x e) fun hn => bnd_up k.len hn
theorem okc_sub {heap : List Cell} {bs bs' : List Nat} {c : Cell} (s : ∀ h ∈ bs', h ∈ bs) (h : okc heap bs c) : okc heap bs' c :=
  okc_map h (fun _ x e => ⟨x, e, Iff.rfl⟩) fun _ h hh => ⟨h, s h hh, Nat.le_refl _, id⟩
theorem hOk_keep {heap heap' : List Cell} {D : List Ch} {tr tr' : List Int} {a : Nat} {c : Cell} (k : HKeep heap heap') (ha : a < heap.length) (ht : ∀ d ∈ D, ∀ x ∈ tr.drop d.tr, x ∈ tr'.drop d.tr) (h : hOk heap D tr a c) : hOk heap' D tr' a c := by
  rcases h with ⟨h1, h2, h3⟩ | ⟨h1, h2, h3⟩
  · refine .inl ⟨h1, h2, fun h hh hlt => ?_⟩
    refine e1a3 (bnd_up k.len ha h hh) fun h0 m1 m2 m3 => ?_
    exact Nat.lt_of_lt_of_le (h3 h0 m1 (m3 hlt)) m2
  · exact .inr ⟨okc_keep k h1, h2, fun d hd x1 x2 x3 => ht d hd _ (h3 d hd x1 x2 x3)⟩
theorem InvV.keep {st : List SV} {heap heap' : List Cell} {C : List (Nat × Nat)} {D : List Ch} {tr tr' : List Int} (V : InvV st heap C D tr) (k : HKeep heap heap') (ht : ∀ d ∈ D, ∀ x ∈ tr.drop d.tr, x ∈ tr'.drop d.tr) : InvV st heap' C D tr' :=
  ⟨fun p hp j hj => let ⟨c, h1, h2, h3⟩ := V.slot p hp j hj; ⟨c, h1, h2.imp id (okc_keep k), fun d hd x1 x2 x3 => ht d hd _ (h3 d hd x1 x2 x3)⟩,
   fun d hd j hj => let ⟨c, h1, h2, h3⟩ := V.args d hd j hj; ⟨c, h1, okc_keep k h2, h3⟩⟩
theorem keep_append (heap w : List Cell) : HKeep heap (heap ++ w) :=
  ⟨by rw [List.length_append]; exact Nat.le_add_right .., fun a x e => ⟨x, by rw [List.getElem?_append_left (lt_of_get e)]; exact e, Iff.rfl⟩⟩
theorem InvH.append {heap w : List Cell} {D : List Ch} {tr : List Int} (H : InvH heap D tr) (hw : ∀ (i : Nat) c, w[i]? = some c → hOk (heap ++ w) D tr (heap.length + i) c) : InvH (heap ++ w) D tr := by
  have k := keep_append heap w
  refine ⟨H.mono.up (Nat.le_refl _) k.len, Nat.le_trans H.three k.len, fun a c e => ?_, fun x hx h0 => let ⟨c, h1, h2⟩ := H.tr1 x hx h0; ⟨c, by rw [List.getElem?_append_left (lt_of_get h1)]; exact h1, h2⟩, H.tr2⟩
  rcases Nat.lt_or_ge a heap.length with h | h
  · rw [List.getElem?_append_left h] at e
    exact hOk_keep k h (fun _ _ _ h => h) (H.cell a c e)
  · rw [List.getElem?_append_right h] at e
    have z := hw _ c e
    rwa [Nat.add_sub_cancel' h] at z
theorem Inv.append {M : St} {C : List (Nat × Nat)} {D : List Ch} {w : List Cell} (I : Inv M C D) (hw : ∀ (i : Nat) c, w[i]? = some c → hOk (M.heap ++ w) D M.trail (M.heap.length + i) c) : Inv (M.wH (M.heap ++ w)) C D :=
  ⟨I.e, I.cp, I.b, I.hb, I.bb, I.H.append hw, I.S, I.V.keep (keep_append _ _) fun _ _ _ h => h⟩
theorem hOk_new {heap : List Cell} {D : List Ch} {tr : List Int} {n a : Nat} {c : Cell} (m : Mono D tr.length n) (ha : n ≤ a) (h : okc heap (bnd heap D) c) (h0 : c.1 = 0 → c.2 ≤ a) : hOk heap D tr a c :=
  .inr ⟨h, h0, fun d hd hlt => absurd (Nat.lt_of_lt_of_le hlt (m.all d hd).2.1) (Nat.not_lt.mpr ha)⟩
end Mine
end
section
open PySem.Calls
set_option tactic.hygienic false
namespace Mine
theorem get_app {α : Type} {l w : List α} {i : Nat} {x : α} (h : w[i]? = some x) : (l ++ w)[l.length + i]? = some x := by
  rw [List.getElem?_append_right (Nat.le_add_right ..), Nat.add_sub_cancel_left]; exact h
theorem okc_var {heap : List Cell} {bs : List Nat} {a : Nat} (h : heap[a]? = some (0, (a : Int))) : okc heap bs (0, (a : Int)) :=
  .inr (.inr ⟨Int.natCast_nonneg a, _, h, .inl ⟨rfl, (by decide : (0 : Int) ≠ 6)⟩⟩)
theorem Inv.var {M : St} {C : List (Nat × Nat)} {D : List Ch} (I : Inv M C D) : Inv (M.wH (M.heap ++ [(0, (M.heap.length : Int))])) C D ∧ okc (M.heap ++ [(0, (M.heap.length : Int))]) (bnd (M.heap ++ [(0, (M.heap.length : Int))]) D) (0, (M.heap.length : Int)) := by
  have e : (M.heap ++ [((0, (M.heap.length : Int)) : Cell)])[M.heap.length]? = some (0, (M.heap.length : Int)) := get_app (i := 0) rfl
  have o := okc_var (bs := bnd (M.heap ++ [((0, (M.heap.length : Int)) : Cell)]) D) e
  refine ⟨I.append fun i c hc => ?_, o⟩
  match i, hc with
  | 0, hc => cases hc; exact hOk_new I.H.mono (Nat.le_refl _) o fun _ => Int.le_refl _
theorem Inv.block {M : St} {C : List (Nat × Nat)} {D : List Ch} {f : Int} {vs : List Cell} (I : Inv M C D) (hf : fOk f) (hl : vs.length = ar f)
    (hv : ∀ (i : Nat) v, vs[i]? = some v → okc M.heap (bnd M.heap D) v ∨ v = (0, ((M.heap.length + (hd f).length + i : Nat) : Int))) :
    Inv (M.wH (M.heap ++ (hd f ++ vs))) C D ∧ okc (M.heap ++ (hd f ++ vs)) (bnd (M.heap ++ (hd f ++ vs)) D) (blk f M.heap.length) := by
  have k := keep_append M.heap (hd f ++ vs)
  have hlen : (M.heap ++ (hd f ++ vs)).length = M.heap.length + ((hd f).length + ar f) := by rw [List.length_append, List.length_append, hl]
  -- the bounds that lie behind the old heap
  have hb : ∀ h ∈ bnd (M.heap ++ (hd f ++ vs)) D, ∀ a, M.heap.length ≤ a → a < h → h = M.heap.length + ((hd f).length + ar f) := fun h hh a ha hlt =>
    (List.mem_cons.mp hh).elim (fun e => e.trans hlen) fun hh => by
      refine e1a2 (List.mem_map.mp hh) fun d hd x1_ => ?_; subst x1_
      exact absurd (Nat.lt_of_lt_of_le hlt (I.H.mono.all d hd).2.1) (Nat.not_lt.mpr ha)
  have hv' : ∀ (i : Nat) v, vs[i]? = some v → hOk (M.heap ++ (hd f ++ vs)) D M.trail (M.heap.length + (hd f).length + i) v := fun i v e => by
    have e' : (M.heap ++ (hd f ++ vs))[M.heap.length + (hd f).length + i]? = some v := by rw [Nat.add_assoc]; exact get_app (get_app e)
    rcases hv i v e with h | h
    · refine hOk_new I.H.mono (Nat.le_trans (Nat.le_add_right ..) (Nat.le_add_right ..)) (okc_keep k h) fun h0 => ?_
      have z := okc_lt h (.inl h0)
      have z2 := (Int.toNat_lt z.1).mp z.2
      exact Int.le_of_lt (Int.lt_of_lt_of_le z2 (Int.ofNat_le.mpr (Nat.le_trans (Nat.le_add_right ..) (Nat.le_add_right ..))))
    · subst h
      exact hOk_new I.H.mono (Nat.le_trans (Nat.le_add_right ..) (Nat.le_add_right ..)) (okc_var e') fun _ => Int.le_refl _
  by_cases h0 : f = 0
  · have e1 := hd0 h0
    have e2 : ar f = 2 := ar0 h0
    rw [e1, e2] at hb
    rw [e1] at hv'
    refine ⟨I.append fun i c e => ?_, ?_⟩
    · rw [e1] at e ⊢; exact hv' i c e
    · rw [blk0 h0]
      have h2 : 0 < vs.length := by rw [hl, e2]; decide
      refine .inr (.inr ⟨Int.natCast_nonneg _, vs[0], ?_, .inr (.inr ⟨rfl, fun h hh hlt => ?_⟩)⟩)
      · rw [e1]; exact get_app (List.getElem?_eq_getElem h2)
      · rw [e1] at hh
        rw [hb h hh _ (Nat.le_refl _) hlt]; exact Nat.lt_succ_self _
  · have e1 := hd1 h0
    rw [e1] at hb hv'
    have e3 : (M.heap ++ (hd f ++ vs))[M.heap.length]? = some (6, f) := by rw [e1]; exact get_app (i := 0) rfl
    refine ⟨I.append fun i c e => ?_, ?_⟩
    · rw [e1] at e ⊢
      cases i with
      | zero =>
        cases e
        refine .inl ⟨rfl, hf.resolve_left h0, fun h hh hlt => ?_⟩
        rw [hb h hh _ (Nat.le_refl _) hlt]
        exact Nat.add_lt_add_left (by show ar f < 1 + ar f; lia) _
      | succ i =>
        have z := hv' i c e
        rwa [Nat.add_assoc, Nat.add_comm ([((6, f) : Cell)]).length] at z
    · rw [blk1 h0]
      exact .inr (.inr ⟨Int.natCast_nonneg _, _, e3, .inr (.inl ⟨rfl, rfl⟩)⟩)
theorem Inv.bind {M : St} {C : List (Nat × Nat)} {D : List Ch} {a : Int} {x : Cell} (I : Inv M C D) (h0 : 0 ≤ a) (ha : M.heap[a.toNat]? = some (0, a)) (hx : okc M.heap (bnd M.heap D) x) (hlt : x.1 = 0 → x.2 < a) :
    Inv ((M.wH (M.heap.set a.toNat x)).wT (if a < M.hb then M.trail ++ [a] else M.trail)) C D ∧ HKeep M.heap (M.heap.set a.toNat x) := by
  have al := lt_of_get ha
  have tx := (okc_tag hx).1
  have k : HKeep M.heap (M.heap.set a.toNat x) := ⟨Nat.le_of_eq List.length_set.symm, fun b y e => by
    by_cases hb : a.toNat = b
    · subst hb
      rw [ha] at e; cases e
      exact ⟨x, List.getElem?_set_self al, ⟨fun h => absurd h tx, fun h => absurd h (by decide : (0 : Int) ≠ 6)⟩⟩
    · exact ⟨y, by rw [List.getElem?_set_ne hb]; exact e, Iff.rfl⟩⟩
  generalize htr : (if a < M.hb then M.trail ++ [a] else M.trail) = tr'
  -- what is trailed
  have t1 : tr' = M.trail ∨ tr' = M.trail ++ [a] := by rw [← htr]; split; exact .inr rfl; exact .inl rfl
  have t2 : ∀ d ∈ D, d.tr ≤ M.trail.length := fun d hd => (I.H.mono.all d hd).1
  have t3 : ∀ d ∈ D, ∀ y ∈ M.trail.drop d.tr, y ∈ tr'.drop d.tr := fun d hd y hy => t1.elim (fun e => e ▸ hy) fun e => by rw [e, List.drop_append_of_le_length (t2 d hd)]; exact List.mem_append_left _ hy
  have t4 : ∀ d ∈ D, a < d.hp → a ∈ tr'.drop d.tr := fun d hd hh => by
    have hhb : a < M.hb := by
      rw [I.hb]
      cases D with
      | nil => cases hd
      | cons d0 r => exact (List.mem_cons.mp hd).elim (fun e => e ▸ hh) fun hd => Int.lt_of_lt_of_le hh (Int.ofNat_le.mpr (I.H.mono.2.2.2.all d hd).2.1)
    rw [← htr, if_pos hhb, List.drop_append_of_le_length (t2 d hd)]
    exact List.mem_append_right _ List.mem_cons_self
  have t5 : ∀ d ∈ D, tr'.take d.tr = M.trail.take d.tr := fun d hd => t1.elim (fun e => e ▸ rfl) fun e => by rw [e, List.take_append_of_le_length (t2 d hd)]
  have t6 : ∀ y ∈ tr', y ∈ M.trail ∨ y = a := fun y hy => t1.elim (fun e => .inl (e ▸ hy)) fun e => by rw [e] at hy; exact (List.mem_append.mp hy).imp id List.mem_singleton.mp
  have t7 : ∀ d ∈ D, ∀ y ∈ tr'.drop d.tr, y < 0 → y ∈ M.trail.drop d.tr := fun d hd y hy hn => t1.elim (fun e => e ▸ hy) fun e => by
    rw [e, List.drop_append_of_le_length (t2 d hd)] at hy
    exact (List.mem_append.mp hy).elim id fun e => absurd hn (by rw [List.mem_singleton.mp e]; exact Int.not_lt.mpr h0)
  have t8 : M.trail.length ≤ tr'.length := t1.elim (fun e => Nat.le_of_eq (by rw [e])) fun e => by rw [e, List.length_append]; exact Nat.le_add_right ..
  refine ⟨⟨I.e, I.cp, I.b, I.hb, I.bb, ⟨I.H.mono.up t8 k.len, Nat.le_trans I.H.three k.len, fun b c e => ?_, fun y hy hn => ?_, fun d hd y hy hn => ?_⟩, ⟨I.S.ch, I.S.cs, I.S.sep, fun y hy hn => ?_, fun d hd s hs => I.S.tr3 d hd s (t7 d hd _ hs (by lia))⟩, I.V.keep k t3⟩, k⟩
  · by_cases hb : a.toNat = b
    · subst hb
      have e : (M.heap.set a.toNat x)[a.toNat]? = some c := e
      rw [List.getElem?_set_self al] at e; cases e
      have ea : ((a.toNat : Nat) : Int) = a := Int.toNat_of_nonneg h0
      exact .inr ⟨okc_keep k hx, fun e => by rw [ea]; exact Int.le_of_lt (hlt e), fun d hd hh _ _ => by rw [ea]; exact t4 d hd (by rw [← ea]; exact Int.ofNat_lt.mpr hh)⟩
    · have e : (M.heap.set a.toNat x)[b]? = some c := e
      rw [List.getElem?_set_ne hb] at e
      exact hOk_keep k (lt_of_get e) t3 (I.H.cell b c e)
  · rcases t6 y hy with h | rfl
    · refine e1a2 (I.H.tr1 y h hn) fun c h1 h2 => ?_
      refine e1a2 (k.at_ _ c h1) fun c' h3 h4 => ?_
      exact ⟨c', h3, fun e => h2 (h4.mp e)⟩
    · exact ⟨x, List.getElem?_set_self al, tx⟩
  · have hy : y ∈ tr'.take d.tr := hy
    rw [t5 d hd] at hy; exact I.H.tr2 d hd y hy hn
  · exact I.S.tr1 y ((t6 y hy).resolve_right fun e => absurd hn (by rw [e]; exact Int.not_lt.mpr h0)) hn
end Mine
end
section
open PySem.Calls
set_option tactic.hygienic false
namespace Mine
noncomputable def Like (t : Nat) (st st' : List SV) : Prop := ∀ i, i < t → (∀ k, st[i]? = some (.i k) → st'[i]? = some (.i k)) ∧ ∀ c, st[i]? = some (.c c) → ∃ c', st'[i]? = some (.c c')
theorem Like.of_eq {t : Nat} {st st' : List SV} (h : ∀ i, i < t → st'[i]? = st[i]?) : Like t st st' := fun i hi => ⟨fun _ e => (h i hi).trans e, fun c e => ⟨c, (h i hi).trans e⟩⟩
theorem Chain.like {st st' : List SV} {t : Nat} (h : Like t st st') : ∀ {C : List (Nat × Nat)}, (∀ p ∈ C, p.1 + 2 + p.2 ≤ t) → Chain st C → Chain st' C
  | [], _, _ => trivial
  | p :: r, hb, k => by
    have hp := hb p List.mem_cons_self
    exact ⟨⟨k.1.n3, fun j hj => let ⟨c, e⟩ := k.1.sl j hj; (h _ (by lia)).2 c e, k.1.sep, (h _ (by lia)).1 _ k.1.e, (h _ (by lia)).1 _ k.1.cp⟩, Chain.like h (fun q hq => hb q (.tail _ hq)) k.2⟩
theorem Chs.like {st st' : List SV} {t : Nat} (h : Like t st st') : ∀ {D : List Ch}, (∀ d ∈ D, d.b + d.n + 8 ≤ t) → Chs st D → Chs st' D
  | [], _, _ => trivial
  | d :: r, hb, k => by
    have hd := hb d List.mem_cons_self
    have z : ∀ i, i < 8 → d.b + d.n + i < t := fun i hi => Nat.lt_of_lt_of_le (Nat.add_lt_add_left hi _) hd
    have z0 : d.b < t := Nat.lt_of_le_of_lt (Nat.le_add_right ..) (z 0 (by decide))
    refine ⟨⟨k.1.n3, (h _ z0).1 _ k.1.nn, fun j hj => let ⟨c, e⟩ := k.1.ar j hj; (h _ (by lia)).2 c e, k.1.env, k.1.sep, (h _ (z 1 (by decide))).1 _ k.1.e, (h _ (z 2 (by decide))).1 _ k.1.cp, (h _ (z 3 (by decide))).1 _ k.1.pb,
      (h _ (z 5 (by decide))).1 _ k.1.tr, (h _ (z 6 (by decide))).1 _ k.1.hp, (h _ (z 7 (by decide))).1 _ k.1.b0, k.1.ch.like h fun p hp => Nat.le_trans (k.1.env p hp) (Nat.le_of_lt z0)⟩, Chs.like h (fun q hq => hb q (.tail _ hq)) k.2⟩
theorem mem_allE {C : List (Nat × Nat)} {D : List Ch} {p : Nat × Nat} : p ∈ allE C D ↔ p ∈ C ∨ ∃ d ∈ D, p ∈ d.env := by unfold allE; rw [List.mem_append, List.mem_flatMap]
theorem chs_env {st : List SV} : ∀ {D : List Ch}, Chs st D → ∀ d ∈ D, ∃ r, Ch1 st d r
  | x :: r, k, d, hd => (List.mem_cons.mp hd).elim (fun e => ⟨r, e ▸ k.1⟩) fun hd => chs_env k.2 d hd
theorem chs_top {st : List SV} {d : Ch} {r : List Ch} (k : Chs st (d :: r)) {x : Ch} (hx : x ∈ d :: r) : x.b + x.n + 8 ≤ d.b + d.n + 8 :=
  (List.mem_cons.mp hx).elim (fun e => e ▸ Nat.le_refl _) fun hx => by have := k.1.sep x hx; lia
theorem chain_top {st : List SV} {p : Nat × Nat} {r : List (Nat × Nat)} (k : Chain st (p :: r)) {x : Nat × Nat} (hx : x ∈ p :: r) : x.1 + 2 + x.2 ≤ p.1 + 2 + p.2 :=
  (List.mem_cons.mp hx).elim (fun e => e ▸ Nat.le_refl _) fun hx => by have := k.1.sep x hx; lia
theorem InvS.top {st : List SV} {C : List (Nat × Nat)} {D : List Ch} {tr : List Int} (S : InvS st C D tr) : (∀ p ∈ allE C D, p.1 + 2 + p.2 ≤ topOf C D) ∧ (∀ d ∈ D, d.b + d.n + 8 ≤ topOf C D) ∧ topOf C D ≤ st.length := by
  have env : ∀ {t}, (∀ d ∈ D, d.b ≤ t) → ∀ d ∈ D, ∀ p ∈ d.env, p.1 + 2 + p.2 ≤ t := fun h d hd p hp => let ⟨_, k⟩ := chs_env S.cs d hd; Nat.le_trans (k.env p hp) (h d hd)
  have low : ∀ {t d : Nat} {n : Nat}, d + n + 8 ≤ t → d ≤ t := fun h => by lia
  unfold topOf
  by_cases h : bOf D < eOf C
  · rw [if_pos h]
    cases C with
    | nil => exact absurd h (Int.not_lt.mpr (bOf_ge D))
    | cons p r =>
      have hp : p ∈ allE (p :: r) D := mem_allE.mpr (.inl List.mem_cons_self)
      have hd : ∀ d ∈ D, d.b + d.n + 8 ≤ p.1 + 2 + p.2 := fun d hd => by
        cases D with
        | nil => cases hd
        | cons d0 ds =>
          have h1 := chs_top S.cs hd
          have h2 : (d0.b : Int) < p.1 := h
          have h3 := S.sep p hp d0 List.mem_cons_self
          lia
      refine ⟨fun q hq => (mem_allE.mp hq).elim (fun hq => chain_top S.ch hq) fun ⟨d, hd', hq⟩ => env (fun d hd' => low (hd d hd')) d hd' q hq, hd, ?_⟩
      show p.1 + 2 + p.2 ≤ _
      have h1 := lt_of_get S.ch.1.cp
      rcases Nat.eq_zero_or_pos p.2 with e | e
      · lia
      · obtain ⟨c, hc⟩ := S.ch.1.sl (p.2 - 1) (by lia)
        have := lt_of_get hc
        lia
  · rw [if_neg h]
    cases D with
    | nil =>
      cases C with
      | nil => exact ⟨fun _ h => (nomatch h), fun _ h => (nomatch h), Nat.zero_le _⟩
      | cons p r => exact absurd (Int.lt_of_lt_of_le (by decide : (-1 : Int) < 0) (Int.natCast_nonneg p.1)) h
    | cons d0 ds =>
      have hd : ∀ d ∈ d0 :: ds, d.b + d.n + 8 ≤ d0.b + d0.n + 8 := fun d hd => chs_top S.cs hd
      refine ⟨fun q hq => (mem_allE.mp hq).elim (fun hq => ?_) fun ⟨d, hd', hq⟩ => env (fun d hd' => low (hd d hd')) d hd' q hq, hd, lt_of_get S.cs.1.b0⟩
      cases C with
      | nil => cases hq
      | cons p r =>
        have h1 := chain_top S.ch hq
        have h2 : ¬(d0.b : Int) < p.1 := h
        have h3 := S.sep p (mem_allE.mpr (.inl List.mem_cons_self)) d0 List.mem_cons_self
        show q.1 + 2 + q.2 ≤ d0.b + d0.n + 8
        lia
theorem ovl_low {st : List SV} {t i : Nat} {vs : List SV} (hl : t ≤ st.length) (hi : i < t) : (ovl st t vs)[i]? = st[i]? := by
  unfold ovl
  rw [List.append_assoc, List.getElem?_append_left (by rw [List.length_take]; lia), List.getElem?_take_of_lt hi]
theorem InvS.above {st : List SV} {C : List (Nat × Nat)} {D : List Ch} {tr : List Int} (S : InvS st C D tr) {vs : List SV} : InvS (ovl st (topOf C D) vs) C D tr := by
  obtain ⟨h1, h2, h3⟩ := S.top
  have lk : Like (topOf C D) st (ovl st (topOf C D) vs) := .of_eq fun i hi => ovl_low h3 hi
  refine ⟨S.ch.like lk fun p hp => h1 p (mem_allE.mpr (.inl hp)), S.cs.like lk h2, S.sep, fun x hx hn => Int.lt_of_lt_of_le (S.tr1 x hx hn) (Int.ofNat_le.mpr (ovl_len h3).2.1), fun d hd s hs => (S.tr3 d hd s hs).imp id fun ⟨a, c, e⟩ => ⟨a, (lk s (by have := h2 d hd; lia)).2 c e⟩⟩
theorem InvV.above {st : List SV} {heap : List Cell} {C : List (Nat × Nat)} {D : List Ch} {tr : List Int} (V : InvV st heap C D tr) (S : InvS st C D tr) {vs : List SV} : InvV (ovl st (topOf C D) vs) heap C D tr := by
  have x1_ := S.top; have h1 := x1_.1; have h2 := x1_.2.1; have h3 := x1_.2.2
  refine ⟨fun p hp j hj => let ⟨c, e, k⟩ := V.slot p hp j hj; ⟨c, (ovl_low h3 (by have := h1 p hp; lia)).trans e, k⟩, fun d hd j hj => let ⟨c, e, k⟩ := V.args d hd j hj; ⟨c, (ovl_low h3 (by have := h2 d hd; lia)).trans e, k⟩⟩
theorem Inv.pushE {M : St} {C : List (Nat × Nat)} {D : List Ch} {cs : List Cell} {n : Nat} (I : Inv M C D) (hn : n ≤ cs.length) (h3 : cs.length ≤ 3) (hc : ∀ c ∈ cs, okc M.heap (bnd M.heap D) c) :
    Inv (((M.wS (ovl M.stack (topOf C D) ([.i M.e, .i M.cp] ++ cs.map SV.c))).wE (topOf C D)).wC ((n : Int) + 1)) ((topOf C D, n) :: C) D := by
  have x2_ := I.S.top; have h1 := x2_.1; have h2 := x2_.2.1; have hl := x2_.2.2
  have S' := I.S.above (vs := [.i M.e, .i M.cp] ++ cs.map SV.c)
  have V' := I.V.above I.S (vs := [.i M.e, .i M.cp] ++ cs.map SV.c)
  have hlen : ([SV.i M.e, .i M.cp] ++ cs.map SV.c).length = 2 + cs.length := by rw [List.length_append, List.length_map]; rfl
  have g : ∀ j, j < cs.length → ∃ c, (ovl M.stack (topOf C D) ([.i M.e, .i M.cp] ++ cs.map SV.c))[topOf C D + 2 + j]? = some (.c c) ∧ okc M.heap (bnd M.heap D) c := fun j hj => by
    refine ⟨cs[j], ?_, hc _ (List.getElem_mem hj)⟩
    rw [Nat.add_assoc, ovl_get hl (by rw [hlen]; lia)]
    exact (get_app (l := [SV.i M.e, .i M.cp]) (i := j) (by rw [List.getElem?_map, List.getElem?_eq_getElem hj]; rfl))
  have hE : ∀ {p}, p ∈ allE ((topOf C D, n) :: C) D → p = (topOf C D, n) ∨ p ∈ allE C D := fun hp => (mem_allE.mp hp).elim (fun hp => (List.mem_cons.mp hp).imp id fun hp => mem_allE.mpr (.inl hp)) fun hp => .inr (mem_allE.mpr (.inr hp))
  refine ⟨rfl, rfl, I.b, I.hb, I.bb, I.H, ⟨⟨⟨Nat.le_trans hn h3, fun j hj => let ⟨c, e, _⟩ := g j (Nat.lt_of_lt_of_le hj hn); ⟨c, e⟩, fun q hq => h1 q (mem_allE.mpr (.inl hq)), ?_, ?_⟩, S'.ch⟩, S'.cs, fun p hp d hd => ?_, S'.tr1, S'.tr3⟩, ⟨fun p hp j hj => ?_, V'.args⟩⟩
  · exact (ovl_get (j := 0) hl (by rw [hlen]; lia)).trans (congrArg (fun x => some (SV.i x)) I.e)
  · exact (ovl_get (j := 1) hl (by rw [hlen]; lia)).trans (congrArg (fun x => some (SV.i x)) I.cp)
  · rcases hE hp with rfl | hp
    · exact .inl (h2 d hd)
    · exact I.S.sep p hp d hd
  · rcases hE hp with rfl | hp
    · refine e1a2 (g j (Nat.lt_of_lt_of_le hj hn)) fun c e o => ?_
      exact ⟨c, e, .inr o, fun d hd hlt => by have := h2 d hd; simp only at hlt; lia⟩
    · exact V'.slot p hp j hj
end Mine
end
section
open PySem.Calls
set_option tactic.hygienic false
namespace Mine
theorem noptr1 {v : Int} : ¬ptr (1, v) := fun h => by rcases h with h | h | h <;> exact absurd h (by decide : ¬(1 : Int) = _)
theorem Inv.pushC {M : St} {C : List (Nat × Nat)} {D : List Ch} {cs : List Cell} (I : Inv M C D) (h3 : cs.length ≤ 3) (hc : ∀ c ∈ cs, okc M.heap (bnd M.heap D) c) :
    Inv ((((M.wS (ovl M.stack (topOf C D) (frm cs M.e M.cp M.b M.trail.length M.heap.length))).wB (topOf C D)).wh M.heap.length).wb (topOf C D)) C (⟨topOf C D, cs.length, M.trail.length, M.heap.length, C⟩ :: D) := by
  have x1_ := I.S.top; have h1 := x1_.1; have h2 := x1_.2.1; have hl := x1_.2.2
  have S' := I.S.above (vs := frm cs M.e M.cp M.b M.trail.length M.heap.length)
  have V' := I.V.above I.S (vs := frm cs M.e M.cp M.b M.trail.length M.heap.length)
  have hlen : (frm cs M.e M.cp M.b M.trail.length M.heap.length).length = cs.length + 8 := by unfold frm; rw [List.length_append, List.length_cons, List.length_map]; rfl
  have g : ∀ {k : Nat} {v : SV}, [SV.i M.e, .i M.cp, .i M.b, .i 2, .i M.trail.length, .i M.heap.length, .i (-1)][k]? = some v → (ovl M.stack (topOf C D) (frm cs M.e M.cp M.b M.trail.length M.heap.length))[topOf C D + cs.length + (1 + k)]? = some v := fun {k v} e => by
    have z := frm_get (cs := cs) e
    have z2 := lt_of_get z
    rw [Nat.add_assoc, ← Nat.add_assoc cs.length 1 k, ovl_get hl z2]; exact z
  have ga : ∀ j, j < cs.length → ∃ c, (ovl M.stack (topOf C D) (frm cs M.e M.cp M.b M.trail.length M.heap.length))[topOf C D + 1 + j]? = some (.c c) ∧ c ∈ cs := fun j hj => by
    refine ⟨cs[j], ?_, List.getElem_mem hj⟩
    rw [Nat.add_assoc, ovl_get hl (by rw [hlen]; lia)]
    unfold frm
    rw [List.getElem?_append_left (by rw [List.length_cons, List.length_map]; lia), Nat.add_comm 1 j, List.getElem?_cons_succ, List.getElem?_map, List.getElem?_eq_getElem hj]; rfl
  have hE : ∀ {p}, p ∈ allE C (⟨topOf C D, cs.length, M.trail.length, M.heap.length, C⟩ :: D) → p ∈ allE C D := fun hp => (mem_allE.mp hp).elim (fun hp => mem_allE.mpr (.inl hp)) fun ⟨d, hd, hp⟩ =>
    (List.mem_cons.mp hd).elim (fun e => mem_allE.mpr (.inl (by rw [e] at hp; exact hp))) fun hd => mem_allE.mpr (.inr ⟨d, hd, hp⟩)
  -- no cell in use points behind the heap
  have inH : ∀ {c}, okc M.heap (bnd M.heap D) c → ptr c → c.2 < M.heap.length := fun h hp => let z := okc_lt h hp; (Int.toNat_lt z.1).mp z.2
  have hB : ∀ h ∈ bnd M.heap (⟨topOf C D, cs.length, M.trail.length, M.heap.length, C⟩ :: D), h ∈ bnd M.heap D := fun h hh => (List.mem_cons.mp hh).elim (fun e => e ▸ List.mem_cons_self) fun hh => hh
  have H := I.H
  refine ⟨I.e, I.cp, rfl, rfl, rfl, ⟨⟨Nat.le_refl _, Nat.le_refl _, H.three, H.mono⟩, H.three, fun a c e => ?_, H.tr1, fun d hd x hx h0 => ?_⟩,
    ⟨S'.ch, ⟨⟨h3, ?_, fun j hj => let ⟨c, e, _⟩ := ga j hj; ⟨c, e⟩, fun p hp => h1 p (mem_allE.mpr (.inl hp)), h2, ?_, ?_, ?_, g (k := 4) rfl, g (k := 5) rfl, g (k := 6) rfl, S'.ch⟩, S'.cs⟩, fun p hp d hd => ?_, S'.tr1, fun d hd s hs => ?_⟩,
    ⟨fun p hp j hj => ?_, fun d hd j hj => ?_⟩⟩
  · rcases H.cell a c e with ⟨k1, k2, k3⟩ | ⟨k1, k2, k3⟩
    · exact .inl ⟨k1, k2, fun h hh => k3 h (hB h hh)⟩
    · exact .inr ⟨okc_sub hB k1, k2, fun d hd x1 x2 x3 => (List.mem_cons.mp hd).elim (fun e => by rw [e] at x3; exact absurd (inH k1 x2) (Int.not_lt.mpr x3)) fun hd => k3 d hd x1 x2 x3⟩
  · rcases List.mem_cons.mp hd with rfl | hd
    · refine e1a2 (H.tr1 x (List.mem_of_mem_take hx) h0) fun c e _ => ?_
      exact (Int.toNat_lt h0).mp (lt_of_get e)
    · exact H.tr2 d hd x hx h0
  · exact (ovl_get (j := 0) hl (by rw [hlen]; lia)).trans rfl
  · exact (g (k := 0) rfl).trans (congrArg (fun x => some (SV.i x)) I.e)
  · exact (g (k := 1) rfl).trans (congrArg (fun x => some (SV.i x)) I.cp)
  · exact (g (k := 2) rfl).trans (congrArg (fun x => some (SV.i x)) I.b)
  · rcases List.mem_cons.mp hd with rfl | hd
    · exact .inr (h1 p (hE hp))
    · exact I.S.sep p (hE hp) d hd
  · rcases List.mem_cons.mp hd with rfl | hd
    · have hs : (-1 - (s : Int)) ∈ M.trail.drop M.trail.length := hs
      rw [List.drop_length] at hs; cases hs
    · exact S'.tr3 d hd s hs
  · refine e1a3 (V'.slot p (hE hp) j hj) fun c e o k => ?_
    refine ⟨c, e, o.imp id (okc_sub hB), fun d hd x1 x2 x3 => (List.mem_cons.mp hd).elim (fun e2 => ?_) fun hd => k d hd x1 x2 x3⟩
    rw [e2] at x3
    rcases o with o | o
    · rw [o] at x2; exact absurd x2 noptr1
    · exact absurd (inH o x2) (Int.not_lt.mpr x3)
  · rcases List.mem_cons.mp hd with rfl | hd
    · refine e1a2 (ga j hj) fun c e hm => ?_
      exact ⟨c, e, okc_sub hB (hc c hm), fun hp => inH (hc c hm) hp⟩
    · refine e1a3 (V'.args d hd j hj) fun c e o k => ?_
      exact ⟨c, e, okc_sub hB o, k⟩
theorem Inv.popE {M : St} {p : Nat × Nat} {C : List (Nat × Nat)} {D : List Ch} (I : Inv M (p :: C) D) : Inv ((M.wC (cpOf C)).wE (eOf C)) C D := by
  have hE : ∀ {q}, q ∈ allE C D → q ∈ allE (p :: C) D := fun hq => (mem_allE.mp hq).elim (fun hq => mem_allE.mpr (.inl (.tail _ hq))) fun hq => mem_allE.mpr (.inr hq)
  exact ⟨rfl, rfl, I.b, I.hb, I.bb, I.H, ⟨I.S.ch.2, I.S.cs, fun q hq => I.S.sep q (hE hq), I.S.tr1, I.S.tr3⟩, ⟨fun q hq => I.V.slot q (hE hq), I.V.args⟩⟩
theorem Inv.cut {M : St} {C : List (Nat × Nat)} {d : Ch} {D : List Ch} (I : Inv M C (d :: D)) : Inv (((M.wB (bOf D)).wh (hbOf D)).wb (bbOf D)) C D := by
  have hE : ∀ {q}, q ∈ allE C D → q ∈ allE C (d :: D) := fun hq => (mem_allE.mp hq).elim (fun hq => mem_allE.mpr (.inl hq)) fun ⟨x, hx, hq⟩ => mem_allE.mpr (.inr ⟨x, .tail _ hx, hq⟩)
  have hB : ∀ h ∈ bnd M.heap D, h ∈ bnd M.heap (d :: D) := fun h hh => (List.mem_cons.mp hh).elim (fun e => e ▸ List.mem_cons_self) fun hh => .tail _ (.tail _ hh)
  refine ⟨I.e, I.cp, rfl, rfl, rfl, ⟨I.H.mono.2.2.2.up I.H.mono.1 I.H.mono.2.1, I.H.three, fun a c e => ?_, I.H.tr1, fun x hx => I.H.tr2 x (.tail _ hx)⟩, ⟨I.S.ch, I.S.cs.2, fun q hq x hx => I.S.sep q (hE hq) x (.tail _ hx), I.S.tr1, fun x hx => I.S.tr3 x (.tail _ hx)⟩,
    ⟨fun q hq j hj => let ⟨c, e, o, k⟩ := I.V.slot q (hE hq) j hj; ⟨c, e, o.imp id (okc_sub hB), fun x hx => k x (.tail _ hx)⟩, fun x hx j hj => let ⟨c, e, o, k⟩ := I.V.args x (.tail _ hx) j hj; ⟨c, e, okc_sub hB o, k⟩⟩⟩
  exact (I.H.cell a c e).imp (fun ⟨k1, k2, k3⟩ => ⟨k1, k2, fun h hh => k3 h (hB h hh)⟩) fun ⟨k1, k2, k3⟩ => ⟨okc_sub hB k1, k2, fun x hx => k3 x (.tail _ hx)⟩
theorem Inv.write {M : St} {p : Nat × Nat} {C : List (Nat × Nat)} {D : List Ch} {j : Nat} {x : Cell} {tr' : List Int} (I : Inv M (p :: C) D) (hj : j < p.2) (hx : okc M.heap (bnd M.heap D) x) (htr : (if ((p.1 + 2 + j : Nat) : Int) < M.bb then M.trail ++ [-1 - ((p.1 + 2 + j : Nat) : Int)] else M.trail) = tr') :
    Inv ((M.wT tr').wS (M.stack.set (p.1 + 2 + j) (.c x))) (p :: C) D := by
  have hp : p ∈ allE (p :: C) D := mem_allE.mpr (.inl List.mem_cons_self)
  refine e1a1 (I.S.ch.1.sl j hj) fun c0 hc0 => ?_
  generalize hi : p.1 + 2 + j = i at hc0 htr ⊢
  have il := lt_of_get hc0
  have t1 : tr' = M.trail ∨ tr' = M.trail ++ [-1 - (i : Int)] := by rw [← htr]; split; exact .inr rfl; exact .inl rfl
  have t2 : ∀ d ∈ D, d.tr ≤ M.trail.length := fun d hd => (I.H.mono.all d hd).1
  have t3 : ∀ d ∈ D, ∀ y ∈ M.trail.drop d.tr, y ∈ tr'.drop d.tr := fun d hd y hy => t1.elim (fun e => e ▸ hy) fun e => by rw [e, List.drop_append_of_le_length (t2 d hd)]; exact List.mem_append_left _ hy
  have t4 : ∀ d ∈ D, i < d.b → (-1 - (i : Int)) ∈ tr'.drop d.tr := fun d hd hh => by
    have hbb : (i : Int) < M.bb := by
      rw [I.bb]
      cases D with
      | nil => cases hd
      | cons d0 r =>
        refine Int.ofNat_lt.mpr ((List.mem_cons.mp hd).elim (fun e => e ▸ hh) fun hd => Nat.lt_of_lt_of_le hh ?_)
        have := I.S.cs.1.sep d hd; lia
    rw [← htr, if_pos hbb, List.drop_append_of_le_length (t2 d hd)]
    exact List.mem_append_right _ List.mem_cons_self
  have t5 : ∀ d ∈ D, tr'.take d.tr = M.trail.take d.tr := fun d hd => t1.elim (fun e => e ▸ rfl) fun e => by rw [e, List.take_append_of_le_length (t2 d hd)]
  have t6 : ∀ y ∈ tr', y ∈ M.trail ∨ y = -1 - (i : Int) := fun y hy => t1.elim (fun e => .inl (e ▸ hy)) fun e => by rw [e] at hy; exact (List.mem_append.mp hy).imp id List.mem_singleton.mp
  have t7 : ∀ d ∈ D, ∀ y ∈ tr'.drop d.tr, y ∈ M.trail.drop d.tr ∨ y = -1 - (i : Int) := fun d hd y hy => t1.elim (fun e => .inl (e ▸ hy)) fun e => by
    rw [e, List.drop_append_of_le_length (t2 d hd)] at hy
    exact (List.mem_append.mp hy).imp id List.mem_singleton.mp
  have t8 : M.trail.length ≤ tr'.length := t1.elim (fun e => Nat.le_of_eq (by rw [e])) fun e => by rw [e, List.length_append]; exact Nat.le_add_right ..
  have sub : ∀ {k : Nat}, k ≠ i → (M.stack.set i (.c x))[k]? = M.stack[k]? := fun hk => List.getElem?_set_ne (Ne.symm hk)
  have lk : ∀ t, Like t M.stack (M.stack.set i (.c x)) := fun t k _ => by
    by_cases h : k = i
    · subst h; exact ⟨fun m e => (nomatch hc0.symm.trans e), fun c e => ⟨x, List.getElem?_set_self il⟩⟩
    · exact ⟨fun m e => (sub h).trans e, fun c e => ⟨c, (sub h).trans e⟩⟩
  have side : ∀ d ∈ D, d.b + d.n + 8 ≤ i ∨ i < d.b := fun d hd => (I.S.sep p hp d hd).imp (fun h => by lia) fun h => by lia
  have x7_ := I.S.top; have b1 := x7_.1; have b2 := x7_.2.1; have b3 := x7_.2.2
  have ok : ∀ {c}, okc M.heap (bnd M.heap D) c → okc M.heap (bnd M.heap D) c := id
  refine ⟨I.e, I.cp, I.b, I.hb, I.bb, ⟨I.H.mono.up t8 (Nat.le_refl _), I.H.three, fun a c e => hOk_keep ⟨Nat.le_refl _, fun a x e => ⟨x, e, Iff.rfl⟩⟩ (lt_of_get e) t3 (I.H.cell a c e), fun y hy h0 => ?_, fun d hd y hy => ?_⟩,
    ⟨I.S.ch.like (lk _) fun q hq => b1 q (mem_allE.mpr (.inl hq)), I.S.cs.like (lk _) b2, I.S.sep, fun y hy hn => ?_, fun d hd s hs => ?_⟩, ⟨fun q hq k hk => ?_, fun d hd k hk => ?_⟩⟩
  · exact I.H.tr1 y ((t6 y hy).resolve_right fun e => by lia) h0
  · have hy : y ∈ tr'.take d.tr := hy
    rw [t5 d hd] at hy; exact I.H.tr2 d hd y hy
  · show -1 - y < ((M.stack.set i (.c x)).length : Nat)
    rw [List.length_set]
    rcases t6 y hy with h | h
    · exact I.S.tr1 y h hn
    · lia
  · rcases t7 d hd _ hs with h | h
    · exact (I.S.tr3 d hd s h).imp id fun ⟨a, c, e⟩ => ⟨a, (lk _ s (Nat.lt_succ_self s)).2 c e⟩
    · have : s = i := by lia
      subst this
      exact (side d hd).imp id fun a => ⟨a, x, List.getElem?_set_self il⟩
  · by_cases h : q.1 + 2 + k = i
    · rw [h]
      exact ⟨x, List.getElem?_set_self il, .inr hx, fun d hd hlt _ _ => t4 d hd hlt⟩
    · refine e1a3 (I.V.slot q hq k hk) fun c e o z => ?_
      exact ⟨c, (sub h).trans e, o, fun d hd x1 x2 x3 => t3 d hd _ (z d hd x1 x2 x3)⟩
  · refine e1a2 (I.V.args d hd k hk) fun c e o => ?_
    exact ⟨c, (sub (by have := side d hd; lia)).trans e, o⟩
end Mine
end
section
open PySem.Calls
set_option tactic.hygienic false
namespace Mine
theorem drop_sub {l : List Int} {m n : Nat} (h : m ≤ n) {x : Int} (hx : x ∈ l.drop n) : x ∈ l.drop m := by
  have e : l.drop n = (l.drop m).drop (n - m) := by rw [List.drop_drop, Nat.add_sub_cancel' h]
  rw [e] at hx; exact List.mem_of_mem_drop hx
theorem take_drop_sub {l : List Int} {m n : Nat} {x : Int} (hx : x ∈ (l.take n).drop m) : x ∈ l.drop m := by
  rw [List.drop_take] at hx; exact List.mem_of_mem_take hx
theorem take_drop_in {l : List Int} {m n : Nat} {x : Int} (hx : x ∈ l.drop m) (hn : x ∉ l.drop n) : x ∈ (l.take n).drop m := by
  have e : l.drop m = (l.take n).drop m ++ (l.drop n).drop (m - (l.take n).length) := by
    conv => lhs; rw [← List.take_append_drop n l]
    rw [List.drop_append]
  rw [e] at hx
  exact (List.mem_append.mp hx).resolve_right fun h => hn (List.mem_of_mem_drop h)
theorem unH_get {u : List Int} {h : List Cell} {a : Nat} : (unH u h)[a]? = (h[a]?).map fun c => if (a : Int) ∈ u then (0, (a : Int)) else c := by unfold unH; rw [List.getElem?_mapIdx]
theorem unS_at {u : List Int} {st : List SV} {s : Nat} {v : SV} (e : st[s]? = some v) : (unS u st)[s]? = some (if (-1 - (s : Int)) ∈ u then .c (1, (s : Int)) else v) := by unfold unS; rw [List.getElem?_mapIdx, e]; rfl
theorem Inv.frame {M : St} {C : List (Nat × Nat)} {d : Ch} {D : List Ch} (I : Inv M C (d :: D)) : ∀ k, k < d.n + 8 → (-1 - ((d.b + k : Nat) : Int)) ∉ M.trail.drop d.tr := fun k hk h =>
  (I.S.tr3 d List.mem_cons_self _ h).elim (fun h => by lia) fun ⟨h, _⟩ => by lia
noncomputable def backH (M : St) (d : Ch) : List Cell := (unH (M.trail.drop d.tr) M.heap).take d.hp
theorem Inv.backLen {M : St} {C : List (Nat × Nat)} {d : Ch} {D : List Ch} (I : Inv M C (d :: D)) : (backH M d).length = d.hp := by unfold backH; rw [List.length_take, len_unH]; exact Nat.min_eq_left I.H.mono.2.1
theorem backH_get {M : St} {d : Ch} {a : Nat} {x : Cell} (ha : a < d.hp) (e : M.heap[a]? = some x) : (backH M d)[a]? = some (if (a : Int) ∈ M.trail.drop d.tr then (0, (a : Int)) else x) := by
  unfold backH; rw [List.getElem?_take_of_lt ha, unH_get, e]; rfl
theorem Inv.backKeep {M : St} {C : List (Nat × Nat)} {d : Ch} {D : List Ch} (I : Inv M C (d :: D)) {a : Nat} {x : Cell} (ha : a < d.hp) (e : M.heap[a]? = some x) : ∃ x', (backH M d)[a]? = some x' ∧ (x'.1 = 6 ↔ x.1 = 6) := by
  refine ⟨_, backH_get ha e, ?_⟩
  split
  · rename_i h
    refine e1a2 (I.H.tr1 _ (List.mem_of_mem_drop h) (Int.natCast_nonneg a)) fun c h1 h2 => ?_
    rw [show ((a : Int)).toNat = a from rfl, e] at h1; cases h1
    exact ⟨fun h => absurd h (by decide : ¬(0 : Int) = 6), fun h => absurd h h2⟩
  · exact Iff.rfl
theorem Inv.backBnd {M : St} {C : List (Nat × Nat)} {d : Ch} {D : List Ch} (I : Inv M C (d :: D)) : ∀ h ∈ bnd (backH M d) (d :: D), h ∈ bnd M.heap (d :: D) := fun h hh =>
  (List.mem_cons.mp hh).elim (fun e => by rw [e, I.backLen]; exact .tail _ List.mem_cons_self) fun hh => .tail _ hh
theorem Inv.backOk {M : St} {C : List (Nat × Nat)} {d : Ch} {D : List Ch} (I : Inv M C (d :: D)) {c : Cell} (o : okc M.heap (bnd M.heap (d :: D)) c) (hp : ptr c → c.2 < d.hp) : okc (backH M d) (bnd (backH M d) (d :: D)) c :=
  okc_map o (fun hc _ e => I.backKeep ((Int.toNat_lt (okc_lt o hc).1).mpr (hp hc)) e) fun _ h hh => ⟨h, I.backBnd h hh, Nat.le_refl _, id⟩
theorem Inv.restore {M : St} {C : List (Nat × Nat)} {d : Ch} {D : List Ch} {X : List Cell} (I : Inv M C (d :: D)) :
    Inv ((((((M.wX X).wE (eOf d.env)).wC (cpOf d.env)).wT (M.trail.take d.tr)).wS (unS (M.trail.drop d.tr) M.stack)).wH (backH M d)) d.env (d :: D) := by
  have dm : d ∈ d :: D := List.mem_cons_self
  have hm := I.H.mono
  have hle : ∀ x ∈ d :: D, x.tr ≤ d.tr ∧ x.hp ≤ d.hp := fun x hx => (List.mem_cons.mp hx).elim (fun e => e ▸ ⟨Nat.le_refl _, Nat.le_refl _⟩) fun hx => let z := hm.2.2.2.all x hx; ⟨z.1, z.2.1⟩
  have hhp : d.hp ≤ M.heap.length := hm.2.1
  have htl : (M.trail.take d.tr).length = d.tr := by rw [List.length_take]; exact Nat.min_eq_left hm.1
  have hE : ∀ {p}, p ∈ allE d.env (d :: D) → ∃ x ∈ d :: D, p ∈ x.env := fun hp => (mem_allE.mp hp).elim (fun hp => ⟨d, dm, hp⟩) id
  have hE2 : ∀ {p}, p ∈ allE d.env (d :: D) → p ∈ allE C (d :: D) := fun hp => mem_allE.mpr (.inr (hE hp))
  have hbl : ∀ x ∈ d :: D, x.b ≤ d.b := fun x hx => (List.mem_cons.mp hx).elim (fun e => e ▸ Nat.le_refl _) fun hx => by have := I.S.cs.1.sep x hx; lia
  have hpos : ∀ {p}, p ∈ allE d.env (d :: D) → p.1 + 2 + p.2 ≤ d.b := fun hp => let ⟨x, hx, hpx⟩ := hE hp; let ⟨_, k⟩ := chs_env I.S.cs x hx; Nat.le_trans (k.env _ hpx) (hbl x hx)
  have lk : Like (d.b + d.n + 8) M.stack (unS (M.trail.drop d.tr) M.stack) := fun i hi => by
    refine ⟨fun k e => ?_, fun c e => ?_⟩
    · rw [unS_at e]
      refine congrArg some (if_neg fun h => ?_)
      rcases I.S.tr3 d dm i h with h | ⟨_, c, h⟩
      · lia
      · rw [e] at h; cases h
    · rw [unS_at e]; split
      · exact ⟨_, rfl⟩
      · exact ⟨_, rfl⟩
  have env : ∀ p ∈ d.env, p.1 + 2 + p.2 ≤ d.b + d.n + 8 := fun p hp => Nat.le_trans (hpos (mem_allE.mpr (.inl hp))) (by lia)
  refine ⟨rfl, rfl, I.b, I.hb, I.bb, ⟨⟨Nat.le_of_eq htl.symm, Nat.le_of_eq I.backLen.symm, hm.2.2⟩, Nat.le_trans hm.2.2.1 (Nat.le_of_eq I.backLen.symm), fun a c e => ?_, fun x hx h0 => ?_, fun x hx y hy h0 => ?_⟩,
    ⟨I.S.cs.1.ch.like lk env, I.S.cs.like lk fun x hx => chs_top I.S.cs hx, fun p hp => I.S.sep p (hE2 hp), fun x hx hn => ?_, fun x hx s hs => ?_⟩, ⟨fun p hp j hj => ?_, fun x hx j hj => ?_⟩⟩
  · have e : (backH M d)[a]? = some c := e
    have ha : a < d.hp := by rw [← I.backLen]; exact lt_of_get e
    have hx : M.heap[a]? = some M.heap[a] := List.getElem?_eq_getElem (Nat.lt_of_lt_of_le ha hhp)
    have e2 := backH_get ha hx
    rw [e] at e2
    have e2 := Option.some.inj e2
    split at e2
    · subst e2
      exact .inr ⟨okc_var e, fun _ => Int.le_refl _, fun x hx h1 _ h3 => absurd (Int.ofNat_le.mp h3) (Nat.not_le.mpr h1)⟩
    · rename_i hu
      rw [← e2] at hx
      rcases I.H.cell a c hx with ⟨k1, k2, k3⟩ | ⟨k1, k2, k3⟩
      · exact .inl ⟨k1, k2, fun h hh => k3 h (I.backBnd h hh)⟩
      · exact .inr ⟨I.backOk k1 fun hp => Int.not_le.mp fun hc => hu (k3 d dm ha hp hc), k2, fun x hx x1 x2 x3 => take_drop_in (k3 x hx x1 x2 x3) hu⟩
  · have hlt := I.H.tr2 d dm x hx h0
    refine e1a2 (I.H.tr1 x (List.mem_of_mem_take hx) h0) fun c h1 h2 => ?_
    refine e1a2 (I.backKeep ((Int.toNat_lt h0).mpr hlt) h1) fun c' h3 h4 => ?_
    exact ⟨c', h3, fun h => h2 (h4.mp h)⟩
  · have hy : y ∈ (M.trail.take d.tr).take x.tr := hy
    rw [List.take_take, Nat.min_eq_left (hle x hx).1] at hy
    exact I.H.tr2 x hx y hy h0
  · show -1 - x < ((unS _ _).length : Nat)
    rw [len_unS]; exact I.S.tr1 x (List.mem_of_mem_take hx) hn
  · exact (I.S.tr3 x hx s (take_drop_sub hs)).imp id fun ⟨a, c, e⟩ => ⟨a, (lk s (by have := hbl x hx; lia)).2 c e⟩
  · have hlt : p.1 + 2 + j < d.b := Nat.lt_of_lt_of_le (Nat.add_lt_add_left hj _) (hpos hp)
    refine e1a3 (I.V.slot p (hE2 hp) j hj) fun c e o k => ?_
    generalize p.1 + 2 + j = s at hlt e o k ⊢
    have e2 := unS_at (u := M.trail.drop d.tr) e
    split at e2
    · exact ⟨_, e2, .inl rfl, fun x hx _ hp => absurd hp noptr1⟩
    · rename_i hu
      exact ⟨c, e2, o.imp id fun o => I.backOk o fun hp => Int.not_le.mp fun hc => hu (k d dm hlt hp hc), fun x hx x1 x2 x3 => take_drop_in (k x hx x1 x2 x3) hu⟩
  · refine e1a3 (I.V.args x hx j hj) fun c e o k => ?_
    refine ⟨c, (unS_get fun h => ?_).trans e, I.backOk o fun hp => Int.lt_of_lt_of_le (k hp) (Int.ofNat_le.mpr (hle x hx).2), k⟩
    rcases I.S.tr3 x hx _ (drop_sub (hle x hx).1 h) with h | ⟨h, _⟩ <;> lia
end Mine
end
section
open PySem.Calls
namespace Mine
theorem Inv.row {M : St} {C : List (Nat × Nat)} {D : List Ch} {r : List Int} (I : Inv M C D) : Inv (M.wR r) C D := ⟨I.e, I.cp, I.b, I.hb, I.bb, I.H, I.S, I.V⟩
structure Bd (M : St) (C : List (Nat × Nat)) (D : List Ch) (k : Nat) : Prop where
  heap : M.heap.length ≤ 3 + 3 * k
  stack : M.stack.length ≤ 20 * k
  trail : M.trail.length ≤ k
  lC : C.length ≤ k
  lD : D.length ≤ k
  env : ∀ d ∈ D, d.env.length ≤ k
  x : M.x.length ≤ 4
noncomputable def mem0 : List Cell := [(4, 0), (0, ((0 : Nat) : Int)), (0, ((1 : Nat) : Int)), (0, ((2 : Nat) : Int))]
structure Pk (cd p : Addr) (M : St) (C : List (Nat × Nat)) (D : List Ch) (pool : List Cell) (k : Nat) (T : Tm) : Prop where
  I : Inv M C D
  row : RowOk M.row
  B : Bd M C D k
  hT : Code T cd
  pc : p ≠ cd
  hp : T p = some (.list (pool.map cA))
  ok : ∀ x ∈ pool, okc M.heap (bnd M.heap D) x ∨ (ptr x ∧ (M.heap.length : Int) ≤ x.2)
  mem : ∀ x ∈ mem0, x ∈ pool
  len : pool.length ≤ 5 + 2 * k
  rt : M.roots = [(0, 0), (0, 1), (0, 2), (5, 9)]
noncomputable def Full (M : St) (D : List Ch) (pool : List Cell) : Prop := ∀ x ∈ pool, okc M.heap (bnd M.heap D) x
theorem cp_rng {σ α : Type} {f : α → AV} {a : Int} {n : Nat} {acc : Addr} {cc : Cx} {elt : Loc → List AO → Tm → (AV → LT) → Prop} {rl : Loc} {w0 : Option AV} {K : LT} {T : Tm} {L : List AO} (Lf : σ → List AO) (I : Nat → List α → σ → Tm → Prop) (s0 : σ) (hL : L = Lf s0) (h : I 0 [] s0 T) (hT : T acc = some (.list [])) (hn : n < 1000000)
    (hI : ∀ j d s T o, I j d s T → I j d s (upd T acc o))
    (step : ∀ (j : Nat) d s T (P : AV → LT), j < n → I j d s T → T acc = some (.list (d.map f)) → (∀ x s' T', I (j + 1) (d ++ [x]) s' T' → T' acc = some (.list (d.map f)) → P (f x) (Lf s') T') → elt (some (iA (a + j)) :: rl) (Lf s) T P)
    (fin : ∀ d s T, I n d s T → T acc = some (.list (d.map f)) → K (Lf s) T) :
    wpCp acc false none (fun l' L2 T2 K => wpC cc .tt l' L2 T2 K) elt (rangeAV a n) [] (w0 :: rl) L T K := by
  have go : ∀ (m j : Nat) (d : List α) (w : Option AV) (s : σ) (T : Tm), j + m = n → d.length = j → I j d s T → T acc = some (.list (d.map f)) → wpCp acc false none (fun l' L2 T2 K => wpC cc .tt l' L2 T2 K) elt (rangeAV (a + j) m) (d.map f) (w :: rl) (Lf s) T K := by
    intro m
    induction m with
    | zero => intro j d w s T e hd h hT; subst e; exact ⟨hT, fin d s T h hT⟩
    | succ m ih =>
      intro j d w s T e hd h hT
      refine step j d s T _ (e ▸ Nat.lt_add_of_pos_right (Nat.succ_pos m)) h hT fun x s' T' h' hT' => ⟨hT', by rw [List.length_map, hd]; exact Nat.lt_trans (Nat.lt_of_lt_of_le (Nat.lt_add_of_pos_right (Nat.succ_pos m)) (Nat.le_of_eq e)) (Nat.lt_trans hn (by decide)), ?_⟩
      have z := ih (j + 1) (d ++ [x]) (some (iA (a + j))) s' (upd T' acc (.list ((d ++ [x]).map f))) ((Nat.succ_add_eq_add_succ j m).trans e) (by rw [List.length_append, hd]; rfl) (hI _ _ _ _ _ h') (upd_self ..)
      rw [Int.natCast_succ, ← Int.add_assoc, ← map_snoc] at z
      exact z
  have z := go n 0 [] w0 s0 T (Nat.zero_add n) rfl h hT
  rw [hL]
  rwa [show a + ((0 : Nat) : Int) = a from Int.add_zero a] at z
theorem w_ovlSet {st : List SV} {t : Nat} {A B : List SV} {x v : SV} (hl : t ≤ st.length) : (ovl st t (A ++ x :: B)).set (t + A.length) v = ovl st t (A ++ v :: B) := by
  have e : (st.take t ++ A).length = t + A.length := by rw [List.length_append, List.length_take, Nat.min_eq_left hl]
  unfold ovl
  have e2 : (A ++ x :: B).length = (A ++ v :: B).length := by rw [List.length_append, List.length_append]; rfl
  rw [e2, ← e, ← List.append_assoc, List.append_assoc _ (x :: B), List.cons_append, set_at, ← List.append_assoc, List.append_assoc _ (v :: B), List.cons_append]
section
variable {Y : Sy} {cd p : Addr} {M : St} {c : Cx} {T : Tm} {Q : AV → LT} (HS : SortOk)
include HS
theorem k_picks {n : Nat} {acc : Addr} {pool : List Cell} {w0 : Option AV} {cc : Cx} {K : LT} (h : 5 ≤ c.n) (hr : RowOk M.row) (hp : T p = some (.list (pool.map cA))) (hne : pool ≠ []) (ha : T acc = none) (hn : n < 1000000)
    (q : ∀ (cs : List Cell) r T', RowOk r → cs.length = n → (∀ x ∈ cs, x ∈ pool) → Ext T T' → T' acc = some (.list (cs.map cA)) → K (mkL Y cd (M.wR r)) T') :
    wpCp acc false none (fun l' L2 T2 K => wpC cc .tt l' L2 T2 K) (fun l' L2 T2 K => wpE c (.callF .law_pick (.cons (.loc 1) (.cons (.loc 2) .nil))) l' L2 T2 K) (rangeAV 0 n) [] [w0, some (.ref 0), some (.tmp p)] (mkL Y cd M) (upd T acc (.list [])) K := by
  refine cp_rng (σ := List Int) (f := cA) (fun s => mkL Y cd (M.wR s)) (fun j d s T' => Ext T T' ∧ RowOk s ∧ d.length = j ∧ ∀ x ∈ d, x ∈ pool) M.row rfl ⟨Ext.new ha, hr, rfl, fun _ h => nomatch h⟩ (upd_self ..) hn (fun j d s T' o hI => ⟨hI.1.set ha, hI.2⟩) ?_ fun d s T' hI hT => q d s T' hI.2.1 hI.2.2.1 hI.2.2.2 hI.1 hT
  intro j d s T' P hj hI hT k
  exact k_pick (M := M.wR s) HS (lv h) hI.2.1 (hI.1 _ _ hp) hne fun r x T2 hr' hx hE => k x r T2 ⟨hI.1.trans hE, hr', by rw [List.length_append, hI.2.2.1]; rfl, fun y hy => (List.mem_append.mp hy).elim (hI.2.2.2 y) fun e => by rw [List.mem_singleton.mp e]; exact hx⟩ (hE _ _ hT)
end
end Mine
end
section
open PySem.Calls
set_option tactic.hygienic false
namespace Mine
section
variable {Y : Sy} {cd p : Addr} {M M' : St} {C C' : List (Nat × Nat)} {D D' : List Ch} {pool : List Cell} {k : Nat} {c : Cx} {T T' : Tm} {K : Loc → LT} {R : AV → LT}
theorem Bd.up (B : Bd M C D k) : Bd M C D (k + 1) := ⟨Nat.le_trans B.heap (by lia), Nat.le_trans B.stack (by lia), Nat.le_succ_of_le B.trail, Nat.le_succ_of_le B.lC, Nat.le_succ_of_le B.lD, fun d hd => Nat.le_succ_of_le (B.env d hd), B.x⟩
theorem Pk.next (P : Pk cd p M C D pool k T) (I : Inv M' C' D') (hr : RowOk M'.row) (B : Bd M' C' D' (k + 1)) (hE : Ext T T') (rt : M'.roots = M.roots) (ok : ∀ x ∈ pool, okc M'.heap (bnd M'.heap D') x ∨ (ptr x ∧ (M'.heap.length : Int) ≤ x.2)) : Pk cd p M' C' D' pool (k + 1) T' :=
  ⟨I, hr, B, hE _ _ P.hT, P.pc, hE _ _ P.hp, ok, P.mem, Nat.le_trans P.len (by lia), rt.trans P.rt⟩
theorem Pk.add {x : Cell} (P : Pk cd p M C D pool k T) (h : okc M.heap (bnd M.heap D) x) (hl : pool.length + 1 ≤ 5 + 2 * k) : Pk cd p M C D (pool ++ [x]) k (upd T p (.list ((pool ++ [x]).map cA))) :=
  ⟨P.I, P.row, P.B, by have := P.hT; unfold Code at this ⊢; rw [upd_ne _ _ (Ne.symm P.pc)]; exact this, P.pc, upd_self .., fun y hy => (List.mem_append.mp hy).elim (P.ok y) fun e => by rw [List.mem_singleton.mp e]; exact .inl h, fun y hy => List.mem_append_left _ (P.mem y hy), by rw [List.length_append]; exact hl, P.rt⟩
theorem Pk.ne (P : Pk cd p M C D pool k T) : pool ≠ [] := fun e => by have := P.mem _ List.mem_cons_self; rw [e] at this; cases this
theorem Pk.same (P : Pk cd p M C D pool k T) (hE : Ext T T') {r : List Int} (hr : RowOk r) : Pk cd p (M.wR r) C D pool (k + 1) T' :=
  P.next P.I.row hr (let B := P.B.up; ⟨B.heap, B.stack, B.trail, B.lC, B.lD, B.env, B.x⟩) hE rfl P.ok
theorem fm_nat {v : Int} {n : Nat} (h : 0 ≤ v) (hn : 0 < n) : ∃ m : Nat, m < n ∧ v.fmod n = m := int_nat (fm_nn h) (fm_lt hn)
theorem Inv.seek (I : Inv M C D) : (∀ v, okc M.heap (bnd M.heap D) (0, v) → 0 ≤ v ∧ ∃ x, M.heap[v.toNat]? = some x ∧ okc M.heap (bnd M.heap D) x ∧ (x.1 = 0 → x.2 ≤ v)) ∧ ∀ v, ¬okc M.heap (bnd M.heap D) (1, v) := by
  refine ⟨fun v h => ?_, fun v h => (okc_tag h).2 rfl⟩
  rcases h with h | h | ⟨h0, x, e, h⟩
  · exact absurd h (by decide : ¬(0 : Int) = 4)
  · exact absurd h (by decide : ¬(0 : Int) = 5)
  · have ht : x.1 ≠ 6 := h.elim (·.2) fun h => h.elim (fun h => absurd h.1 (by decide : ¬(0 : Int) = 2)) fun h => absurd h.1 (by decide : ¬(0 : Int) = 3)
    refine ⟨h0, x, e, ?_⟩
    rcases I.H.cell _ x e with ⟨h1, _⟩ | ⟨h1, h2, _⟩
    · exact absurd h1 ht
    · exact ⟨h1, fun z => by have := h2 z; rwa [Int.toNat_of_nonneg h0] at this⟩
variable (HS : SortOk)
include HS
theorem step_6 (h : 5 ≤ c.n) (P : Pk cd p M C D pool k T) {kd : Int} (q : ∀ l M' C' D' pool' T', Pk cd p M' C' D' pool' (k + 1) T' → K l (mkL Y cd M') T') :
    wpS c b_law_step_6 [some (.ref 0), some (.ref 6), some (.tmp p), some (.ref 7), some (iA kd), none, none, none, none] (mkL Y cd M) T K R := by
  cases C with
  | nil => exact r_f (by rw [P.I.e]; decide) (q _ M [] D pool T (P.same (Ext.refl T) P.row))
  | cons e0 C =>
    refine r_t (by rw [P.I.e]; exact Int.natCast_nonneg _) (k_pop_environment HS (lv h) P.I.e P.I.S.ch.1 (q _ _ C D pool T (P.next P.I.popE P.row ?_ (Ext.refl T) rfl P.ok)))
    have B := P.B.up
    exact ⟨B.heap, B.stack, B.trail, Nat.le_trans (Nat.le_succ _) B.lC, B.lD, B.env, B.x⟩
theorem step_7 (h : 5 ≤ c.n) (P : Pk cd p M C D pool k T) {kd : Int} (q : ∀ l M' C' D' pool' T', Pk cd p M' C' D' pool' (k + 1) T' → K l (mkL Y cd M') T') :
    wpS c b_law_step_7 [some (.ref 0), some (.ref 6), some (.tmp p), some (.ref 7), some (iA kd), none, none, none, none] (mkL Y cd M) T K R := by
  cases D with
  | nil => exact r_f (by rw [P.I.b]; decide) (q _ M C [] pool T (P.same (Ext.refl T) P.row))
  | cons d D =>
    have hb := P.I.b
    have hlt : bOf D < M.b := by
      rw [hb]
      cases D with
      | nil => exact Int.lt_of_lt_of_le (by decide) (Int.natCast_nonneg d.b)
      | cons d' r => have := P.I.S.cs.1.sep d' List.mem_cons_self; exact Int.ofNat_lt.mpr (by lia)
    refine r_t (by rw [hb]; exact Int.natCast_nonneg _) (r_sx (n := d.b) hb P.I.S.cs.1.nn (r_sx (n := d.b + d.n + 3) (by rw [hb]; rfl) P.I.S.cs.1.pb (k_cut_back HS (lv h) hlt P.I.S.cs.2 (q _ _ C D pool T (P.next P.I.cut P.row ?_ (Ext.refl T) rfl fun x hx => (P.ok x hx).imp (okc_sub fun h hh => (List.mem_cons.mp hh).elim (fun e => e ▸ List.mem_cons_self) fun hh => .tail _ (.tail _ hh)) id)))))
    have B := P.B.up
    exact ⟨B.heap, B.stack, B.trail, B.lC, Nat.le_trans (Nat.le_succ _) B.lD, fun x hx => B.env x (.tail _ hx), B.x⟩
theorem step_8 (h : 5 ≤ c.n) (P : Pk cd p M C D pool k T) (hF : Full M D pool) (hk : k ≤ 30) {kd : Int} (q : ∀ l M' C' D' pool' T', Pk cd p M' C' D' pool' (k + 1) T' → K l (mkL Y cd M') T') :
    wpS c b_law_step_8 [some (.ref 0), some (.ref 6), some (.tmp p), some (.ref 7), some (iA kd), none, none, none, none] (mkL Y cd M) T K R := by
  cases D with
  | nil => exact r_f (by rw [P.I.b]; decide) (q _ M C [] pool T (P.same (Ext.refl T) P.row))
  | cons d D =>
    have I := P.I
    have hm := I.H.mono
    have B := P.B.up
    refine r_t (by rw [I.b]; exact Int.natCast_nonneg _) (k_restore_choice HS (lv h) I.b I.S.cs.1 B.x hm.1 (Nat.lt_of_le_of_lt hm.2.1 (Nat.lt_of_le_of_lt P.B.heap (by lia))) (fun x hx => ⟨fun h0 => ?_, I.S.tr1 x (List.mem_of_mem_drop hx)⟩) I.frame fun X hX => q _ _ d.env (d :: D) pool T (P.next (I.restore (X := X)) P.row ?_ (Ext.refl T) rfl fun x hx => ?_))
    · refine e1a2 (I.H.tr1 x (List.mem_of_mem_drop hx) h0) fun c e _ => ?_
      exact (Int.toNat_lt h0).mp (lt_of_get e)
    · refine ⟨Nat.le_trans (List.length_take_le' ..) (by rw [len_unH]; exact B.heap), by show (unS _ _).length ≤ _; rw [len_unS]; exact B.stack, Nat.le_trans (List.length_take_le' ..) B.trail, B.env d List.mem_cons_self, B.lD, B.env, hX⟩
    · by_cases hp : ptr x ∧ (d.hp : Int) ≤ x.2
      · exact .inr ⟨hp.1, Int.le_trans (Int.ofNat_le.mpr (Nat.le_of_eq I.backLen)) hp.2⟩
      · exact .inl (I.backOk (hF x hx) fun h1 => Int.not_le.mp fun h2 => hp ⟨h1, h2⟩)
end
end Mine
end
section
open PySem.Calls
namespace Mine
section
variable {Y : Sy} {cd p : Addr} {M M' : St} {C C' : List (Nat × Nat)} {D D' : List Ch} {pool : List Cell} {k : Nat} {c : Cx} {T T' : Tm} {K : Loc → LT} {R : AV → LT}
theorem Pk.in_ (P : Pk cd p M C D pool k T) (hE : Ext T T') {r : List Int} (hr : RowOk r) : Pk cd p (M.wR r) C D pool k T' :=
  ⟨P.I.row, hr, ⟨P.B.heap, P.B.stack, P.B.trail, P.B.lC, P.B.lD, P.B.env, P.B.x⟩, hE _ _ P.hT, P.pc, hE _ _ P.hp, P.ok, P.mem, P.len, P.rt⟩
theorem idx_last {α : Type} {f : α → AV} {l : List α} {x : α} : idx ((l ++ [x]).map f) (-1) = some (f x) := by
  have h1 : ((l ++ [x]).map f).length = l.length + 1 := by rw [List.length_map, List.length_append]; rfl
  unfold idx
  rw [if_neg (by decide), if_pos (by rw [h1]; lia), h1, show (((l.length + 1 : Nat) : Int) + -1).toNat = l.length from by lia, List.map_append, List.getElem?_append_right (by rw [List.length_map]; exact Nat.le_refl _), List.length_map, Nat.sub_self]; rfl
variable (HS : SortOk)
include HS
theorem step_2 (h : 8 ≤ c.n) (P : Pk cd p M C D pool k T) (hF : Full M D pool) (hk : k ≤ 30) {kd : Int} (q : ∀ l M' C' D' pool' T', Pk cd p M' C' D' pool' (k + 1) T' → K l (mkL Y cd M') T') :
    wpS c b_law_step_2 [some (.ref 0), some (.ref 6), some (.tmp p), some (.ref 7), some (iA kd), none, none, none, none] (mkL Y cd M) T K R := by
  refine k_pick HS (lv h) P.row P.hp P.ne fun r1 x T1 hr1 hx h1 => k_pick (M := M.wR r1) HS (lv h) hr1 (h1 _ _ P.hp) P.ne fun r2 y T2 hr2 hy h2 => ?_
  have P2 := (P.in_ h1 hr1).in_ h2 hr2
  refine k_bound (M := (M.wR r1).wR r2) HS (okc M.heap (bnd M.heap D)) (lv h) (hF x hx) (hF y hy) P.I.seek.1 P.I.seek.2 (Nat.lt_of_le_of_lt P.B.trail (by lia)) (q _ _ C D pool T2 (P2.same (Ext.refl T2) hr2)) fun a z h0 ha hz hlt => q _ _ C D pool T2 (P2.next (P2.I.bind h0 ha hz hlt).1 hr2 ?_ (Ext.refl T2) rfl fun x hx => .inl (okc_keep (P2.I.bind h0 ha hz hlt).2 (hF x hx)))
  have B := P.B.up
  refine ⟨Nat.le_trans (Nat.le_of_eq List.length_set) B.heap, B.stack, ?_, B.lC, B.lD, B.env, B.x⟩
  have : (if a < M.hb then M.trail ++ [a] else M.trail).length ≤ M.trail.length + 1 := by split; exact Nat.le_of_eq List.length_append; exact Nat.le_succ _
  exact Nat.le_trans this (Nat.succ_le_succ P.B.trail)
theorem step_5 (h : 8 ≤ c.n) (P : Pk cd p M C D pool k T) (hF : Full M D pool) (hk : k ≤ 30) {kd : Int} (q : ∀ l M' C' D' pool' T', Pk cd p M' C' D' pool' (k + 1) T' → K l (mkL Y cd M') T') :
    wpS c b_law_step_5 [some (.ref 0), some (.ref 6), some (.tmp p), some (.ref 7), some (iA kd), none, none, none, none] (mkL Y cd M) T K R := by
  cases C with
  | nil => exact k_size0 HS (lv h) P.I.e (q _ M [] D pool T (P.same (Ext.refl T) P.row))
  | cons e0 C =>
    have hn3 := P.I.S.ch.1.n3
    refine k_size HS (lv h) P.hT P.I.e P.I.cp hn3 (r_if (fun hs => ?_) fun _ => q _ M _ D pool T (P.same (Ext.refl T) P.row))
    have hs : 0 < e0.2 := Int.ofNat_lt.mp hs
    refine k_next HS (lv h) P.row fun r v T1 hr hv h1 => k_size (M := M.wR r) HS (lv h) (h1 _ _ P.hT) P.I.e P.I.cp hn3 ⟨fun e => Nat.ne_of_gt hs (Int.ofNat.inj e), ?_⟩
    refine (fm_nat hv hs).elim fun j hj => ?_
    have P1 := P.in_ h1 hr
    have e : M.e + 2 + v.fmod e0.2 = ((e0.1 + 2 + j : Nat) : Int) := by rw [hj.2, P.I.e]; rfl
    have hlt : e0.1 + 2 + j < M.stack.length := let ⟨_, hc⟩ := P.I.S.ch.1.sl j hj.1; lt_of_get hc
    have tl : M.trail.length < 1000000 := Nat.lt_of_le_of_lt P.B.trail (by lia)
    have fin : ∀ l tr', (if ((e0.1 + 2 + j : Nat) : Int) < M.bb then M.trail ++ [-1 - ((e0.1 + 2 + j : Nat) : Int)] else M.trail) = tr' → ∀ r2 x, RowOk r2 → x ∈ pool → ∀ T2, Ext T1 T2 →
        K l (mkL Y cd ((((M.wR r).wT tr').wR r2).wS (M.stack.set (e0.1 + 2 + j) (.c x)))) T2 := fun l tr' ht r2 x hr2 hx T2 h2 => by
      refine q l _ (e0 :: C) D pool T2 (P.next (M' := (((M.wR r).wT tr').wR r2).wS (M.stack.set (e0.1 + 2 + j) (.c x))) (P1.I.write hj.1 (hF x hx) ht).row hr2 ?_ (h1.trans h2) rfl P.ok)
      have B := P.B.up
      refine ⟨B.heap, Nat.le_trans (Nat.le_of_eq List.length_set) B.stack, ?_, B.lC, B.lD, B.env, B.x⟩
      have : tr'.length ≤ M.trail.length + 1 := by rw [← ht]; split; exact Nat.le_of_eq List.length_append; exact Nat.le_succ _
      exact Nat.le_trans this (Nat.succ_le_succ P.B.trail)
    refine r_if (p := M.e + 2 + v.fmod e0.2 < M.bb) (fun hb => ?_) fun hb => ?_
    · rw [e] at hb ⊢
      refine w_trAdd (M := M.wR r) (v := -1 - ((e0.1 + 2 + j : Nat) : Int)) tl (k_pick (M := (M.wR r).wT (M.trail ++ [-1 - ((e0.1 + 2 + j : Nat) : Int)])) HS (lv h) hr (h1 _ _ P.hp) P.ne fun r2 x T2 hr2 hx h2 => ?_)
      exact w_stSet (M := ((M.wR r).wT (M.trail ++ [-1 - ((e0.1 + 2 + j : Nat) : Int)])).wR r2) (k := ((e0.1 + 2 + j : Nat) : Int)) (v := .c x) (Int.natCast_nonneg _) (Int.ofNat_lt.mpr hlt) (fin _ _ (if_pos hb) r2 x hr2 hx T2 h2)
    · rw [e] at hb ⊢
      refine k_pick (M := M.wR r) HS (lv h) hr (h1 _ _ P.hp) P.ne fun r2 x T2 hr2 hx h2 => ?_
      exact w_stSet (M := (M.wR r).wR r2) (k := ((e0.1 + 2 + j : Nat) : Int)) (v := .c x) (Int.natCast_nonneg _) (Int.ofNat_lt.mpr hlt) (fin _ _ (if_neg hb) r2 x hr2 hx T2 h2)
end
end Mine
end
section
open PySem.Calls
set_option tactic.hygienic false
namespace Mine
section
variable {Y : Sy} {cd p : Addr} {M M' : St} {C C' : List (Nat × Nat)} {D D' : List Ch} {pool : List Cell} {k : Nat} {c : Cx} {T T' : Tm} {K : Loc → LT} {R : AV → LT}
theorem blk2 (a : Int) : (if (blk 13 a).1 = 3 then (blk 13 a).2 else (blk 13 a).2 + 1) = a + 1 := rfl
theorem len_ok (P : Pk cd p M C D pool k T) (hk : k ≤ 30) : pool.length + 2 < 1000000 ∧ pool.length + 2 ≤ 5 + 2 * (k + 1) ∧ M.heap.length + 3 ≤ 100000 ∧ M.stack.length < 900000 := by
  have h1 := P.len; have h2 := P.B.heap; have h3 := P.B.stack; lia
theorem heap_bd (P : Pk cd p M C D pool k T) {w : List Cell} (hw : w.length ≤ 3) {r : List Int} : Bd ((M.wR r).wH (M.heap ++ w)) C D (k + 1) :=
  let B := P.B.up; ⟨by show (M.heap ++ w).length ≤ _; rw [List.length_append]; exact Nat.le_trans (Nat.add_le_add P.B.heap hw) (by lia), B.stack, B.trail, B.lC, B.lD, B.env, B.x⟩
theorem hd_len (f : Int) : (hd f).length ≤ 1 := by unfold hd; split; exact Nat.zero_le _; exact Nat.le_refl _
variable (HS : SortOk)
include HS
theorem step_1 (h : 8 ≤ c.n) (O : YOk Y) (P : Pk cd p M C D pool k T) (hF : Full M D pool) (hk : k ≤ 30) {kd : Int} (q : ∀ l M' C' D' pool' T', Pk cd p M' C' D' pool' (k + 1) T' → K l (mkL Y cd M') T') :
    wpS c b_law_step_1 [some (.ref 0), some (.ref 6), some (.tmp p), some (.ref 7), some (iA kd), none, none, none, none] (mkL Y cd M) T K R := by
  have hl := len_ok P hk
  refine k_next HS (lv h) P.row fun r v T1 hr hv h1 => ⟨by decide, ?_⟩
  have P1 := P.in_ h1 hr
  refine r_if (p := v.fmod 2 = 0) (fun _ => ?_) fun _ => ?_
  · refine ⟨_, P1.hp, k_new_var (M := M.wR r) HS (lv h) (Nat.lt_of_lt_of_le (Nat.lt_add_of_pos_right (by decide)) hl.2.2.1) ⟨_, P1.hp, w_tmpAdd (f := cA) (v := (0, (M.heap.length : Int))) (Nat.lt_of_le_of_lt (Nat.le_add_right _ 2) hl.1) (q _ _ C D (pool ++ [(0, (M.heap.length : Int))]) _ ?_)⟩⟩
    have I := P1.I.var
    exact (P1.next I.1 hr (heap_bd P (Nat.le_of_ble_eq_true rfl)) (Ext.refl T1) rfl fun x hx => .inl (okc_keep (keep_append _ _) (hF x hx))).add I.2 (Nat.le_trans (Nat.le_succ _) hl.2.1)
  · refine ⟨_, P1.hp, k_new_block (M := M.wR r) HS O (.inr (.inr rfl)) (lv h) hl.2.2.1 fun w hw hwj => ⟨_, P1.hp, w_tmpAdd (f := cA) (v := blk 13 M.heap.length) (Nat.lt_of_le_of_lt (Nat.le_add_right _ 2) hl.1) ?_⟩⟩
    have I := P1.I.block (f := 13) (.inr (.inr rfl)) hw fun i v e => .inr (hwj i v e)
    have P2 := (P1.next I.1 hr (heap_bd P (by rw [List.length_append, hw]; exact Nat.add_le_add (hd_len 13) (ar_le 13))) (Ext.refl T1) rfl fun x hx => .inl (okc_keep (keep_append _ _) (hF x hx))).add I.2 (Nat.le_trans (Nat.le_succ _) hl.2.1)
    have h0 : 0 < w.length := by rw [hw]; decide
    have e0 : (M.heap ++ (hd 13 ++ w))[M.heap.length + 1]? = some (0, ((M.heap.length + 1 : Nat) : Int)) := get_app (get_app (l := hd 13) (i := 0) ((List.getElem?_eq_getElem h0).trans (congrArg some ((hwj 0 _ (List.getElem?_eq_getElem h0)).trans (congrArg (Prod.mk 0) (Int.add_zero _))))))
    have P3 := P2.add (okc_var e0) (by rw [List.length_append]; exact hl.2.1)
    refine ⟨_, upd_self .., ⟨_, upd_self .., ⟨_, idx_last, k_base HS (lv h) ⟨_, upd_self .., ?_⟩⟩⟩⟩
    rw [blk2]
    exact w_tmpAdd (f := cA) (v := (0, ((M.heap.length + 1 : Nat) : Int))) (Nat.lt_of_le_of_lt (by rw [List.length_append]; exact Nat.le_succ _) hl.1) (q _ _ C D _ _ P3)
theorem step_4 (h : 10 ≤ c.n) (P : Pk cd p M C D pool k T) (hF : Full M D pool) (hk : k ≤ 30) {kd : Int} (q : ∀ l M' C' D' pool' T', Pk cd p M' C' D' pool' (k + 1) T' → K l (mkL Y cd M') T') :
    wpS c b_law_step_4 [some (.ref 0), some (.ref 6), some (.tmp p), some (.ref 7), some (iA kd), none, none, none, none] (mkL Y cd M) T K R := by
  have hl := len_ok P hk
  refine k_next HS (lv h) P.row fun r v T1 hr hv h1 => ⟨by decide, ?_⟩
  have P1 := P.in_ h1 hr
  refine (fm_nat (n := 4) hv (by decide)).elim fun m hm => ?_
  have e : v.fmod 4 = (m : Int) := hm.2
  rw [e]
  refine ⟨(rb (by lia)).1, (rb (by lia)).2, Nat.le_trans (by decide) h, fun acc ha => k_picks (M := M.wR r) (c := c.dn) (n := m) HS (lv h) hr P1.hp P1.ne ha (by lia) fun cs r2 T2 hr2 hn hc h2 hT2 => ?_⟩
  have P2 := P1.in_ h2 hr2
  have h3 : cs.length ≤ 3 := by rw [hn]; exact Nat.le_of_lt_succ hm.1
  have I := P2.I.pushC h3 fun x hx => hF x (hc x hx)
  refine k_push_choice (M := (M.wR r).wR r2) HS (lv h) P2.hT hT2 P2.I.e P2.I.cp P2.I.b P2.I.S.ch P2.I.S.cs P2.I.S.top.2.2 hl.2.2.2 h3 (q _ _ C _ pool T2 (P2.next I hr2 ?_ (Ext.refl T2) rfl fun x hx => .inl (okc_sub (fun h hh => (List.mem_cons.mp hh).elim (fun e => e ▸ List.mem_cons_self) fun hh => hh) (hF x hx))))
  have B := P.B.up
  have hz := (ovl_len (vs := frm cs M.e M.cp M.b M.trail.length M.heap.length) P.I.S.top.2.2).2.2
  have hz2 : (frm cs M.e M.cp M.b M.trail.length M.heap.length).length = cs.length + 8 := by unfold frm; rw [List.length_append, List.length_cons, List.length_map]; rfl
  refine ⟨B.heap, Nat.le_trans hz (by have := P.B.stack; lia), B.trail, B.lC, Nat.succ_le_succ P.B.lD, fun d hd => (List.mem_cons.mp hd).elim (fun e => e ▸ B.lC) (B.env d), B.x⟩
theorem step_0 (h : 12 ≤ c.n) (O : YOk Y) (P : Pk cd p M C D pool k T) (hF : Full M D pool) (hk : k ≤ 30) {kd : Int} (q : ∀ l M' C' D' pool' T', Pk cd p M' C' D' pool' (k + 1) T' → K l (mkL Y cd M') T') :
    wpS c b_law_step_0 [some (.ref 0), some (.ref 6), some (.tmp p), some (.ref 7), some (iA kd), none, none, none, none] (mkL Y cd M) T K R := by
  have hl := len_ok P hk
  refine w_new (by decide) fun a ha => k_next HS (lv h) P.row fun r v T1 hr hv h1 => ⟨by decide, ?_⟩
  have P1 := P.in_ ((Ext.new ha).trans h1) hr
  refine (fm_nat (n := 3) hv (by decide)).elim fun m hm => ?_
  have e : v.fmod 3 = (m : Int) := hm.2
  rw [e]
  have hf : ∃ f : Int, fOk f ∧ ([.d (.int 12), .d (.int 13), .d (.int 0)] : List AV)[m]? = some (iA f) := by
    match m, hm.1 with
    | 0, _ => exact ⟨12, .inr (.inl rfl), rfl⟩
    | 1, _ => exact ⟨13, .inr (.inr rfl), rfl⟩
    | 2, _ => exact ⟨0, .inl rfl, rfl⟩
  refine hf.elim fun f hf => ⟨_, h1 _ _ (upd_self ..), r_ixn (Int.natCast_nonneg m) hf.2 ?_⟩
  refine ⟨_, P1.hp, k_ar (M := M.wR r) HS O hf.1 (lv h) ⟨(rb (by have := ar_le f; lia)).1, (rb (by have := ar_le f; lia)).2, Nat.le_trans (by decide) h, fun acc hacc => k_picks (M := M.wR r) (c := c.dn) (n := ar f) HS (lv h) hr P1.hp P1.ne hacc (by have := ar_le f; lia) fun cs r2 T2 hr2 hn hc h2 hT2 => ?_⟩⟩
  have P2 := P1.in_ h2 hr2
  refine k_new_struct (M := (M.wR r).wR r2) HS (okc M.heap (bnd M.heap D)) O hf.1 (lv h) hT2 hn hl.2.2.1 (fun x hx => hF x (hc x hx)) P.I.seek.1 P.I.seek.2 fun vs T3 h3 hvs hvo => ?_
  have P3 := P2.in_ h3 hr2
  have I := P3.I.block hf.1 hvs fun i v e => .inl (hvo v (List.mem_of_getElem? e))
  refine ⟨_, P3.hp, w_tmpAdd (f := cA) (v := blk f M.heap.length) (Nat.lt_of_le_of_lt (Nat.le_add_right _ 2) hl.1) (q _ _ C D _ _ ((P3.next I.1 hr2 ?_ (Ext.refl T3) rfl fun x hx => .inl (okc_keep (keep_append _ _) (hF x hx))).add I.2 (Nat.le_trans (Nat.le_succ _) hl.2.1)))⟩
  exact heap_bd (P.in_ ((Ext.new ha).trans h1) hr) (r := r2) (by rw [List.length_append, hvs]; exact Nat.add_le_add (hd_len f) (ar_le f))
end
end Mine
end
section
open PySem.Calls
namespace Mine
section
variable {Y : Sy} {cd p : Addr} {M M' : St} {C C' : List (Nat × Nat)} {D D' : List Ch} {pool : List Cell} {k : Nat} {c : Cx} {T T' : Tm} {K : Loc → LT} {R : AV → LT}
noncomputable def eFr (e cp : Int) (cs : List Cell) (n : Nat) : List SV := [SV.i e, .i cp] ++ (cs.map SV.c ++ List.replicate (n - cs.length) (SV.c (5, 0)))
theorem eFr_set {st : List SV} {t : Nat} {e cp : Int} {cs : List Cell} {n : Nat} {x : Cell} (hl : t ≤ st.length) (h : cs.length < n) : (ovl st t (eFr e cp cs n)).set (t + 2 + cs.length) (.c x) = ovl st t (eFr e cp (cs ++ [x]) n) := by
  have e1 : eFr e cp cs n = ([SV.i e, .i cp] ++ cs.map SV.c) ++ SV.c (5, 0) :: List.replicate (n - (cs.length + 1)) (SV.c (5, 0)) := by
    unfold eFr
    rw [show n - cs.length = (n - (cs.length + 1)) + 1 by lia, List.replicate_succ, List.append_assoc]
  have e2 : eFr e cp (cs ++ [x]) n = ([SV.i e, .i cp] ++ cs.map SV.c) ++ SV.c x :: List.replicate (n - (cs.length + 1)) (SV.c (5, 0)) := by
    unfold eFr
    rw [List.map_append, List.length_append, List.append_assoc, List.append_assoc]; rfl
  have e3 : t + 2 + cs.length = t + ([SV.i e, .i cp] ++ cs.map SV.c).length := by rw [List.length_append, List.length_map, Nat.add_assoc]; rfl
  rw [e1, e2, e3]
  exact w_ovlSet hl
theorem eFr_len {e cp : Int} {cs : List Cell} {n : Nat} (h : cs.length ≤ n) : (eFr e cp cs n).length = n + 2 := by
  unfold eFr; rw [List.length_append, List.length_append, List.length_map, List.length_replicate]; show 2 + _ = _; lia
variable (HS : SortOk)
include HS
theorem step_3 (h : 8 ≤ c.n) (P : Pk cd p M C D pool k T) (hF : Full M D pool) (hk : k ≤ 30) {kd : Int} (q : ∀ l M' C' D' pool' T', Pk cd p M' C' D' pool' (k + 1) T' → K l (mkL Y cd M') T') :
    wpS c b_law_step_3 [some (.ref 0), some (.ref 6), some (.tmp p), some (.ref 7), some (iA kd), none, none, none, none] (mkL Y cd M) T K R := by
  have hl := len_ok P hk
  refine k_next HS (lv h) P.row fun r v T1 hr hv h1 => ⟨by decide, ?_⟩
  have P1 := P.in_ h1 hr
  refine (fm_nat (n := 4) hv (by decide)).elim fun m hm => ?_
  have e : v.fmod 4 = (m : Int) := hm.2
  rw [e]
  have hm3 : m ≤ 3 := Nat.le_of_lt_succ hm.1
  have ht := P.I.S.top.2.2
  refine k_push_environment (M := M.wR r) HS (lv h) P1.hT P1.I.e P1.I.cp P1.I.b P1.I.S.ch P1.I.S.cs ht hl.2.2.2 hm3 ⟨(rb (by lia)).1, (rb (by lia)).2, ?_⟩
  refine rng0 (n := m) (σ := List Int × List Cell × Option AV) (fun s => [some (.ref 0), some (.ref 6), some (.tmp p), some (.ref 7), some (iA kd), none, some (iA m), s.2.2, none]) (fun s => mkL Y cd (((M.wR s.1).wS (ovl M.stack (topOf C D) (eFr M.e M.cp s.2.1 m))).wE (topOf C D)))
    (fun j s T' => Ext T1 T' ∧ RowOk s.1 ∧ s.2.1.length = j ∧ ∀ x ∈ s.2.1, x ∈ pool) (r, [], none) rfl rfl ⟨Ext.refl T1, hr, rfl, fun _ h => nomatch h⟩ ?_ ?_
  · intro j s T' P' hj hI kk
    refine k_pick (M := ((M.wR s.1).wS (ovl M.stack (topOf C D) (eFr M.e M.cp s.2.1 m))).wE (topOf C D)) HS (lv h) hI.2.1 (hI.1 _ _ P1.hp) P1.ne fun r2 x T2 hr2 hx h2 => ?_
    have hlt : s.2.1.length < m := by rw [hI.2.2.1]; exact hj
    have z := kk (r2, s.2.1 ++ [x], some (iA j)) T2 ⟨hI.1.trans h2, hr2, by rw [List.length_append, hI.2.2.1]; rfl, fun y hy => (List.mem_append.mp hy).elim (hI.2.2.2 y) fun e => by rw [List.mem_singleton.mp e]; exact hx⟩
    rw [← eFr_set ht hlt, hI.2.2.1] at z
    exact w_stSet (M := (((M.wR s.1).wS (ovl M.stack (topOf C D) (eFr M.e M.cp s.2.1 m))).wE (topOf C D)).wR r2) (k := ((topOf C D + 2 + j : Nat) : Int)) (v := .c x) (Int.natCast_nonneg _)
      (Int.ofNat_lt.mpr (Nat.lt_of_lt_of_le (by rw [eFr_len (Nat.le_of_lt hlt)]; lia) (ovl_len ht).1)) z
  · intro s T' hI
    refine k_next (M := ((M.wR s.1).wS (ovl M.stack (topOf C D) (eFr M.e M.cp s.2.1 m))).wE (topOf C D)) HS (lv h) hI.2.1 fun r2 v2 T2 hr2 hv2 h2 => ⟨fun e => by lia, ?_⟩
    refine (fm_nat (n := m + 1) hv2 (Nat.succ_pos m)).elim fun n hn => ?_
    have e5 : ovl M.stack (topOf C D) (eFr M.e M.cp s.2.1 m) = ovl M.stack (topOf C D) ([.i M.e, .i M.cp] ++ s.2.1.map SV.c) := by unfold eFr; rw [hI.2.2.1, Nat.sub_self, List.replicate_zero, List.append_nil]
    have P2 := P1.in_ (hI.1.trans h2) hr2
    have I := P2.I.pushE (cs := s.2.1) (n := n) (by rw [hI.2.2.1]; exact Nat.le_of_lt_succ hn.1) (by rw [hI.2.2.1]; exact hm3) fun x hx => hF x (hI.2.2.2 x hx)
    have B := P.B.up
    have hz := (ovl_len (vs := [SV.i M.e, .i M.cp] ++ s.2.1.map SV.c) ht).2.2
    have hz2 : ([SV.i M.e, .i M.cp] ++ s.2.1.map SV.c).length = 2 + m := by rw [List.length_append, List.length_map, hI.2.2.1]; rfl
    have P3 : Pk cd p _ ((topOf C D, n) :: C) D pool (k + 1) T2 := P2.next I hr2 ⟨B.heap, Nat.le_trans hz (by have := P.B.stack; lia), B.trail, Nat.succ_le_succ P.B.lC, B.lD, B.env, B.x⟩ (Ext.refl T2) rfl P.ok
    have e6 : (n : Int) + 1 = 1 + v2.fmod ((m : Int) + 1) := by rw [show v2.fmod ((m : Int) + 1) = (n : Int) from hn.2]; exact Int.add_comm _ _
    rw [e6] at P3
    have z := q [some (.ref 0), some (.ref 6), some (.tmp p), some (.ref 7), some (iA kd), none, some (iA m), s.2.2, none] _ _ _ _ _ P3
    have z2 : K [some (.ref 0), some (.ref 6), some (.tmp p), some (.ref 7), some (iA kd), none, some (iA m), s.2.2, none] (mkL Y cd ((((M.wS (ovl M.stack (topOf C D) ([.i M.e, .i M.cp] ++ s.2.1.map SV.c))).wE (topOf C D)).wR r2).wC (1 + v2.fmod ((m : Int) + 1)))) T2 := z
    rw [← e5] at z2
    exact w_cp (v := 1 + v2.fmod ((m : Int) + 1)) z2
theorem k_step (h : 14 ≤ c.n) (O : YOk Y) {Q : AV → LT} (P : Pk cd p M C D pool k T) (hF : Full M D pool) (hk : k ≤ 30) (q : ∀ M' C' D' pool' T', Pk cd p M' C' D' pool' (k + 1) T' → Q (.d .none) (mkL Y cd M') T') :
    CallOk c (.ref 660) [.ref 0, .ref 6, .tmp p] (mkL Y cd M) T Q := by
  refine c_law_step HS (lo h) (k_next HS (lw h) P.row fun r v T1 hr hv h1 => ⟨by decide, ?_⟩)
  have P1 := P.in_ h1 hr
  have hF1 : Full (M.wR r) D pool := hF
  have h2 : ∀ {n}, n + 1 ≤ 14 → n ≤ c.dn.n := fun hn => lv (Nat.le_trans hn h) (Nat.le_refl _)
  refine r_if (fun _ => step_0 HS (h2 (by decide)) O P1 hF1 hk fun _ => q) fun _ => ?_
  refine r_if (fun _ => step_1 HS (h2 (by decide)) O P1 hF1 hk fun _ => q) fun _ => ?_
  refine r_if (fun _ => step_2 HS (h2 (by decide)) P1 hF1 hk fun _ => q) fun _ => ?_
  refine r_if (fun _ => step_3 HS (h2 (by decide)) P1 hF1 hk fun _ => q) fun _ => ?_
  refine r_if (fun _ => step_4 HS (h2 (by decide)) P1 hF1 hk fun _ => q) fun _ => ?_
  refine r_if (fun _ => step_5 HS (h2 (by decide)) P1 hF1 hk fun _ => q) fun _ => ?_
  refine r_if (fun _ => step_6 HS (h2 (by decide)) P1 fun _ => q) fun _ => ?_
  exact r_if (fun _ => step_7 HS (h2 (by decide)) P1 fun _ => q) fun _ => step_8 HS (h2 (by decide)) P1 hF1 hk fun _ => q
end
end Mine
end
section
open PySem.Calls
namespace Mine
noncomputable def cellAt (hp : List Cell) (v : Int) : Cell := (hp[v.toNat]?).getD (0, 0)
theorem cellAt_get {hp : List Cell} {v : Int} (h0 : 0 ≤ v) (h1 : v < hp.length) : hp[v.toNat]? = some (cellAt hp v) := by
  have h : v.toNat < hp.length := (Int.toNat_lt h0).mpr h1
  unfold cellAt; rw [List.getElem?_eq_getElem h]; rfl
noncomputable def ctB (hp : List Cell) (sl : Nat) (c : Cell) (slot : Int) : Prop :=
  (c.1 = 0 ∧ ((c.2 < 0 ∨ (hp.length : Int) ≤ c.2) ∨ (cellAt hp c.2).1 = 6)) ∨ (c.1 = 3 ∧ (c.2 < 0 ∨ (hp.length : Int) ≤ c.2 + 1)) ∨
  (c.1 = 2 ∧ ((c.2 < 0 ∨ (hp.length : Int) ≤ c.2 ∨ (cellAt hp c.2).1 ≠ 6) ∨ (hp.length : Int) ≤ c.2 + ar (cellAt hp c.2).2)) ∨
  (c.1 = 1 ∧ ((c.2 < 0 ∨ (sl : Int) ≤ c.2) ∨ (0 ≤ slot ∧ slot < c.2))) ∨ c.1 = 6
noncomputable def fnOk (hp : List Cell) : Prop := ∀ (a : Nat) f, hp[a]? = some (6, f) → fOk f
noncomputable def emp : Str := Str.ofString ""
section
variable {Y : Sy} {cd : Addr} {M : St} {c : Cx} {T : Tm} {Q : AV → LT}
theorem ct0 {hp : List Cell} {sl : Nat} {x : Cell} {slot : Int} (h : x.1 = 0) : ctB hp sl x slot ↔ ((x.2 < 0 ∨ (hp.length : Int) ≤ x.2) ∨ (cellAt hp x.2).1 = 6) := by unfold ctB; rw [h]; simp
theorem ct3 {hp : List Cell} {sl : Nat} {x : Cell} {slot : Int} (h : x.1 = 3) : ctB hp sl x slot ↔ (x.2 < 0 ∨ (hp.length : Int) ≤ x.2 + 1) := by unfold ctB; rw [h]; simp
theorem ct2 {hp : List Cell} {sl : Nat} {x : Cell} {slot : Int} (h : x.1 = 2) : ctB hp sl x slot ↔ ((x.2 < 0 ∨ (hp.length : Int) ≤ x.2 ∨ (cellAt hp x.2).1 ≠ 6) ∨ (hp.length : Int) ≤ x.2 + ar (cellAt hp x.2).2) := by unfold ctB; rw [h]; simp
theorem ct1 {hp : List Cell} {sl : Nat} {x : Cell} {slot : Int} (h : x.1 = 1) : ctB hp sl x slot ↔ ((x.2 < 0 ∨ (sl : Int) ≤ x.2) ∨ (0 ≤ slot ∧ slot < x.2)) := by unfold ctB; rw [h]; simp
variable (HS : SortOk)
include HS
theorem k_cell_trouble {x : Cell} {slot : Int} (h : 3 ≤ c.n) (O : YOk Y) (hf : fnOk M.heap) (q0 : ¬ctB M.heap M.stack.length x slot → Q (.d (.str emp)) (mkL Y cd M) T) (q1 : ctB M.heap M.stack.length x slot → ∀ s : Str, PyData.strOk s = true → s.length ≤ 1000 → s ≠ emp → Q (.d (.str s)) (mkL Y cd M) T) :
    CallOk c (.ref 573) [.ref 6, cA x, iA slot] (mkL Y cd M) T Q := by
  refine c_cell_trouble HS (lo h) ⟨by decide, ⟨by decide, r_if (p := x.1 = 0) (fun h0 => ?_) fun h0 => r_if (p := x.1 = 3) (fun h3 => ?_) fun h3 => r_if (p := x.1 = 2) (fun h2 => ?_) fun h2 => r_if (p := x.1 = 1) (fun h1 => ?_) fun h1 => r_if (p := x.1 = 6) (fun h6 => ?_) fun h6 => ?_⟩⟩
  · rw [ct0 h0] at q0 q1
    refine r_if (fun hc => q1 (.inl (.inl hc)) _ (by decide +kernel) (by decide +kernel) (by decide +kernel)) fun hc => r_if (fun hc2 => q1 (.inl (.inr (by rw [lenI] at hc2; exact hc2))) _ (by decide +kernel) (by decide +kernel) (by decide +kernel)) fun hc2 => ?_
    rw [lenI] at hc2
    have hn := Int.not_lt.mp hc
    exact r_ix hn (cellAt_get hn (Int.not_le.mp hc2)) ⟨by decide, r_if (fun hc3 => q1 (.inr hc3) _ (by decide +kernel) (by decide +kernel) (by decide +kernel)) fun hc3 => q0 fun z => z.elim (fun z => z.elim hc hc2) hc3⟩
  · rw [ct3 h3] at q0 q1
    exact r_if (fun hc => q1 (.inl hc) _ (by decide +kernel) (by decide +kernel) (by decide +kernel)) fun hc => r_if (fun hc2 => q1 (.inr (by rw [lenI] at hc2; exact hc2)) _ (by decide +kernel) (by decide +kernel) (by decide +kernel)) fun hc2 => q0 fun z => z.elim hc (by rw [lenI] at hc2; exact hc2)
  · rw [ct2 h2] at q0 q1
    refine r_if (fun hc => q1 (.inl (.inl hc)) _ (by decide +kernel) (by decide +kernel) (by decide +kernel)) fun hc => r_if (fun hc2 => q1 (.inl (.inr (.inl (by rw [lenI] at hc2; exact hc2)))) _ (by decide +kernel) (by decide +kernel) (by decide +kernel)) fun hc2 => ?_
    rw [lenI] at hc2
    have hn := Int.not_lt.mp hc
    have hg := cellAt_get hn (Int.not_le.mp hc2)
    refine r_ix hn hg ⟨by decide, r_not (fun hc3 => q1 (.inl (.inr (.inr hc3))) _ (by decide +kernel) (by decide +kernel) (by decide +kernel)) fun hc3 => r_ix hn hg ⟨by decide, ?_⟩⟩
    have hfo : fOk (cellAt M.heap x.2).2 := hf _ _ (hg.trans (congrArg some (Prod.ext hc3 rfl : cellAt M.heap x.2 = (6, (cellAt M.heap x.2).2))))
    exact k_ar HS O hfo (lw h) (r_if (fun hc4 => q1 (.inr (by rw [lenI] at hc4; exact hc4)) _ (by decide +kernel) (by decide +kernel) (by decide +kernel)) fun hc4 => q0 fun z => z.elim (fun z => z.elim hc fun z => z.elim hc2 fun z => z hc3) (by rw [lenI] at hc4; exact hc4))
  · rw [ct1 h1] at q0 q1
    exact r_if (fun hc => q1 (.inl (.inl hc)) _ (by decide +kernel) (by decide +kernel) (by decide +kernel)) fun hc => r_if (fun hc2 => q1 (.inl (.inr (by rw [lenI] at hc2; exact hc2))) _ (by decide +kernel) (by decide +kernel) (by decide +kernel)) fun hc2 =>
      r_if (fun hc3 => r_if (fun hc4 => q1 (.inr ⟨hc3, hc4⟩) _ (by decide +kernel) (by decide +kernel) (by decide +kernel)) fun hc4 => q0 fun z => z.elim (fun z => z.elim hc (by rw [lenI] at hc2; exact hc2)) fun z => hc4 z.2) fun hc3 => q0 fun z => z.elim (fun z => z.elim hc (by rw [lenI] at hc2; exact hc2)) fun z => hc3 z.1
  · exact q1 (.inr (.inr (.inr (.inr h6)))) _ (by decide +kernel) (by decide +kernel) (by decide +kernel)
  · exact q0 fun z => z.elim (fun z => h0 z.1) fun z => z.elim (fun z => h3 z.1) fun z => z.elim (fun z => h2 z.1) fun z => z.elim (fun z => h1 z.1) h6
end
end Mine
end
section
open PySem.Calls
set_option tactic.hygienic false
namespace Mine
noncomputable def stA (s : Str) : AV := .d (.str s)
noncomputable def Ext' (a : Addr) (T T' : Tm) : Prop := ∀ b o, b ≠ a → T b = some o → T' b = some o
structure Rws (T₀ T : Tm) (a : Addr) (rows : List Str) (n : Nat) : Prop where
  E : Ext T₀ T
  a : T a = some (.list (rows.map stA))
  ok : ∀ r ∈ rows, PyData.strOk r = true
  len : rows.length ≤ n
theorem Rws.add {T₀ T : Tm} {a : Addr} {rows : List Str} {n : Nat} {s : Str} (W : Rws T₀ T a rows n) (ha : T₀ a = none) (hs : PyData.strOk s = true) : Rws T₀ (upd T a (.list ((rows ++ [s]).map stA))) a (rows ++ [s]) (n + 1) :=
  ⟨W.E.set ha, upd_self .., fun r hr => (List.mem_append.mp hr).elim (W.ok r) fun e => by rw [List.mem_singleton.mp e]; exact hs, by rw [List.length_append]; exact Nat.succ_le_succ W.len⟩
theorem Rws.up {T₀ T : Tm} {a : Addr} {rows : List Str} {n m : Nat} (W : Rws T₀ T a rows n) (h : n ≤ m) : Rws T₀ T a rows m := ⟨W.E, W.a, W.ok, Nat.le_trans W.len h⟩
theorem Rws.ext {T₀ T T' : Tm} {a : Addr} {rows : List Str} {n : Nat} (W : Rws T₀ T a rows n) (h : Ext T T') : Rws T₀ T' a rows n := ⟨W.E.trans h, h _ _ W.a, W.ok, W.len⟩
theorem q_dec {p : Prop} [Decidable p] {Q : Bool → Prop} (h1 : p → Q true) (h2 : ¬p → Q false) : Q (decide p) := by
  by_cases h : p
  · rw [decide_eq_true h]; exact h1 h
  · rw [decide_eq_false h]; exact h2 h
theorem q_ndec {p : Prop} [Decidable p] {Q : Bool → Prop} (h1 : ¬p → Q true) (h2 : p → Q false) : Q (!(decide p)) := by
  by_cases h : p
  · rw [decide_eq_true h]; exact h2 h
  · rw [decide_eq_false h]; exact h1 h
theorem s_app {c : Cx} {k : C} {v : E} {i : Nat} {rest : S} {l : Loc} {L : List AO} {T₀ T : Tm} {K : Loc → LT} {R : AV → LT} {a : Addr} {rows : List Str} {n : Nat} {p : Prop}
    (W : Rws T₀ T a rows n) (ha : T₀ a = none) (hn : n < 999999) (hi : ∀ Q : AV → LT, Q (.tmp a) L T → wpE c (.loc i) l L T Q)
    (hk : ∀ Q : Bool → LT, (p → Q true L T) → (¬p → Q false L T) → wpC c k l L T Q) (hv : p → ∀ Q : AV → LT, (∀ z, PyData.strOk z = true → Q (stA z) L T) → wpE c v l L T Q)
    (q : ∀ rows' T', (rows' = [] ↔ rows = [] ∧ ¬p) → Rws T₀ T' a rows' (n + 1) → Ext' a T T' → wpS c rest l L T' K R) : wpS c (.seq (.ite k (.seq (.ex (.lapp (.loc i) v)) .nil) .nil) rest) l L T K R := by
  refine hk _ (fun hp => ?_) fun hp => q rows T ⟨fun e => ⟨e, hp⟩, fun e => e.1⟩ (W.up (Nat.le_succ n)) fun _ _ _ e => e
  have key : wpE c (.loc i) l L T fun o L1 T1 => wpGetL o L1 T1 fun _ => wpE c v l L1 T1 fun x L2 T2 => wpGetL o L2 T2 fun vs => vs.length < lid ∧ wpPutL o (vs ++ [x]) L2 T2 fun L3 T3 => wpS c rest l L3 T3 K R :=
    hi _ ⟨_, W.a, hv hp _ fun z hz => ⟨_, W.a, w_tmpAdd (f := stA) (Nat.lt_of_le_of_lt W.len (Nat.lt_trans hn (by decide))) (q (rows ++ [z]) _ ⟨fun e => absurd e (List.append_ne_nil_of_right_ne_nil _ (List.cons_ne_nil _ _)), fun e => absurd hp e.2⟩ (W.add ha hz) fun b o hb e => by rw [upd_ne _ _ hb]; exact e)⟩⟩
  exact key
theorem hv_lit {c : Cx} {s : Str} {l : Loc} {L : List AO} {T : Tm} (h : PyData.strOk s = true) (Q : AV → LT) (q : ∀ z, PyData.strOk z = true → Q (stA z) L T) : wpE c (.str s) l L T Q := q _ h
noncomputable def CG : List Ch → Int → Int → Int → Prop
  | [], _, _, _ => True
  | d :: r, a, h, t => (¬a ≤ d.b ∧ ¬h < d.hp) ∧ (¬t < d.tr ∧ CG r d.b d.hp d.tr)
noncomputable def TG (M : St) (x : Int) : Prop := (M.heap.length : Int) ≤ x ∨ (M.stack.length : Int) ≤ -1 - x
section
variable {Y : Sy} {cd : Addr} {M : St} {c : Cx} {T : Tm} {Q : AV → LT} (HS : SortOk)
include HS
theorem k_saved {d : Ch} {r : List Ch} (h : 1 ≤ c.n) (hD : Ch1 M.stack d r) (q : Q (iA d.hp) (mkL Y cd M) T) : CallOk c (.ref 566) [.ref 7, iA d.b] (mkL Y cd M) T Q :=
  c_saved_length HS h (r_sx (n := d.b) rfl hD.nn (r_sx (n := d.b + d.n + 6) rfl hD.hp q))
theorem k_chain_troubles {D : List Ch} (h : 3 ≤ c.n) (hb : M.b = bOf D) (hD : Chs M.stack D) (hl : D.length ≤ 1000) (ht : M.trail.length ≤ 1000)
    (q : ∀ a T' rows, Rws T T' a rows 10000 → T a = none → (rows = [] ↔ (CG D M.stack.length M.heap.length M.trail.length ∧ M.hb = hbOf D ∧ M.bb = bbOf D) ∧ ∀ x ∈ M.trail, ¬TG M x) → Q (.tmp a) (mkL Y cd M) T') :
    CallOk c (.ref 580) [.ref 6] (mkL Y cd M) T Q := by
  refine c_chain_troubles HS (lo h) (w_new (by decide) fun a ha => ?_)
  refine k_choices HS (lw h) hb hD (by lia) fun b T1 h1 hb1 hT1 => ⟨_, hT1, ?_⟩
  have W0 : Rws T T1 a [] (3 * 0) := ⟨(Ext.new ha).trans h1, h1 _ _ (upd_self ..), (fun _ h => nomatch h), Nat.le_refl _⟩
  have hba : b ≠ a := by rintro rfl; rw [upd_self] at hb1; cases hb1
  refine fr_list (f := fun d : Ch => iA d.b) (xs := D) (σ := List Str × (Int × Int × Int) × Option AV × Option AV) (fun s => [some (.ref 6), some (.ref 7), some (.tmp a), some (iA s.2.1.2.1), some (iA s.2.1.2.2), some (iA s.2.1.1), s.2.2.1, s.2.2.2, none, none, none]) (fun _ => mkL Y cd M)
    (fun d r s T' => Rws T T' a s.1 (3 * d.length) ∧ T' b = some (.list (D.map fun d => iA d.b)) ∧ ((s.1 = [] ∧ CG r s.2.1.1 s.2.1.2.1 s.2.1.2.2) ↔ CG D M.stack.length M.heap.length M.trail.length)) ([], (M.stack.length, M.heap.length, M.trail.length), none, none) (by rw [lenI, lenI, lenI]; rfl) rfl ⟨W0, hT1, ⟨fun h => h.2, fun h => ⟨rfl, h⟩⟩⟩
    (fun d r s T' P hI hP => ⟨_, hI.2.1, rfl, hP⟩) ?_ ?_
  · intro d x r s T' P hd hI kk
    have hx := (chs_sub hD hd).1
    have hln : (d ++ [x]).length = d.length + 1 := List.length_append
    have hdl : d.length ≤ 1000 := by rw [hd, List.length_append] at hl; lia
    refine r_sx (n := x.b) rfl hx.nn ?_
    refine s_app (p := s.2.1.1 ≤ x.b) hI.1 ha (by lia) (fun Q h => h) (fun Q h1 h2 => q_dec (Q := fun b => Q b _ _) h1 h2) (fun _ => hv_lit (by decide +kernel)) fun rows1 T2 e1 W1 E1 => ?_
    refine s_app (p := s.2.1.2.1 < x.hp) W1 ha (by lia) (fun Q h => h) (fun Q h1 h2 => r_sx (n := x.b + x.n + 6) rfl hx.hp (q_dec (Q := fun b => Q b _ _) h1 h2)) (fun _ => hv_lit (by decide +kernel)) fun rows2 T3 e2 W2 E2 => ?_
    refine r_sx (n := x.b + x.n + 6) rfl hx.hp ?_
    refine s_app (p := s.2.1.2.2 < x.tr) W2 ha (by lia) (fun Q h => h) (fun Q h1 h2 => r_sx (n := x.b + x.n + 5) rfl hx.tr (q_dec (Q := fun b => Q b _ _) h1 h2)) (fun _ => hv_lit (by decide +kernel)) fun rows3 T4 e3 W3 E3 => ?_
    refine r_sx (n := x.b + x.n + 5) rfl hx.tr ?_
    refine kk (rows3, (x.b, x.hp, x.tr), _, _) T4 ⟨W3.up (by rw [hln]; lia), E3 _ _ hba (E2 _ _ hba (E1 _ _ hba hI.2.1)), ?_⟩
    rw [← hI.2.2]
    show (rows3 = [] ∧ CG r x.b x.hp x.tr) ↔ s.1 = [] ∧ CG (x :: r) s.2.1.1 s.2.1.2.1 s.2.1.2.2
    rw [e3, e2, e1]
    exact ⟨fun ⟨⟨⟨⟨a1, a2⟩, a3⟩, a4⟩, a5⟩ => ⟨a1, ⟨a2, a3⟩, a4, a5⟩, fun ⟨a1, ⟨a2, a3⟩, a4, a5⟩ => ⟨⟨⟨⟨a1, a2⟩, a3⟩, a4⟩, a5⟩⟩
  · intro s T' hI
    have fin : ∀ w6 w7 w8 w9 w10, w8 = some (iA (hbOf D)) → w9 = some (iA (bbOf D)) → wpS c.dn b_chain_troubles_t [some (.ref 6), some (.ref 7), some (.tmp a), some (iA s.2.1.2.1), some (iA s.2.1.2.2), some (iA s.2.1.1), w6, w7, w8, w9, w10] (mkL Y cd M) T' (fun _ L T => Q (.d .none) L T) Q := by
      intro w6 w7 w8 w9 w10 e8 e9
      subst e8 e9
      refine s_app (p := ¬M.hb = hbOf D) hI.1 ha (by lia) (fun Q h => h) (fun Q h1 h2 => q_ndec (Q := fun b => Q b _ _) h1 fun h => h2 fun z => z h) (fun _ => hv_lit (by decide +kernel)) fun rows1 T2 e1 W1 _ => ?_
      refine s_app (p := ¬M.bb = bbOf D) W1 ha (by lia) (fun Q h => h) (fun Q h1 h2 => q_ndec (Q := fun b => Q b _ _) h1 fun h => h2 fun z => z h) (fun _ => hv_lit (by decide +kernel)) fun rows2 T3 e2 W2 _ => ?_
      refine fr_list (f := iA) (xs := M.trail) (σ := List Str × Option AV) (fun s2 => [some (.ref 6), some (.ref 7), some (.tmp a), some (iA s.2.1.2.1), some (iA s.2.1.2.2), some (iA s.2.1.1), w6, w7, some (iA (hbOf D)), some (iA (bbOf D)), s2.2]) (fun _ => mkL Y cd M)
        (fun d r s2 T' => Rws T T' a s2.1 (3 * D.length + 2 + d.length) ∧ (s2.1 = [] ↔ rows2 = [] ∧ ∀ x ∈ d, ¬TG M x)) (rows2, w10) rfl rfl ⟨W2, ⟨fun h => ⟨h, fun _ h => nomatch h⟩, fun h => h.1⟩⟩
        (fun d r s2 T' P _ hP => ⟨rfl, hP⟩) ?_ ?_
      · intro d x r s2 T' P hd2 hI2 kk
        have hln : (d ++ [x]).length = d.length + 1 := List.length_append
        have hdl : d.length ≤ 1000 := by rw [hd2, List.length_append] at ht; lia
        refine s_app (p := TG M x) hI2.1 ha (by lia) (fun Q h => h) (fun Q h1 h2 => r_if (fun hc => h1 (.inl (by rw [lenI] at hc; exact hc))) fun hc => q_dec (Q := fun b => Q b _ _) (fun hc2 => h1 (.inr (by rw [lenI] at hc2; exact hc2))) fun hc2 => h2 fun z => z.elim (by rw [lenI] at hc; exact hc) (by rw [lenI] at hc2; exact hc2)) (fun _ => hv_lit (by decide +kernel)) fun rows3 T4 e3 W3 _ => ?_
        refine kk (rows3, some (iA x)) T4 ⟨W3.up (by rw [hln]; lia), ?_⟩
        rw [e3, hI2.2]
        exact ⟨fun ⟨⟨a1, a2⟩, a3⟩ => ⟨a1, fun y hy => (List.mem_append.mp hy).elim (a2 y) fun e => by rw [List.mem_singleton.mp e]; exact a3⟩, fun ⟨a1, a2⟩ => ⟨⟨a1, fun y hy => a2 y (List.mem_append_left _ hy)⟩, a2 x (List.mem_append_right _ List.mem_cons_self)⟩⟩
      · intro s2 T' hI2
        refine q a T' s2.1 (hI2.1.up (by lia)) ha ?_
        rw [hI2.2, e2, e1, ← hI.2.2]
        exact ⟨fun ⟨⟨⟨a1, a2⟩, a3⟩, a4⟩ => ⟨⟨⟨a1, trivial⟩, Classical.not_not.mp a2, Classical.not_not.mp a3⟩, a4⟩, fun ⟨⟨⟨a1, _⟩, a2, a3⟩, a4⟩ => ⟨⟨⟨a1, fun z => z a2⟩, fun z => z a3⟩, a4⟩⟩
    cases D with
    | nil => exact r_f (by rw [hb]; decide) (fin _ _ _ _ _ rfl rfl)
    | cons d D =>
      refine r_t (by rw [hb]; exact Int.natCast_nonneg _) ?_
      have w : ∀ Q' : AV → LT, Q' (iA d.hp) (mkL Y cd M) T' → CallOk c.dn.dn (.ref 566) [.ref 7, iA M.b] (mkL Y cd M) T' Q' := fun Q' q' => by rw [hb]; exact k_saved HS (lw h) hD.1 q'
      exact w _ (fin _ _ _ _ _ rfl (congrArg (fun x => some (iA x)) hb))
end
end Mine
end
section
open PySem.Calls
set_option tactic.hygienic false
namespace Mine
structure SL (T₀ T : Tm) (sd fo : Addr) (kvs : List (Int × AV)) (fs : List Int) (n : Nat) : Prop where
  E : ∀ b o, b ≠ sd → b ≠ fo → T₀ b = some o → T b = some o
  sd : T sd = some (.dI kvs)
  fo : T fo = some (.list (fs.map iA))
  vals : ∀ p ∈ kvs, ∃ m : Nat, m ≤ 3 ∧ p.2 = iA m
  l1 : kvs.length ≤ n
  l2 : fs.length ≤ 3 * n
noncomputable def inE (C : List (Nat × Nat)) (s : Int) : Prop := ∃ p ∈ C, ∃ j, j < p.2 ∧ s = ((p.1 + 2 + j : Nat) : Int)
theorem known_of {kvs : List (Int × AV)} (h : ∀ p ∈ kvs, ∃ m : Nat, m ≤ 3 ∧ p.2 = iA m) (z : Int) : ∃ kn : Int, (kvGet kvs z).getD (.d (.int (-1))) = iA kn ∧ (kn = -1 ∨ ∃ m : Nat, m ≤ 3 ∧ kn = m) := by
  unfold kvGet
  cases e : kvs.find? fun kv => kv.1 = z with
  | none => exact ⟨-1, rfl, .inl rfl⟩
  | some p =>
    refine e1a2 (h p (List.mem_of_find?_eq_some e)) fun m hm e2 => ?_
    exact ⟨m, e2, .inr ⟨m, hm, rfl⟩⟩
theorem kvPut_vals {kvs : List (Int × AV)} {z : Int} {v : AV} {P : AV → Prop} (h : ∀ p ∈ kvs, P p.2) (hv : P v) : ∀ p ∈ kvPut kvs z v, P p.2 := by
  intro p hp
  unfold kvPut at hp
  split at hp
  · refine e1a2 (List.mem_map.mp hp) fun q hq x2_ => ?_; subst x2_
    split
    · exact hv
    · exact h q hq
  · rcases List.mem_append.mp hp with hp | hp
    · exact h p hp
    · rw [List.mem_singleton.mp hp]; exact hv
theorem a_dget {c : Cx} {i : Nat} {rest : S} {e k d : E} {l : Loc} {L : List AO} {T : Tm} {K : Loc → LT} {R : AV → LT} {a : Addr} {kvs : List (Int × AV)} {z : Int} {y v : AV} (hT : T a = some (.dI kvs)) (hv : (kvGet kvs z).getD y = v)
    (h1 : ∀ Q : AV → LT, Q (.tmp a) L T → wpE c e l L T Q) (h2 : ∀ Q : AV → LT, Q (iA z) L T → wpE c k l L T Q) (h3 : ∀ Q : AV → LT, Q y L T → wpE c d l L T Q) (q : putNth l i (some v) fun l1 => wpS c rest l1 L T K R) : wpS c (.seq (.asg i (.dget e k d)) rest) l L T K R := by
  let Q : AV → LT := fun v L1 T1 => putNth l i (some v) fun l1 => wpS c rest l1 L1 T1 K R
  subst hv
  have key := h1 (fun o L1 T1 => obj o L1 T1 fun ob0 => ob0.isDict ∧ wpE c k l L1 T1 fun x L2 T2 => wpE c d l L2 T2 fun y L3 T3 => obj o L3 T3 fun ob => (match ob, x with
      | .dS kvs, .d (.str z) => Q ((kvGet kvs z).getD y) L3 T3
      | .dI kvs, .d (.int z) => Q ((kvGet kvs z).getD y) L3 T3
      | .dT kvs, .d (.tuple zs) => (match intsOf zs with | some ks => Q ((kvGet kvs ks).getD y) L3 T3 | none => False)
      | _, _ => False)) ⟨_, hT, trivial, h2 _ (h3 _ ⟨_, hT, q⟩)⟩
  exact key
section
variable {Y : Sy} {cd sd fo : Addr} {M : St} {c : Cx} {T₀ T : Tm} {Q : AV → LT}
theorem SL.addF {kvs : List (Int × AV)} {fs fs' : List Int} {n m : Nat} (S : SL T₀ T sd fo kvs fs n) (hne : sd ≠ fo) (h1 : n ≤ m) (h2 : fs'.length ≤ 3 * m) : SL T₀ (upd T fo (.list (fs'.map iA))) sd fo kvs fs' m :=
  ⟨fun b o hb hb2 e => by rw [upd_ne _ _ hb2]; exact S.E b o hb hb2 e, by rw [upd_ne _ _ hne]; exact S.sd, upd_self .., S.vals, Nat.le_trans S.l1 h1, h2⟩
theorem SL.addS {kvs : List (Int × AV)} {fs : List Int} {n : Nat} {z : Int} {m : Nat} (S : SL T₀ T sd fo kvs fs n) (hne : sd ≠ fo) (hm : m ≤ 3) : SL T₀ (upd T sd (.dI (kvPut kvs z (iA m)))) sd fo (kvPut kvs z (iA m)) fs (n + 1) :=
  ⟨fun b o hb hb2 e => by rw [upd_ne _ _ hb]; exact S.E b o hb hb2 e, upd_self .., by rw [upd_ne _ _ (Ne.symm hne)]; exact S.fo, kvPut_vals (P := fun v => ∃ m : Nat, m ≤ 3 ∧ v = iA m) S.vals ⟨m, hm, rfl⟩, Nat.le_trans (kvPut_len ..) (Nat.succ_le_succ S.l1), Nat.le_trans S.l2 (by lia)⟩
theorem SL.up {kvs : List (Int × AV)} {fs : List Int} {n m : Nat} (S : SL T₀ T sd fo kvs fs n) (h : n ≤ m) : SL T₀ T sd fo kvs fs m := ⟨S.E, S.sd, S.fo, S.vals, Nat.le_trans S.l1 h, Nat.le_trans S.l2 (Nat.mul_le_mul_left 3 h)⟩
variable (HS : SortOk)
include HS
theorem k_env_slots {C : List (Nat × Nat)} {kvs : List (Int × AV)} {fs : List Int} {n : Nat} (h : 1 ≤ c.n) (hC : Chain M.stack C) (hT : Code T cd) (h1 : cd ≠ sd) (h2 : cd ≠ fo) (hne : sd ≠ fo) (hS : SL T T sd fo kvs fs n) (hn : n + C.length ≤ 100000) (hb : ∀ p ∈ C, p.1 < 900000)
    (q : ∀ T' kvs' fs', SL T T' sd fo kvs' fs' (n + C.length) → (∀ s ∈ fs', s ∈ fs ∨ inE C s) → (∀ s ∈ fs, s ∈ fs') → Q (.d .none) (mkL Y cd M) T') :
    CallOk c (.ref 552) [.ref 6, iA (eOf C), iA (cpOf C), .tmp sd, .tmp fo] (mkL Y cd M) T Q := by
  refine c_environment_slots HS h ?_
  refine whl_ind (n := C.length) (σ := (List (Nat × Nat) × List (Int × AV) × List Int) × (Option AV × Option AV × Option AV × Option AV))
    (fun s => [some (.ref 6), some (iA (eOf s.1.1)), some (iA (cpOf s.1.1)), some (.tmp sd), some (.tmp fo), some (.ref 9), some (.tmp cd), s.2.1, s.2.2.1, s.2.2.2.1, s.2.2.2.2]) (fun _ => mkL Y cd M)
    (fun m s T' => m = s.1.1.length ∧ (∃ d, C = d ++ s.1.1) ∧ SL T T' sd fo s.1.2.1 s.1.2.2 (n + (C.length - s.1.1.length)) ∧ (∀ x ∈ s.1.2.2, x ∈ fs ∨ inE C x) ∧ ∀ x ∈ fs, x ∈ s.1.2.2) ((C, kvs, fs), none, none, none, none) rfl rfl
    ⟨rfl, ⟨[], rfl⟩, hS.up (Nat.le_add_right ..), fun _ h => .inl h, fun _ h => h⟩ ?_
  intro m s T1 R hI kk
  obtain ⟨⟨r, kv, fx⟩, w⟩ := s
  cases r with
  | nil => exact q T1 kv fx (hI.2.2.1.up (Nat.add_le_add_left (Nat.sub_le ..) n)) hI.2.2.2.1 hI.2.2.2.2
  | cons p r =>
    have hr : Chain M.stack (p :: r) := hI.2.1.elim fun d e => chain_sub hC e
    have hpC : p ∈ C := hI.2.1.elim fun d e => by rw [e]; exact List.mem_append_right _ List.mem_cons_self
    have hlen : r.length + 1 ≤ C.length := hI.2.1.elim fun d e => by rw [e, List.length_append]; exact Nat.le_add_left ..
    have hSL := hI.2.2.1
    have hn3 := hr.1.n3
    have hpb := hb p hpC
    generalize hN : n + (C.length - (p :: r).length) = N at hSL
    have hN2 : N + 1 = n + (C.length - r.length) := by rw [← hN, List.length_cons]; lia
    have hNb : N + 1 < 1000000 := Nat.lt_of_le_of_lt (Nat.le_trans (Nat.le_of_eq hN2) (Nat.le_trans (Nat.add_le_add_left (Nat.sub_le ..) n) hn)) (by decide)
    refine r_code (hSL.E _ _ h1 h2 hT) hn3 rfl ⟨by decide, ?_⟩
    refine (known_of hSL.vals p.1).elim fun kn hk => ?_
    dsimp only [putNth]
    refine a_dget hSL.sd hk.1 ?_ ?_ ?_ ?_
    · exact fun Q h => h
    · exact fun Q h => h
    · exact fun Q h => h
    -- the rest, from the first slot on
    have key : ∀ f : Nat, p.1 + 2 ≤ f → f ≤ p.1 + 5 → wpS c.dn b_environment_slots_t [some (.ref 6), some (iA p.1), some (iA ((p.2 : Int) + 1)), some (.tmp sd), some (.tmp fo), some (.ref 9), some (.tmp cd), some (iA p.2), some (iA kn), some (iA f), w.2.2.2] (mkL Y cd M) T1 R Q := by
      intro f hf1 hf2
      refine ⟨(rb (by lia)).1, (rb (by lia)).2, (rb (n := p.1 + 2 + p.2) (by lia)).1, (rb (n := p.1 + 2 + p.2) (by lia)).2, ?_⟩
      refine fr_rng (σ := List Int × Option AV) (fun s => [some (.ref 6), some (iA p.1), some (iA ((p.2 : Int) + 1)), some (.tmp sd), some (.tmp fo), some (.ref 9), some (.tmp cd), some (iA p.2), some (iA kn), some (iA f), s.2]) (fun _ => mkL Y cd M)
        (fun j s T' => SL T T' sd fo kv s.1 (N + 1) ∧ s.1.length ≤ fx.length + j ∧ (∀ x ∈ s.1, x ∈ fs ∨ inE C x) ∧ ∀ x ∈ fs, x ∈ s.1) (fx, w.2.2.2) rfl rfl ⟨hSL.up (Nat.le_succ N), Nat.le_refl _, hI.2.2.2.1, hI.2.2.2.2⟩ ?_ ?_
      · intro j s T2 P hj hJ kj
        have hj' : f + j < p.1 + 2 + p.2 := by lia
        have hl2 : fx.length ≤ 3 * N := hSL.l2
        have hj3 : j < 3 := by lia
        refine ⟨_, hJ.1.fo, ⟨_, hJ.1.fo, w_tmpAdd (f := iA) (v := (f : Int) + j) (Nat.lt_of_le_of_lt hJ.1.l2 (by lia)) (kj (s.1 ++ [(f : Int) + j], _) _ ⟨hJ.1.addF hne (Nat.le_refl _) (by rw [List.length_append]; show s.1.length + 1 ≤ _; lia), by rw [List.length_append]; exact Nat.succ_le_succ hJ.2.1, fun x hx => ?_, fun x hx => List.mem_append_left _ (hJ.2.2.2 x hx)⟩)⟩⟩
        rcases List.mem_append.mp hx with hx | hx
        · exact hJ.2.2.1 x hx
        · rw [List.mem_singleton.mp hx]
          exact .inr ⟨p, hpC, f + j - (p.1 + 2), by lia, by lia⟩
      · intro s T2 hJ
        have fin : ∀ T3 kv3, SL T T3 sd fo kv3 s.1 (N + 1) → wpS c.dn (.seq (.ite (.cmp .ge (.loc 8) (.int 0)) (.seq .retN .nil) .nil) (.seq (.asg 2 (.sub (.loc 5) (.bin .add (.loc 1) (.int 1)))) (.seq (.asg 1 (.sub (.loc 5) (.loc 1))) .nil)))
            [some (.ref 6), some (iA p.1), some (iA ((p.2 : Int) + 1)), some (.tmp sd), some (.tmp fo), some (.ref 9), some (.tmp cd), some (iA p.2), some (iA kn), some (iA f), s.2] (mkL Y cd M) T3 R Q := fun T3 kv3 h3 =>
          r_if (fun _ => q T3 kv3 s.1 (h3.up (Nat.le_trans (Nat.le_of_eq hN2) (Nat.add_le_add_left (Nat.sub_le ..) n))) hJ.2.2.1 hJ.2.2.2) fun _ => r_sx (n := p.1 + 1) rfl hr.1.cp (r_sx (n := p.1) rfl hr.1.e (kk r.length ((r, kv3, s.1), _, _, _, _) T3 (by rw [hI.1]; exact Nat.lt_succ_self _) ⟨rfl, tl_sub hI.2.1 rfl, by rw [← hN2]; exact h3, hJ.2.2.1, hJ.2.2.2⟩))
        refine r_if (fun _ => ⟨_, hJ.1.sd, Nat.lt_of_le_of_lt hJ.1.l1 (Nat.lt_of_lt_of_le hNb (by decide)), fin _ (kvPut kv (p.1 : Int) (iA p.2)) ?_⟩) fun _ => fin _ _ hJ.1
        have z := (hSL.addS (z := p.1) hne hn3)
        exact ⟨fun b o hb hb2 e => by rw [upd_ne _ _ hb]; exact hJ.1.E b o hb hb2 e, upd_self .., by rw [upd_ne _ _ (Ne.symm hne)]; exact hJ.1.fo, z.vals, z.l1, hJ.1.l2⟩
    rcases hk.2 with e | ⟨m', hm', e⟩
    · exact r_f (p := 0 < kn) (by lia) (key (p.1 + 2) (Nat.le_refl _) (by lia))
    · refine r_if (p := 0 < kn) (fun _ => ?_) fun _ => key (p.1 + 2) (Nat.le_refl _) (by lia)
      have z := key (p.1 + 2 + m') (by lia) (by lia)
      have e9 : ((p.1 + 2 + m' : Nat) : Int) = (p.1 : Int) + 2 + kn := by rw [e]; rfl
      rw [e9] at z
      exact z
end
end Mine
end
section
open PySem.Calls
set_option tactic.hygienic false
namespace Mine
noncomputable def isSlot (C : List (Nat × Nat)) (D : List Ch) (s : Int) : Prop := inE (allE C D) s ∨ ∃ d ∈ D, ∃ j, j < d.n ∧ s = ((d.b + 1 + j : Nat) : Int)
noncomputable def vis (C : List (Nat × Nat)) (D : List Ch) : Nat := C.length + (D.map fun d => d.env.length + 1).sum
section
variable {Y : Sy} {cd : Addr} {M : St} {c : Cx} {T : Tm} {Q : AV → LT} (HS : SortOk)
theorem inE_sub {A B : List (Nat × Nat)} {s : Int} (h : ∀ p ∈ A, p ∈ B) (k : inE A s) : inE B s := let ⟨p, hp, r⟩ := k; ⟨p, h p hp, r⟩
include HS
theorem k_slots {C : List (Nat × Nat)} {D : List Ch} (h : 3 ≤ c.n) (hT : Code T cd) (he : M.e = eOf C) (hcp : M.cp = cpOf C) (hb : M.b = bOf D) (hC : Chain M.stack C) (hD : Chs M.stack D) (hv : vis C D ≤ 10000) (hl : D.length ≤ 1000) (hs : M.stack.length ≤ 800000)
    (q : ∀ a T' (ms : List Int), Ext T T' → T a = none → T' a = some (.list (ms.map iA)) → (∀ s ∈ ms, isSlot C D s) → (∀ d ∈ D, ∀ j, j < d.n → ((d.b + 1 + j : Nat) : Int) ∈ ms) → ms.length ≤ 3 * vis C D → Q (.tmp a) (mkL Y cd M) T') :
    CallOk c (.ref 559) [.ref 6] (mkL Y cd M) T Q := by
  have pos : ∀ {C' : List (Nat × Nat)}, Chain M.stack C' → ∀ p ∈ C', p.1 < 900000 := fun {C'} k p hp => by
    refine e2a1 (List.append_of_mem hp) fun d r e => ?_
    exact Nat.lt_of_lt_of_le (lt_of_get (chain_sub k e).1.e) (Nat.le_trans hs (by decide))
  refine c_slots HS (lo h) (.inl (.inr fun sd hsd => w_new (by decide) fun fo hfo => ?_))
  have hsf : sd ≠ fo := by rintro rfl; rw [upd_self] at hfo; cases hfo
  have hcs : cd ≠ sd := by rintro rfl; unfold Code at hT; rw [hsd] at hT; cases hT
  have hcf : cd ≠ fo := by rintro rfl; rw [upd_ne _ _ hcs] at hfo; unfold Code at hT; rw [hfo] at hT; cases hT
  have hfo0 : T fo = none := by rw [upd_ne _ _ (Ne.symm hsf)] at hfo; exact hfo
  have hv1 : C.length ≤ vis C D := Nat.le_add_right ..
  generalize hT1 : upd (upd T sd (.dI [])) fo (.list []) = T1
  have S0 : SL T1 T1 sd fo [] [] 0 := ⟨fun _ _ _ _ e => e, by rw [← hT1, upd_ne _ _ hsf]; exact upd_self .., by rw [← hT1]; exact upd_self .., fun _ h => (nomatch h), Nat.le_refl _, Nat.le_refl _⟩
  have E1 : Ext T T1 := hT1 ▸ (Ext.new hsd).set hfo0
  have hback : ∀ {T'}, (∀ b o, b ≠ sd → b ≠ fo → T1 b = some o → T' b = some o) → Ext T T' := fun {T'} k b o e => by
    refine k b o ?_ ?_ (E1 b o e)
    · rintro rfl; rw [hsd] at e; cases e
    · rintro rfl; rw [hfo0] at e; cases e
  have w1 : ∀ {e cp : Int} {C'} {T2 : Tm} {kvs fs} {n : Nat} {Q' : AV → LT}, e = eOf C' → cp = cpOf C' → Chain M.stack C' → SL T1 T2 sd fo kvs fs n → n + C'.length ≤ 100000 →
      (∀ T' kvs' fs', SL T1 T' sd fo kvs' fs' (n + C'.length) → (∀ b o, b ≠ sd → b ≠ fo → T2 b = some o → T' b = some o) → (∀ s ∈ fs', s ∈ fs ∨ inE C' s) → (∀ s ∈ fs, s ∈ fs') → Q' (.d .none) (mkL Y cd M) T') → CallOk c.dn.dn (.ref 552) [.ref 6, iA e, iA cp, .tmp sd, .tmp fo] (mkL Y cd M) T2 Q' := fun {e cp C' T2 kvs fs n Q'} h1 h2 h3 h4 h5 q' => by
    rw [h1, h2]
    exact k_env_slots HS (lw h) h3 (h4.E _ _ hcs hcf (E1 _ _ hT)) hcs hcf hsf (kvs := kvs) (fs := fs) (n := n) ⟨fun _ _ _ _ e => e, h4.sd, h4.fo, h4.vals, h4.l1, h4.l2⟩ h5 (pos h3) fun T' kvs' fs' k1 k2 k3 => q' T' kvs' fs' ⟨fun b o x1 x2 x3 => k1.E b o x1 x2 (h4.E b o x1 x2 x3), k1.sd, k1.fo, k1.vals, k1.l1, k1.l2⟩ k1.E k2 k3
  refine w1 he hcp hC S0 (by lia) fun T2 kv1 fs1 S1 _ i1 _ => ?_
  rw [Nat.zero_add] at S1
  refine k_choices HS (lw h) hb hD (by lia) fun ch T3 h3 hch hT3 => ⟨_, hT3, ?_⟩
  have hsd2 := S1.sd
  have hfo2 := S1.fo
  have S1' : SL T1 T3 sd fo kv1 fs1 C.length := ⟨fun b o x1 x2 x3 => h3 _ _ (S1.E b o x1 x2 x3), h3 _ _ S1.sd, h3 _ _ S1.fo, S1.vals, S1.l1, S1.l2⟩
  have hcsd : ch ≠ sd := by rintro rfl; rw [hsd2] at hch; cases hch
  have hcfo : ch ≠ fo := by rintro rfl; rw [hfo2] at hch; cases hch
  refine fr_list (f := fun d : Ch => iA d.b) (xs := D) (σ := (List (Int × AV) × List Int) × Option AV × Option AV × Option AV × Option AV) (fun s => [some (.ref 6), some (.ref 9), some (.tmp sd), some (.tmp fo), s.2.1, s.2.2.1, s.2.2.2.1, s.2.2.2.2]) (fun _ => mkL Y cd M)
    (fun d r s T' => SL T1 T' sd fo s.1.1 s.1.2 (C.length + (d.map fun d => d.env.length + 1).sum) ∧ T' ch = some (.list (D.map fun d => iA d.b)) ∧ (∀ x ∈ s.1.2, isSlot C D x) ∧ ∀ x ∈ d, ∀ j, j < x.n → ((x.b + 1 + j : Nat) : Int) ∈ s.1.2) ((kv1, fs1), none, none, none, none) rfl rfl
    ⟨S1', hT3, fun x hx => .inl (inE_sub (fun p hp => mem_allE.mpr (.inl hp)) ((i1 x hx).resolve_left fun h => (nomatch h))), fun _ h => nomatch h⟩ (fun d r s T' P hI hP => ⟨_, hI.2.1, rfl, hP⟩) ?_ ?_
  · intro d x r s T4 P hd hI kk
    have hx := (chs_sub hD hd).1
    have hxD : x ∈ D := by rw [hd]; exact List.mem_append_right _ List.mem_cons_self
    have hsum : (d.map fun d => d.env.length + 1).sum + (x.env.length + 1) ≤ (D.map fun d => d.env.length + 1).sum := by
      rw [hd, List.map_append, List.sum_append, List.map_cons, List.sum_cons]; exact Nat.add_le_add_left (Nat.le_add_right ..) _
    have hsum2 : ((d ++ [x]).map fun d => d.env.length + 1).sum = (d.map fun d => d.env.length + 1).sum + (x.env.length + 1) := by rw [List.map_append, List.sum_append]; rfl
    generalize hN : C.length + (d.map fun d => d.env.length + 1).sum = N at hI
    have hN2 : N + (x.env.length + 1) ≤ vis C D := by rw [← hN, Nat.add_assoc]; exact Nat.add_le_add_left hsum _
    have hxb : x.b < 800000 := Nat.lt_of_lt_of_le (lt_of_get hx.nn) hs
    have hn3 := hx.n3
    refine r_sx (n := x.b) rfl hx.nn ⟨(rb (n := x.b + 1) (by lia)).1, (rb (n := x.b + 1) (by lia)).2, (rb (n := x.b + x.n + 1) (by lia)).1, (rb (n := x.b + x.n + 1) (by lia)).2, ?_⟩
    refine fr_rng (σ := List Int × Option AV) (fun s2 => [some (.ref 6), some (.ref 9), some (.tmp sd), some (.tmp fo), some (iA x.b), some (iA x.n), s2.2, s.2.2.2.2]) (fun _ => mkL Y cd M)
      (fun j s2 T' => SL T1 T' sd fo s.1.1 s2.1 (N + 1) ∧ T' ch = some (.list (D.map fun d => iA d.b)) ∧ s2.1.length ≤ s.1.2.length + j ∧ (∀ y ∈ s2.1, isSlot C D y) ∧ (∀ y ∈ d, ∀ j, j < y.n → ((y.b + 1 + j : Nat) : Int) ∈ s2.1) ∧ ∀ i, i < j → ((x.b + 1 + i : Nat) : Int) ∈ s2.1) (s.1.2, s.2.2.2.1) rfl rfl
      ⟨hI.1.up (Nat.le_succ N), hI.2.1, Nat.le_refl _, hI.2.2.1, hI.2.2.2, fun _ h => absurd h (Nat.not_lt_zero _)⟩ ?_ ?_
    · intro j s2 T5 P2 hj hJ kj
      have hj' : j < x.n := by lia
      have hl2 := hI.1.l2
      have e2 : (x.b : Int) + 1 + j = ((x.b + 1 + j : Nat) : Int) := rfl
      refine ⟨_, hJ.1.fo, ⟨_, hJ.1.fo, w_tmpAdd (f := iA) (v := (x.b : Int) + 1 + j) (Nat.lt_of_le_of_lt hJ.1.l2 (by lia)) (kj (s2.1 ++ [(x.b : Int) + 1 + j], _) _ ⟨hJ.1.addF hsf (Nat.le_refl _) (by rw [List.length_append]; show s2.1.length + 1 ≤ _; lia), by rw [upd_ne _ _ hcfo]; exact hJ.2.1, by rw [List.length_append]; exact Nat.succ_le_succ hJ.2.2.1, fun y hy => ?_, fun y hy i hi => List.mem_append_left _ (hJ.2.2.2.2.1 y hy i hi), fun i hi => ?_⟩)⟩⟩
      · rcases List.mem_append.mp hy with hy | hy
        · exact hJ.2.2.2.1 y hy
        · rw [List.mem_singleton.mp hy]; exact .inr ⟨x, hxD, j, hj', e2⟩
      · rcases Nat.lt_succ_iff_lt_or_eq.mp hi with hi | rfl
        · exact List.mem_append_left _ (hJ.2.2.2.2.2 i hi)
        · exact List.mem_append_right _ List.mem_cons_self
    · intro s2 T5 hJ
      have hl2 := hI.1.l2
      refine r_sx (n := x.b + x.n + 1) rfl hx.e (r_sx (n := x.b + x.n + 2) rfl hx.cp (w1 rfl rfl hx.ch hJ.1 (by lia) fun T6 kv6 fs6 S6 E6 i6 j6 => ?_))
      refine kk ((kv6, fs6), _, _, _, _) T6 ⟨by rw [hsum2, ← Nat.add_assoc, hN]; exact S6.up (by lia), E6 _ _ hcsd hcfo hJ.2.1, fun y hy => (i6 y hy).elim (hJ.2.2.2.1 y) fun z => .inl (inE_sub (fun p hp => mem_allE.mpr (.inr ⟨x, hxD, hp⟩)) z), fun y hy i hi => j6 _ ?_⟩
      rcases List.mem_append.mp hy with hy | hy
      · exact hJ.2.2.2.2.1 y hy i hi
      · rw [List.mem_singleton.mp hy] at hi ⊢; exact hJ.2.2.2.2.2 i (by lia)
  · intro s T4 hI
    refine ⟨_, hI.1.fo, s.1.2, rfl, fun ms hp => w_new (by rw [List.length_map, hp.length_eq]; exact Nat.lt_of_le_of_lt hI.1.l2 (by unfold vis at hv; lia)) fun a ha => ?_⟩
    exact q a _ ms ((hback hI.1.E).trans (Ext.new ha)) ((hback hI.1.E).fresh ha) (upd_self ..) (fun x hx => hI.2.2.1 x (hp.mem_iff.mp hx)) (fun d hd j hj => hp.mem_iff.mpr (hI.2.2.2 d hd j hj)) (by rw [hp.length_eq]; exact hI.1.l2)
end
end Mine
end
section
open PySem.Calls
set_option tactic.hygienic false
namespace Mine
theorem r_strne {s : Str} {Q : Bool → Prop} (ok : PyData.strOk s = true) (h1 : s ≠ emp → Q true) (h2 : ¬s ≠ emp → Q false) : wpIf (SeqAt.shaped (.str s) && SeqAt.shaped (.str emp)) (Q (!(PyData.eqv (.str s) (.str emp)))) False := by
  have e1 : SeqAt.shaped (.str s) = true := (Bool.and_eq_true _ _).mpr ⟨ok, rfl⟩
  have e2 : SeqAt.shaped (.str emp) = true := by decide +kernel
  rw [e1, e2]
  show Q (!(s == emp))
  by_cases h : s = emp
  · rw [beq_iff_eq.mpr h]; exact h2 fun z => z h
  · rw [beq_eq_false_iff_ne.mpr h]; exact h1 h
theorem inE_get {st : List SV} {C : List (Nat × Nat)} {s : Int} (h : Chain st C) (k : inE C s) : ∃ (n : Nat) (x : Cell), s = n ∧ st[n]? = some (.c x) := by
  obtain ⟨p, hp, j, hj, e⟩ := k
  refine e2a1 (List.append_of_mem hp) fun d r e2 => ?_
  refine e1a1 ((chain_sub h e2).1.sl j hj) fun x hx => ?_
  exact ⟨_, x, e, hx⟩
theorem slot_get {st : List SV} {C : List (Nat × Nat)} {D : List Ch} {s : Int} (hC : Chain st C) (hD : Chs st D) (k : isSlot C D s) : ∃ (n : Nat) (x : Cell), s = n ∧ st[n]? = some (.c x) := by
  rcases k with ⟨p, hp, r⟩ | ⟨d, hd, j, hj, e⟩
  · rcases mem_allE.mp hp with hp | ⟨d, hd, hp⟩
    · exact inE_get hC ⟨p, hp, r⟩
    · refine e1a1 (chs_env hD d hd) fun _ z => ?_
      exact inE_get z.ch ⟨p, hp, r⟩
  · refine e1a1 (chs_env hD d hd) fun _ z => ?_
    refine e1a1 (z.ar j hj) fun x hx => ?_
    exact ⟨_, x, e, hx⟩
section
variable {Y : Sy} {cd : Addr} {M : St} {c : Cx} {T : Tm} {Q : AV → LT} (HS : SortOk)
include HS
theorem k_ct {x : Cell} {slot : Int} (h : 3 ≤ c.n) (O : YOk Y) (hf : fnOk M.heap) (q : ∀ s : Str, PyData.strOk s = true → s.length ≤ 1000 → (s ≠ emp ↔ ctB M.heap M.stack.length x slot) → Q (stA s) (mkL Y cd M) T) :
    CallOk c (.ref 573) [.ref 6, cA x, iA slot] (mkL Y cd M) T Q :=
  k_cell_trouble HS h O hf (fun hn => q emp (by decide +kernel) (by decide +kernel) ⟨fun z => absurd rfl z, fun z => absurd z hn⟩) fun hp s h1 h2 h3 => q s h1 h2 ⟨fun _ => hp, fun _ => h3⟩
theorem k_troubles {C : List (Nat × Nat)} {D : List Ch} {many : Nat} (h : 5 ≤ c.n) (O : YOk Y) (hf : fnOk M.heap) (hT : Code T cd) (he : M.e = eOf C) (hcp : M.cp = cpOf C) (hb : M.b = bOf D) (hC : Chain M.stack C) (hD : Chs M.stack D) (hv : vis C D ≤ 10000) (hl : D.length ≤ 1000) (hs : M.stack.length ≤ 800000) (ht : M.trail.length ≤ 1000)
    (hr : M.roots.length ≤ 10) (hm : many = 0 ∨ many < M.x.length) (hm2 : many ≤ 10)
    (q : ∀ a T' rows (ms : List Int), Ext T T' → T' a = some (.list (rows.map stA)) → (∀ r ∈ rows, PyData.strOk r = true) → (∀ s ∈ ms, isSlot C D s) → (∀ d ∈ D, ∀ j, j < d.n → ((d.b + 1 + j : Nat) : Int) ∈ ms) →
      (rows = [] ↔ ((((CG D M.stack.length M.heap.length M.trail.length ∧ M.hb = hbOf D ∧ M.bb = bbOf D) ∧ ∀ x ∈ M.trail, ¬TG M x) ∧ ∀ x ∈ M.roots, ¬ctB M.heap M.stack.length x (-1)) ∧ ∀ j, j < many → ∀ x, M.x[1 + j]? = some x → ¬ctB M.heap M.stack.length x (-1)) ∧ ∀ s ∈ ms, ∀ x, M.stack[s.toNat]? = some (.c x) → ¬ctB M.heap M.stack.length x s) → Q (.tmp a) (mkL Y cd M) T') :
    CallOk c (.ref 587) [.ref 6, iA many] (mkL Y cd M) T Q := by
  refine c_troubles HS (lo h) (k_chain_troubles HS (lw h) hb hD hl ht fun a T1 rows1 W1 ha e1 => ?_)
  refine fr_list (f := cA) (xs := M.roots) (σ := List Str × Option AV × Option AV) (fun s => [some (.ref 6), some (iA many), some (.tmp a), s.2.1, s.2.2, none, none]) (fun _ => mkL Y cd M) (fun d r s T' => Rws T T' a s.1 (10000 + d.length) ∧ (s.1 = [] ↔ rows1 = [] ∧ ∀ x ∈ d, ¬ctB M.heap M.stack.length x (-1))) (rows1, none, none) rfl rfl
    ⟨W1, ⟨fun h => ⟨h, fun _ h => nomatch h⟩, fun h => h.1⟩⟩ (fun d r s T' P _ hP => ⟨rfl, hP⟩) ?_ ?_
  · intro d x r s T' P hd hI kk
    have hln : (d ++ [x]).length = d.length + 1 := List.length_append
    have hdl : d.length ≤ 10 := by rw [hd, List.length_append] at hr; lia
    refine k_ct HS (lw h) O hf fun t ht1 ht2 ht3 => ?_
    refine s_app (p := t ≠ emp) hI.1 ha (by lia) (fun Q h => h) (fun Q h1 h2 => r_strne (Q := fun b => Q b _ _) ht1 h1 h2) (fun _ Q hz => ⟨by decide +kernel, ht2, fun z hz2 => hz z (hz2 (by decide +kernel) ht1)⟩) fun rows' T2 e2 W2 _ => ?_
    refine kk (rows', _, _) T2 ⟨W2.up (by rw [hln]; lia), ?_⟩
    rw [e2, hI.2, ht3]
    exact ⟨fun ⟨⟨a1, a2⟩, a3⟩ => ⟨a1, fun y hy => (List.mem_append.mp hy).elim (a2 y) fun e => by rw [List.mem_singleton.mp e]; exact a3⟩, fun ⟨a1, a2⟩ => ⟨⟨a1, fun y hy => a2 y (List.mem_append_left _ hy)⟩, a2 x (List.mem_append_right _ List.mem_cons_self)⟩⟩
  · intro s T2 hI
    refine ⟨by decide, by decide, (rb (n := many + 1) (by lia)).1, (rb (n := many + 1) (by lia)).2, ?_⟩
    refine fr_rng (σ := List Str × Option AV × Option AV) (fun s2 => [some (.ref 6), some (iA many), some (.tmp a), s.2.1, s2.2.1, s2.2.2, none]) (fun _ => mkL Y cd M) (fun j s2 T' => Rws T T' a s2.1 (11000 + j) ∧ (s2.1 = [] ↔ s.1 = [] ∧ ∀ i, i < j → ∀ x, M.x[1 + i]? = some x → ¬ctB M.heap M.stack.length x (-1))) (s.1, s.2.2, none) rfl rfl
      ⟨hI.1.up (by lia), ⟨fun h => ⟨h, fun _ h => absurd h (Nat.not_lt_zero _)⟩, fun h => h.1⟩⟩ ?_ ?_
    · intro j s2 T3 P hj hJ kk
      rw [one_add_sub] at hj
      have hx : M.x[1 + j]? = some M.x[1 + j] := List.getElem?_eq_getElem (by lia)
      refine r_ix (k := (1 : Int) + j) (by lia) ((congrArg (fun k => M.x[k]?) (show ((1 : Int) + j).toNat = 1 + j by lia)).trans hx) ?_
      refine k_ct HS (lw h) O hf fun t ht1 ht2 ht3 => ?_
      refine s_app (p := t ≠ emp) hJ.1 ha (by lia) (fun Q h => h) (fun Q h1 h2 => r_strne (Q := fun b => Q b _ _) ht1 h1 h2) (fun _ Q hz => ⟨⟨by decide +kernel, by decide +kernel⟩, ⟨(by show ((1 : Int) + j).natAbs < 10 ^ 12; lia), ⟨⟨by decide +kernel, by decide +kernel⟩, ⟨⟨ht2, ht1⟩, fun z hz2 => hz z hz2⟩⟩⟩⟩) fun rows' T4 e2 W2 _ => ?_
      refine kk (rows', _, _) T4 ⟨W2, ?_⟩
      rw [e2, hJ.2, ht3]
      exact ⟨fun ⟨⟨a1, a2⟩, a3⟩ => ⟨a1, fun i hi y hy => (Nat.lt_succ_iff_lt_or_eq.mp hi).elim (fun hi => a2 i hi y hy) fun e => by rw [e, hx] at hy; cases hy; exact a3⟩, fun ⟨a1, a2⟩ => ⟨⟨a1, fun i hi y hy => a2 i (Nat.lt_succ_of_lt hi) y hy⟩, a2 j (Nat.lt_succ_self j) _ hx⟩⟩
    · intro s2 T3 hJ
      refine k_slots HS (lw h) (hJ.1.E _ _ hT) he hcp hb hC hD hv hl hs fun sl T4 ms hE4 hsl0 hsl hms1 hms2 hmsl => ⟨_, hsl, ?_⟩
      have hsla : sl ≠ a := by
        rintro rfl
        have z := hJ.1.a
        rw [hsl0] at z; cases z
      refine fr_list (f := iA) (xs := ms) (σ := List Str × Option AV × Option AV) (fun s3 => [some (.ref 6), some (iA many), some (.tmp a), s.2.1, s3.2.1, s2.2.2, s3.2.2]) (fun _ => mkL Y cd M) (fun d r s3 T' => Rws T T' a s3.1 (12000 + d.length) ∧ T' sl = some (.list (ms.map iA)) ∧ (s3.1 = [] ↔ s2.1 = [] ∧ ∀ y ∈ d, ∀ x, M.stack[y.toNat]? = some (.c x) → ¬ctB M.heap M.stack.length x y)) (s2.1, s2.2.1, none) rfl rfl
        ⟨(hJ.1.ext hE4).up (by rw [one_add_sub]; show _ ≤ 12000 + 0; lia), hsl, ⟨fun h => ⟨h, fun _ h => nomatch h⟩, fun h => h.1⟩⟩ (fun d r s T' P hI hP => ⟨_, hI.2.1, rfl, hP⟩) ?_ ?_
      · intro d y r s3 T5 P hd hK kk
        have hln : (d ++ [y]).length = d.length + 1 := List.length_append
        have hdl : d.length ≤ 30000 := by rw [hd, List.length_append] at hmsl; lia
        have hyS := hms1 y (by rw [hd]; exact List.mem_append_right _ List.mem_cons_self)
        refine (slot_get hC hD hyS).elim fun n hn => hn.elim fun x hx => ?_
        have hx2 : M.stack[y.toNat]? = some (.c x) := by rw [hx.1]; exact hx.2
        have hyn : y.natAbs < 10 ^ 12 := by have := lt_of_get hx.2; rw [hx.1]; show n < _; lia
        refine r_sx hx.1 hx.2 (k_ct HS (lw h) O hf fun t ht1 ht2 ht3 => ?_)
        refine s_app (p := t ≠ emp) hK.1 ha (by lia) (fun Q h => h) (fun Q h1 h2 => r_strne (Q := fun b => Q b _ _) ht1 h1 h2) (fun _ Q hz => ⟨⟨by decide +kernel, by decide +kernel⟩, ⟨hyn, ⟨⟨by decide +kernel, by decide +kernel⟩, ⟨⟨ht2, ht1⟩, fun z hz2 => hz z hz2⟩⟩⟩⟩) fun rows' T6 e2 W2 E2 => ?_
        refine kk (rows', _, _) T6 ⟨W2.up (by rw [hln]; lia), E2 _ _ hsla hK.2.1, ?_⟩
        rw [e2, hK.2.2, ht3]
        exact ⟨fun ⟨⟨a1, a2⟩, a3⟩ => ⟨a1, fun z hz x' hx' => (List.mem_append.mp hz).elim (fun hz => a2 z hz x' hx') fun e => by rw [List.mem_singleton.mp e] at hx' ⊢; rw [hx2] at hx'; cases hx'; exact a3⟩, fun ⟨a1, a2⟩ => ⟨⟨a1, fun z hz => a2 z (List.mem_append_left _ hz)⟩, a2 y (List.mem_append_right _ List.mem_cons_self) x hx2⟩⟩
      · intro s3 T5 hK
        refine q a T5 s3.1 ms hK.1.E hK.1.a hK.1.ok hms1 hms2 ?_
        rw [hK.2.2, hJ.2, hI.2, e1, one_add_sub]
end
end Mine
end
section
open PySem.Calls
set_option tactic.hygienic false
namespace Mine
theorem kvGet_put {kvs : List (Int × AV)} {k z : Int} {v : AV} (h : z = k ∨ (kvGet kvs z).isSome = true) : (kvGet (kvPut kvs k v) z).isSome = true := by
  have some_iff : ∀ (l : List (Int × AV)) (z : Int), (kvGet l z).isSome = true ↔ ∃ p ∈ l, p.1 = z := fun l z => by
    unfold kvGet
    rw [Option.isSome_map, List.find?_isSome]
    exact ⟨fun ⟨p, hp, e⟩ => ⟨p, hp, of_decide_eq_true e⟩, fun ⟨p, hp, e⟩ => ⟨p, hp, decide_eq_true e⟩⟩
  rw [some_iff] at h ⊢
  unfold kvPut
  split
  · rename_i ha
    refine e1a2 (List.any_eq_true.mp ha) fun p hp e => ?_
    have e := of_decide_eq_true e
    rcases h with rfl | ⟨p', hp', e'⟩
    · exact ⟨_, List.mem_map_of_mem hp, by rw [if_pos e]; exact e⟩
    · exact ⟨_, List.mem_map_of_mem hp', by split <;> exact e'⟩
  · rcases h with rfl | ⟨p', hp', e'⟩
    · exact ⟨_, List.mem_append_right _ List.mem_cons_self, rfl⟩
    · exact ⟨p', List.mem_append_left _ hp', e'⟩
theorem r_in3p {t : Int} {P N : Prop} (h1 : t = 0 ∨ t = 2 ∨ t = 3 → P) (h2 : N) : wpIf (([.int 0, .int 2, .int 3] : List PyData).any fun z => PyData.eqv z (.int t)) P N := by
  rw [in3]; exact r_if h1 fun _ => h2
section
variable {Y : Sy} {cd : Addr} {M : St} {c : Cx} {T : Tm} {Q : AV → LT} {K : Loc → LT} {R : AV → LT} (HS : SortOk)
include HS
theorem sf_tail {C : List (Nat × Nat)} {a : Addr} {T₀ : Tm} {l3 l4 l5 l6 l7 l8 l9 l10 l11 l12 l13 l14 : Option AV} (h : 3 ≤ c.n) (he : M.e = eOf C) (hC : Chain M.stack C) (hl : C.length < 100000) (hE : Ext T₀ T) (ha : T a = some (.list [])) (q : ∀ T', Ext T₀ T' → T' a = some (.list []) → R (.tmp a) (mkL Y cd M) T') :
    wpS c b_state_faults_t [some (.ref 6), some (.ref 7), some (.tmp a), l3, l4, l5, l6, l7, l8, l9, l10, l11, l12, l13, l14, none, none] (mkL Y cd M) T K R := by
  refine k_environments HS (lv h) he hC hl fun ev T1 h1 _ hT1 => ⟨_, hT1, ?_⟩
  refine fr_list (f := fun p : Nat × Nat => iA p.1) (xs := C) (σ := Int × Option AV) (fun s => [some (.ref 6), some (.ref 7), some (.tmp a), l3, l4, l5, l6, l7, l8, l9, l10, l11, l12, l13, l14, some (iA s.1), s.2]) (fun _ => mkL Y cd M)
    (fun d r s T' => T' = T1 ∧ eOf r < s.1) (M.e + 1, none) rfl rfl ⟨rfl, by rw [he]; exact Int.lt_succ _⟩ (fun d r s T' P hI hP => ⟨_, by rw [hI.1]; exact hT1, rfl, hP⟩) ?_ fun s T' hI => by rw [hI.1]; exact q T1 (hE.trans h1) (h1 _ _ ha)
  intro d x r s T' P hd hI kk
  refine r_f (p := s.1 ≤ (x.1 : Int)) (Int.not_le.mpr hI.2) (kk ((x.1 : Int), _) T' ⟨hI.1, ?_⟩)
  have hx := (chain_sub hC hd).1
  cases r with
  | nil => exact Int.lt_of_lt_of_le (by decide) (Int.natCast_nonneg x.1)
  | cons y r => exact Int.ofNat_lt.mpr (chain_low hx List.mem_cons_self)
theorem sf_one {x : Ch} {a : Addr} {T₀ : Tm} {l3 l4 l5 l7 l10 l11 l12 l13 l14 : Option AV} (htl : M.trail.length ≤ 1000) (hx1 : x.tr < 1000000) (hx2 : x.hp ≤ M.heap.length) (hhl : M.heap.length < 900000) (hE : Ext T₀ T) (ha : T a = some (.list []))
    (hw : ∀ (i : Nat) y, i < x.hp → M.heap[i]? = some y → ptr y → (x.hp : Int) ≤ y.2 → (i : Int) ∈ M.trail.drop x.tr)
    (q : ∀ T' l10 l11 l12 l13 l14, Ext T T' → K [some (.ref 6), some (.ref 7), some (.tmp a), some (iA x.b), some (iA x.tr), some (iA x.hp), some (iA x.b), l7, some (iA x.tr), some (iA x.hp), l10, l11, l12, l13, l14, none, none] (mkL Y cd M) T') :
    wpS c b_state_faults_u [some (.ref 6), some (.ref 7), some (.tmp a), l3, l4, l5, some (iA x.b), l7, some (iA x.tr), some (iA x.hp), l10, l11, l12, l13, l14, none, none] (mkL Y cd M) T K R := by
  refine .inl (.inr fun sd hsd => ⟨Int.natCast_nonneg _, (by unfold bigI; lia), w_new (by rw [List.length_drop, List.length_map]; lia) fun tl htl0 => ?_⟩)
  have hst : sd ≠ tl := by rintro rfl; rw [upd_self] at htl0; cases htl0
  have htl1 : T tl = none := by rw [upd_ne _ _ (Ne.symm hst)] at htl0; exact htl0
  have em : (M.trail.map iA).drop ((x.tr : Int)).toNat = (M.trail.drop x.tr).map iA := (List.map_drop ..).symm
  rw [em]
  refine ⟨_, upd_self .., ?_⟩
  refine fr_list (f := iA) (xs := M.trail.drop x.tr) (σ := List (Int × AV) × Option AV) (fun s => [some (.ref 6), some (.ref 7), some (.tmp a), l3, l4, l5, some (iA x.b), l7, some (iA x.tr), some (iA x.hp), some (.tmp sd), s.2, l12, l13, l14, none, none]) (fun _ => mkL Y cd M)
    (fun d r s T' => Ext T T' ∧ T' tl = some (.list ((M.trail.drop x.tr).map iA)) ∧ T' sd = some (.dI s.1) ∧ s.1.length ≤ d.length ∧ ∀ z ∈ d, (kvGet s.1 z).isSome = true) ([], l11) rfl rfl
    ⟨(Ext.new hsd).set htl1, upd_self .., by rw [upd_ne _ _ hst]; exact upd_self .., Nat.le_refl _, fun _ h => nomatch h⟩ (fun d r s T' P hI hP => ⟨_, hI.2.1, rfl, hP⟩) ?_ ?_
  · intro d y r s T' P hd hI kk
    have hdl : d.length ≤ 1000 := by
      have z : (M.trail.drop x.tr).length ≤ 1000 := by rw [List.length_drop]; lia
      rw [hd, List.length_append] at z; lia
    refine ⟨_, hI.2.2.1, Nat.lt_of_le_of_lt hI.2.2.2.1 (Nat.lt_of_le_of_lt hdl (by decide)), kk (kvPut s.1 y (.d (.bool true)), _) _ ⟨hI.1.set hsd, by rw [upd_ne _ _ (Ne.symm hst)]; exact hI.2.1, upd_self .., by rw [List.length_append]; exact Nat.le_trans (kvPut_len ..) (Nat.succ_le_succ hI.2.2.2.1), fun z hz => kvGet_put ?_⟩⟩
    rcases List.mem_append.mp hz with hz | hz
    · exact .inr (hI.2.2.2.2 z hz)
    · exact .inl (List.mem_singleton.mp hz)
  · intro s T2 hI
    refine ⟨(rb (by lia)).1, (rb (by lia)).2, ?_⟩
    refine rng0 (n := x.hp) (σ := Option AV × Option AV × Option AV) (fun s2 => [some (.ref 6), some (.ref 7), some (.tmp a), l3, l4, l5, some (iA x.b), l7, some (iA x.tr), some (iA x.hp), some (.tmp sd), s.2, s2.1, s2.2.1, s2.2.2, none, none]) (fun _ => mkL Y cd M) (fun j s2 T' => T' sd = some (.dI s.1) ∧ Ext T T') (l12, l13, l14) rfl rfl ⟨hI.2.2.1, hI.1⟩ ?_ ?_
    · intro j s2 T' P hj hJ kk
      have hy : M.heap[j]? = some M.heap[j] := List.getElem?_eq_getElem (Nat.lt_of_lt_of_le hj hx2)
      generalize M.heap[j] = y at hy
      have k := kk (some (iA j), some (iA y.1), some (iA y.2)) T' hJ
      refine r_ix (k := (j : Int)) (Int.natCast_nonneg j) hy (r_in3p (t := y.1) (fun hp => r_if (p := (x.hp : Int) ≤ y.2) (fun hc => ⟨_, hJ.1, ?_⟩) fun _ => k) k)
      have z := hI.2.2.2.2 _ (hw j y hj hy hp hc)
      exact r_bf (b := !(kvGet s.1 (j : Int)).isSome) (by rw [z]; rfl) k
    · intro s2 T' hJ
      exact q T' _ _ _ _ _ hJ.2
theorem k_state_faults {C : List (Nat × Nat)} {D : List Ch} (h : 5 ≤ c.n) (he : M.e = eOf C) (hb : M.b = bOf D) (hC : Chain M.stack C) (hD : Chs M.stack D) (hm : Mono D M.trail.length M.heap.length) (htop : ∀ d ∈ D, d.b + d.n + 8 ≤ M.stack.length) (hl : D.length ≤ 1000) (hlC : C.length < 100000)
    (htl : M.trail.length ≤ 1000) (hhl : M.heap.length < 900000) (hw : ∀ x ∈ D, ∀ (i : Nat) y, i < x.hp → M.heap[i]? = some y → ptr y → (x.hp : Int) ≤ y.2 → (i : Int) ∈ M.trail.drop x.tr)
    (q : ∀ a T', Ext T T' → T' a = some (.list []) → Q (.tmp a) (mkL Y cd M) T') : CallOk c (.ref 545) [.ref 6] (mkL Y cd M) T Q := by
  refine c_state_faults HS (lo h) (w_new (vs := []) (by decide) fun a ha => k_choices HS (lw h) hb hD (by lia) fun ch T1 h1 hch hT1 => ⟨_, hT1, ?_⟩)
  refine fr_list (f := fun d : Ch => iA d.b) (xs := D) (σ := (Int × Int × Int) × (Option AV × Option AV × Option AV × Option AV) × (Option AV × Option AV × Option AV × Option AV × Option AV)) (fun s => [some (.ref 6), some (.ref 7), some (.tmp a), some (iA s.1.1), some (iA s.1.2.1), some (iA s.1.2.2), s.2.1.1, s.2.1.2.1, s.2.1.2.2.1, s.2.1.2.2.2, s.2.2.1, s.2.2.2.1, s.2.2.2.2.1, s.2.2.2.2.2.1, s.2.2.2.2.2.2, none, none]) (fun _ => mkL Y cd M)
    (fun d r s T' => Ext T1 T' ∧ (∀ y ∈ r, ((y.b + y.n + 8 : Nat) : Int) ≤ s.1.1) ∧ (∀ y ∈ r, (y.tr : Int) ≤ s.1.2.1) ∧ ∀ y ∈ r, (y.hp : Int) ≤ s.1.2.2) ((M.stack.length, M.trail.length, M.heap.length), (none, none, none, none), none, none, none, none, none) (by rw [lenI, lenI, lenI]; rfl) rfl
    ⟨Ext.refl T1, fun y hy => Int.ofNat_le.mpr (htop y hy), fun y hy => Int.ofNat_le.mpr (hm.all y hy).1, fun y hy => Int.ofNat_le.mpr (hm.all y hy).2.1⟩ (fun d r s T' P hI hP => ⟨_, hI.1 _ _ hT1, rfl, hP⟩) ?_ fun s T' hI => sf_tail HS (T₀ := T) (lv h) he hC hlC (((Ext.new ha).trans h1).trans hI.1) (hI.1 _ _ (h1 _ _ (upd_self ..))) fun T2 hE2 hT2 => q a T2 hE2 hT2
  intro d x r s T' P hd hI kk
  have hx := (chs_sub hD hd).1
  have hxm : x ∈ D := by rw [hd]; exact List.mem_append_right _ List.mem_cons_self
  have hmx := hm.all x hxm
  have hrm : ∀ {y}, y ∈ r → x.tr ≥ y.tr ∧ x.hp ≥ y.hp := fun {y} hy => by
    have z : ∀ {d : List Ch} {t h : Nat}, Mono (d ++ x :: r) t h → Mono r x.tr x.hp := by
      intro d
      induction d with
      | nil => exact fun m => m.2.2.2
      | cons _ _ ih => exact fun m => ih m.2.2.2
    rw [hd] at hm
    exact ⟨((z hm).all y hy).1, ((z hm).all y hy).2.1⟩
  refine r_sx (n := x.b) rfl hx.nn (r_f (p := s.1.1 < (x.b : Int) + x.n + 8) (Int.not_lt.mpr (hI.2.1 x List.mem_cons_self)) ?_)
  refine r_sx (n := x.b + x.n + 5) rfl hx.tr (r_sx (n := x.b + x.n + 6) rfl hx.hp ?_)
  refine r_f (p := s.1.2.1 < (x.tr : Int)) (Int.not_lt.mpr (hI.2.2.1 x List.mem_cons_self)) (r_f (p := s.1.2.2 < (x.hp : Int)) (Int.not_lt.mpr (hI.2.2.2 x List.mem_cons_self)) ?_)
  exact sf_one HS (T₀ := T') htl (by lia) hmx.2.1 hhl (Ext.refl T') (hI.1 _ _ (h1 _ _ (upd_self ..))) (hw x hxm) fun T2 l10 l11 l12 l13 l14 hE2 => kk (((x.b : Int), (x.tr : Int), (x.hp : Int)), (_, _, _, _), l10, l11, l12, l13, l14) T2
    ⟨hI.1.trans hE2, fun y hy => Int.ofNat_le.mpr (hx.sep y hy), fun y hy => Int.ofNat_le.mpr (hrm hy).1, fun y hy => Int.ofNat_le.mpr (hrm hy).2⟩
end
end Mine
end
section
open PySem.Calls
namespace Mine
noncomputable def hfB (hp : List Cell) (a : Int) (x : Cell) : Prop :=
  x.1 = 1 ∨ (x.1 = 6 ∧ x.2 = 0) ∨ (x.1 = 0 ∧ ((x.2 < 0 ∨ (hp.length : Int) ≤ x.2) ∨ a < x.2)) ∨ (x.1 = 3 ∧ (x.2 < 0 ∨ (hp.length : Int) ≤ x.2 + 1)) ∨
  (x.1 = 2 ∧ ((x.2 < 0 ∨ (hp.length : Int) ≤ x.2 ∨ (cellAt hp x.2).1 ≠ 6) ∨ (hp.length : Int) ≤ x.2 + ar (cellAt hp x.2).2))
noncomputable def badB (hp : List Cell) (a : Nat) : Bool := @decide (hfB hp a (cellAt hp a)) (Classical.propDecidable _)
theorem badB_iff {hp : List Cell} {a : Nat} : badB hp a = true ↔ hfB hp a (cellAt hp a) := by unfold badB; exact @decide_eq_true_iff _ (Classical.propDecidable _)
section
variable {hp : List Cell} {a : Int} {x : Cell}
theorem hf0 (h : x.1 = 0) : hfB hp a x ↔ ((x.2 < 0 ∨ (hp.length : Int) ≤ x.2) ∨ a < x.2) := by unfold hfB; rw [h]; simp
theorem hf3 (h : x.1 = 3) : hfB hp a x ↔ (x.2 < 0 ∨ (hp.length : Int) ≤ x.2 + 1) := by unfold hfB; rw [h]; simp
theorem hf2 (h : x.1 = 2) : hfB hp a x ↔ ((x.2 < 0 ∨ (hp.length : Int) ≤ x.2 ∨ (cellAt hp x.2).1 ≠ 6) ∨ (hp.length : Int) ≤ x.2 + ar (cellAt hp x.2).2) := by unfold hfB; rw [h]; simp
theorem hf6 (h : x.1 = 6) : hfB hp a x ↔ x.2 = 0 := by unfold hfB; rw [h]; simp
theorem hf_no (h0 : x.1 ≠ 0) (h1 : x.1 ≠ 1) (h2 : x.1 ≠ 2) (h3 : x.1 ≠ 3) (h6 : ¬(x.1 = 6 ∧ x.2 = 0)) : ¬hfB hp a x := fun z => z.elim h1 fun z => z.elim h6 fun z => z.elim (fun z => h0 z.1) fun z => z.elim (fun z => h3 z.1) fun z => h2 z.1
end
section
variable {Y : Sy} {cd : Addr} {M : St} {c : Cx} {T : Tm} {Q : AV → LT} (HS : SortOk)
include HS
theorem k_cell_fault {a : Nat} {x : Cell} (h : 3 ≤ c.n) (O : YOk Y) (hf : fnOk M.heap) (hx : M.heap[a]? = some x) (q : ∀ s : Str, PyData.strOk s = true → (s ≠ emp ↔ hfB M.heap a x) → Q (stA s) (mkL Y cd M) T) :
    CallOk c (.ref 601) [.ref 7, iA a] (mkL Y cd M) T Q := by
  have q0 : ¬hfB M.heap a x → Q (stA emp) (mkL Y cd M) T := fun hn => q emp (by decide +kernel) ⟨fun z => absurd rfl z, fun z => absurd z hn⟩
  have q1 : hfB M.heap a x → ∀ s : Str, PyData.strOk s = true → s ≠ emp → Q (stA s) (mkL Y cd M) T := fun hp s h1 h2 => q s h1 ⟨fun _ => hp, fun _ => h2⟩
  refine c_cell_fault HS (lo h) (r_ix (k := (a : Int)) (Int.natCast_nonneg a) hx ?_)
  refine r_if (p := x.1 = 1) (fun h1 => q1 (.inl h1) _ (by decide +kernel) (by decide +kernel)) fun h1 => r_if (p := x.1 = 6) (fun h6 => ?_) fun h6 => r_if (p := x.1 = 0) (fun h0 => ?_) fun h0 => r_if (p := x.1 = 3) (fun h3 => ?_) fun h3 => r_if (p := x.1 = 2) (fun h2 => ?_) fun h2 => q0 (hf_no h0 h1 h2 h3 fun z => h6 z.1)
  · rw [hf6 h6] at q0 q1
    exact r_if (fun hc => q1 hc _ (by decide +kernel) (by decide +kernel)) fun hc => q0 hc
  · rw [hf0 h0] at q0 q1
    exact r_if (fun hc => q1 (.inl (.inl hc)) _ (by decide +kernel) (by decide +kernel)) fun hc => r_if (fun hc2 => q1 (.inl (.inr (by rw [lenI] at hc2; exact hc2))) _ (by decide +kernel) (by decide +kernel)) fun hc2 => r_if (fun hc3 => q1 (.inr hc3) _ (by decide +kernel) (by decide +kernel)) fun hc3 => q0 fun z => z.elim (fun z => z.elim hc (by rw [lenI] at hc2; exact hc2)) hc3
  · rw [hf3 h3] at q0 q1
    exact r_if (fun hc => q1 (.inl hc) _ (by decide +kernel) (by decide +kernel)) fun hc => r_if (fun hc2 => q1 (.inr (by rw [lenI] at hc2; exact hc2)) _ (by decide +kernel) (by decide +kernel)) fun hc2 => q0 fun z => z.elim hc (by rw [lenI] at hc2; exact hc2)
  · rw [hf2 h2] at q0 q1
    refine r_if (fun hc => q1 (.inl (.inl hc)) _ (by decide +kernel) (by decide +kernel)) fun hc => r_if (fun hc2 => q1 (.inl (.inr (.inl (by rw [lenI] at hc2; exact hc2)))) _ (by decide +kernel) (by decide +kernel)) fun hc2 => ?_
    rw [lenI] at hc2
    have hn := Int.not_lt.mp hc
    have hg := cellAt_get hn (Int.not_le.mp hc2)
    refine r_ix hn hg ⟨by decide, r_not (fun hc3 => q1 (.inl (.inr (.inr hc3))) _ (by decide +kernel) (by decide +kernel)) fun hc3 => r_ix hn hg ⟨by decide, ?_⟩⟩
    have hfo : fOk (cellAt M.heap x.2).2 := hf _ _ (hg.trans (congrArg some (Prod.ext hc3 rfl : cellAt M.heap x.2 = (6, (cellAt M.heap x.2).2))))
    exact k_ar HS O hfo (lw h) (r_if (fun hc4 => q1 (.inr (by rw [lenI] at hc4; exact hc4)) _ (by decide +kernel) (by decide +kernel)) fun hc4 => q0 fun z => z.elim (fun z => z.elim hc fun z => z.elim hc2 fun z => z hc3) (by rw [lenI] at hc4; exact hc4))
theorem k_broken {a : Nat} {x : Cell} (h : 3 ≤ c.n) (O : YOk Y) (hf : fnOk M.heap) (hx : M.heap[a]? = some x) (q : ∀ r : Bool, (r = true ↔ hfB M.heap a x) → Q (.d (.bool r)) (mkL Y cd M) T) :
    CallOk c (.ref 681) [.ref 1, .ref 8, iA a] (mkL Y cd M) T Q := by
  have q1 : hfB M.heap a x → Q (.d (.bool true)) (mkL Y cd M) T := fun h => q true ⟨fun _ => h, fun _ => rfl⟩
  have qn : ∀ {p : Prop} [Decidable p], (hfB M.heap a x ↔ ¬p) → Q (.d (.bool (!(decide p)))) (mkL Y cd M) T := fun {p} _ h => q _ (by rw [Bool.not_eq_true', decide_eq_false_iff_not]; exact h.symm)
  refine c_law_broken HS (lo h) (r_ix (k := (a : Int)) (Int.natCast_nonneg a) hx ⟨by decide, r_if (p := x.1 = 1) (fun h1 => q1 (.inl h1)) fun h1 => r_ceq (a := x.1) (b := x.2) (fun e1 e2 => q1 (.inr (.inl ⟨e1, e2⟩))) fun h6 => ⟨by decide, ?_⟩⟩)
  refine r_if (p := x.1 = 0) (fun h0 => ⟨by decide, ?_⟩) fun h0 => ⟨by decide, r_if (p := x.1 = 3) (fun h3 => ⟨by decide, ?_⟩) fun h3 => ⟨by decide, r_if (p := x.1 = 2) (fun h2 => ⟨by decide, ?_⟩) fun h2 => q false ⟨fun h => Bool.noConfusion h, fun z => absurd z (hf_no h0 h1 h2 h3 h6)⟩⟩⟩
  · refine r_if (p := 0 ≤ x.2) (fun hc => qn ?_) fun hc => q1 ((hf0 h0).mpr (.inl (.inl (Int.not_le.mp hc))))
    rw [hf0 h0]
    exact ⟨fun z hle => z.elim (fun z => z.elim (fun z => absurd hc (Int.not_le.mpr z)) fun z => by have := lt_of_get hx; lia) fun z => absurd hle (Int.not_le.mpr z), fun z => .inr (Int.not_le.mp z)⟩
  · refine r_if (p := 0 ≤ x.2) (fun hc => qn ?_) fun hc => q1 ((hf3 h3).mpr (.inl (Int.not_le.mp hc)))
    rw [hf3 h3, lenI]
    exact ⟨fun z hle => z.elim (fun z => absurd hc (Int.not_le.mpr z)) fun z => by lia, fun z => .inr (by lia)⟩
  · rw [hf2 h2] at q1
    refine r_if (p := 0 ≤ x.2) (fun hc => r_not (fun hc2 => q1 (.inl (.inr (.inl (by rw [lenI] at hc2; exact Int.not_lt.mp hc2))))) fun hc2 => ?_) fun hc => q1 (.inl (.inl (Int.not_le.mp hc)))
    rw [lenI] at hc2
    have hg := cellAt_get hc hc2
    refine ⟨by decide, r_ix hc hg ⟨by decide, r_not (fun hc3 => q1 (.inl (.inr (.inr hc3)))) fun hc3 => ⟨by decide, ⟨by decide, r_ix hc hg ⟨by decide, ?_⟩⟩⟩⟩⟩
    have hfo : fOk (cellAt M.heap x.2).2 := hf _ _ (hg.trans (congrArg some (Prod.ext hc3 rfl : cellAt M.heap x.2 = (6, (cellAt M.heap x.2).2))))
    refine k_ar HS O hfo (lw h) (q (decide _) ?_)
    rw [decide_eq_true_iff, lenI, hf2 h2]
    exact ⟨.inr, fun z => z.elim (fun z => z.elim (fun z => absurd hc (Int.not_le.mpr z)) fun z => z.elim (fun z => absurd hc2 (Int.not_lt.mpr z)) fun z => absurd hc3 z) id⟩
noncomputable def hfA (p : Nat × Str) : AV := .d (.tuple [.int p.1, .str p.2])
theorem k_heap_faults (h : 5 ≤ c.n) (O : YOk Y) (hf : fnOk M.heap) (hl : M.heap.length < 900000) (q : ∀ a T' (fl : List (Nat × Str)), Ext T T' → T' a = some (.list (fl.map hfA)) → (∀ p ∈ fl, PyData.strOk p.2 = true) → fl.map (·.1) = (List.range M.heap.length).filter (badB M.heap) → Q (.tmp a) (mkL Y cd M) T') :
    CallOk c (.ref 594) [.ref 7] (mkL Y cd M) T Q := by
  have hl2 : (M.heap.map cA).length < 900000 := by rw [List.length_map]; exact hl
  refine c_heap_faults HS (lo h) (w_new (vs := []) (by decide) fun a ha => ⟨(rb (by lia)).1, (rb (by lia)).2, ?_⟩)
  refine rng0 (n := (M.heap.map cA).length) (σ := List (Nat × Str) × Option AV × Option AV) (fun s => [some (.ref 7), some (.tmp a), s.2.1, s.2.2]) (fun _ => mkL Y cd M)
    (fun j s T' => Ext T T' ∧ T' a = some (.list (s.1.map hfA)) ∧ (∀ p ∈ s.1, PyData.strOk p.2 = true) ∧ s.1.length ≤ j ∧ s.1.map (·.1) = (List.range j).filter (badB M.heap)) ([], none, none) rfl rfl ⟨Ext.new ha, upd_self .., (fun _ h => nomatch h), Nat.le_refl _, rfl⟩ ?_ fun s T' hI => q a T' s.1 hI.1 hI.2.1 hI.2.2.1 (by rw [← List.length_map (as := M.heap) cA]; exact hI.2.2.2.2)
  intro j s T' P hj hI kk
  have hx : M.heap[j]? = some (cellAt M.heap j) := cellAt_get (Int.natCast_nonneg j) (by rw [List.length_map] at hj; exact Int.ofNat_lt.mpr hj)
  have hr : (List.range (j + 1)).filter (badB M.heap) = (List.range j).filter (badB M.heap) ++ [j].filter (badB M.heap) := by rw [List.range_succ, List.filter_append]
  refine k_cell_fault HS (lw h) O hf hx fun t ht1 ht2 => r_strne (Q := fun b => wpIf b _ _) ht1 (fun hb => ?_) fun hb => kk (s.1, _, _) T' ⟨hI.1, hI.2.1, hI.2.2.1, Nat.le_succ_of_le hI.2.2.2.1, by rw [hr, hI.2.2.2.2, List.filter_cons_of_neg fun z => hb (ht2.mpr (badB_iff.mp z))]; exact (List.append_nil _).symm⟩
  refine ⟨_, hI.2.1, ⟨_, hI.2.1, w_tmpAdd (f := hfA) (v := (j, t)) (by lia) (kk (s.1 ++ [(j, t)], _, _) _ ⟨hI.1.set ha, upd_self .., fun p hp => ?_, by rw [List.length_append]; exact Nat.succ_le_succ hI.2.2.2.1, ?_⟩)⟩⟩
  · exact (List.mem_append.mp hp).elim (hI.2.2.1 p) fun e => by rw [List.mem_singleton.mp e]; exact ht1
  · rw [hr, List.map_append, hI.2.2.2.2, List.filter_cons_of_pos (badB_iff.mpr (ht2.mp hb))]; rfl
end
end Mine
end
section
open PySem.Calls
set_option tactic.hygienic false
namespace Mine
noncomputable def sfB (M : St) (i : Nat) (x : Cell) : Prop := (x.1 = 1 ∧ (x.2 < 0 ∨ (i : Int) < x.2)) ∨ (x.1 = 0 ∧ (x.2 < 0 ∨ (M.heap.length : Int) ≤ x.2))
section
variable {Y : Sy} {cd : Addr} {M : St} {c : Cx} {T : Tm} {Q : AV → LT} (HS : SortOk)
include HS
theorem k_chain0 {C : List (Nat × Nat)} (h : 1 ≤ c.n) (hC : Chain M.stack C) (hl : C.length < 100000) (q : ∀ a T', Ext T T' → T a = none → T' a = some (.list (C.map fun p => iA p.1)) → Q (.tmp a) (mkL Y cd M) T') :
    CallOk c (.ref 674) [.ref 9, iA (eOf C), iA 0] (mkL Y cd M) T Q := by
  refine c_law_chain HS h (w_new (vs := []) (by decide) fun a ha => ?_)
  refine whl_ind (n := C.length) (σ := List (Nat × Nat) × List (Nat × Nat)) (fun s => [some (.ref 9), some (iA (eOf s.2)), some (iA 0), some (.tmp a)]) (fun _ => mkL Y cd M)
    (fun n s T' => Ext T T' ∧ n = s.2.length ∧ C = s.1 ++ s.2 ∧ T' a = some (.list (s.1.map fun p => iA p.1))) ([], C) rfl rfl ⟨Ext.new ha, rfl, rfl, upd_self ..⟩ ?_
  intro n s T1 R hI k
  obtain ⟨d, r⟩ := s
  have hr : Chain M.stack r := chain_sub hC hI.2.2.1
  cases r with
  | nil =>
    rw [hI.2.2.1, List.append_nil] at q
    exact q a T1 hI.1 ha hI.2.2.2
  | cons p r =>
    have hk := k r.length (d ++ [p], r) (upd T1 a (.list ((d ++ [p]).map fun p => iA p.1))) (by rw [hI.2.1]; exact Nat.lt_succ_self _) ⟨hI.1.set ha, rfl, by rw [hI.2.2.1, List.append_assoc]; rfl, upd_self ..⟩
    exact ⟨_, hI.2.2.2, ⟨_, hI.2.2.2, w_tmpAdd (f := fun p : Nat × Nat => iA p.1) (v := p) (by rw [hI.2.2.1, List.length_append] at hl; lia) (r_sx (n := p.1) rfl hr.1.e hk)⟩⟩
theorem k_chain3 {D : List Ch} (h : 1 ≤ c.n) (hD : Chs M.stack D) (hl : D.length < 100000) (q : ∀ a T', Ext T T' → T a = none → T' a = some (.list (D.map fun d => iA d.b)) → Q (.tmp a) (mkL Y cd M) T') :
    CallOk c (.ref 674) [.ref 9, iA (bOf D), iA 3] (mkL Y cd M) T Q := by
  refine c_law_chain HS h (w_new (vs := []) (by decide) fun a ha => ?_)
  refine whl_ind (n := D.length) (σ := List Ch × List Ch) (fun s => [some (.ref 9), some (iA (bOf s.2)), some (iA 3), some (.tmp a)]) (fun _ => mkL Y cd M)
    (fun n s T' => Ext T T' ∧ n = s.2.length ∧ D = s.1 ++ s.2 ∧ T' a = some (.list (s.1.map fun d => iA d.b))) ([], D) rfl rfl ⟨Ext.new ha, rfl, rfl, upd_self ..⟩ ?_
  intro n s T1 R hI k
  obtain ⟨d, r⟩ := s
  have hr : Chs M.stack r := chs_sub hD hI.2.2.1
  cases r with
  | nil =>
    rw [hI.2.2.1, List.append_nil] at q
    exact q a T1 hI.1 ha hI.2.2.2
  | cons p r =>
    have hk := k r.length (d ++ [p], r) (upd T1 a (.list ((d ++ [p]).map fun d => iA d.b))) (by rw [hI.2.1]; exact Nat.lt_succ_self _) ⟨hI.1.set ha, rfl, by rw [hI.2.2.1, List.append_assoc]; rfl, upd_self ..⟩
    exact ⟨_, hI.2.2.2, ⟨_, hI.2.2.2, w_tmpAdd (f := fun d : Ch => iA d.b) (v := p) (by rw [hI.2.2.1, List.length_append] at hl; lia) (r_sx (n := p.b) rfl hr.1.nn (r_sx (n := p.b + p.n + 3) rfl hr.1.pb hk))⟩⟩
theorem k_stack_fault {a : Addr} {i : Nat} {x : Cell} (h : 1 ≤ c.n) (ha : T a = some (.list [iA i])) (hx : M.stack[i]? = some (.c x)) (q0 : ¬sfB M i x → ∀ b T', Ext T T' → T' b = some (.list []) → Q (.tmp b) (mkL Y cd M) T') (q1 : sfB M i x → ∀ b T', Ext T T' → T' b = some (.list [iA i]) → Q (.tmp b) (mkL Y cd M) T') :
    CallOk c (.ref 608) [.ref 7, .tmp a] (mkL Y cd M) T Q := by
  refine c_stack_faults HS h (w_new (vs := []) (by decide) fun b hb => ⟨_, Ext.new hb _ _ ha, ?_⟩)
  have hab : a ≠ b := by rintro rfl; rw [hb] at ha; cases ha
  have E := Ext.new (o := .list []) hb
  have hTa : upd T b (.list []) a = some (.list [iA i]) := E _ _ ha
  have hTb : upd T b (.list []) b = some (.list []) := upd_self ..
  have E2 : Ext T (upd (upd T b (.list [])) b (.list [iA i])) := E.set hb
  have yes : sfB M i x → ∃ vs, upd T b (.list []) b = some (.list vs) ∧ ∃ vs, upd T b (.list []) b = some (.list vs) ∧ vs.length < lid ∧ (∃ vs', upd (upd T b (.list [])) b (.list (vs ++ [iA i])) a = some (.list vs') ∧ vs' = [iA i] ∧ Q (.tmp b) (mkL Y cd M) (upd (upd T b (.list [])) b (.list (vs ++ [iA i])))) := fun hp =>
    ⟨_, hTb, _, hTb, by decide, _, E2 _ _ ha, rfl, q1 hp b _ E2 (upd_self ..)⟩
  have no : ¬sfB M i x → ∃ vs', upd T b (.list []) a = some (.list vs') ∧ vs' = [iA i] ∧ Q (.tmp b) (mkL Y cd M) (upd T b (.list [])) := fun hp => ⟨_, hTa, rfl, q0 hp b _ E hTb⟩
  refine ⟨_, hTa, rfl, r_sx (n := i) rfl hx ?_⟩
  refine r_if (p := x.1 = 1) (fun h1 => ?_) fun h1 => ?_
  · exact r_if (p := x.2 < 0) (fun hc => yes (.inl ⟨h1, .inl hc⟩)) fun hc => r_if (p := (i : Int) < x.2) (fun hc2 => yes (.inl ⟨h1, .inr hc2⟩)) fun hc2 => r_f (p := x.1 = 0) (fun z => by lia) (no fun z => z.elim (fun z => z.2.elim hc hc2) fun z => by lia)
  · refine r_if (p := x.1 = 0) (fun h0 => ?_) fun h0 => no fun z => z.elim (fun z => h1 z.1) fun z => h0 z.1
    exact r_if (p := x.2 < 0) (fun hc => yes (.inr ⟨h0, .inl hc⟩)) fun hc => r_if (p := ((M.heap.map cA).length : Int) ≤ x.2) (fun hc2 => yes (.inr ⟨h0, .inr (by rw [lenI] at hc2; exact hc2)⟩)) fun hc2 => no fun z => z.elim (fun z => h1 z.1) fun z => z.2.elim hc (by rw [lenI] at hc2; exact hc2)
theorem k_spoiled_cell (h : 3 ≤ c.n) (hr : RowOk M.row) (hn : 0 < M.heap.length) (hl : M.heap.length < 900000) (q : ∀ r T' a x, RowOk r → Ext T T' → a < M.heap.length → (x.1 = 6 → fOk x.2) → Q (.d .none) (mkL Y cd ((M.wR r).wH (M.heap.set a x))) T') : CallOk c (.ref 688) [.ref 0, .ref 8] (mkL Y cd M) T Q := by
  have hn' : 0 < (M.heap.map cA).length := by rw [List.length_map]; exact hn
  refine c_law_spoiled_cell HS (lo h) (k_next HS (lw h) hr fun r v T1 hr1 hv h1 => ⟨fun e => Nat.ne_of_gt hn' (Int.ofNat.inj e), ?_⟩)
  refine w_new (Nat.le_of_ble_eq_true rfl) fun m hm => k_next (M := M.wR r) HS (lw h) hr1 fun r2 v2 T2 hr2 hv2 h2 => ⟨_, h2 _ _ (upd_self ..), ⟨fun e => absurd (Int.ofNat.inj e) (Nat.succ_ne_zero 15), ⟨_, h2 _ _ (upd_self ..), ?_⟩⟩⟩
  have ha0 : 0 ≤ v.fmod (((M.wR r).heap.map cA).length : Nat) := fm_nn hv
  have ha1 : v.fmod (((M.wR r).heap.map cA).length : Nat) < M.heap.length := by rw [← lenI (f := cA) (l := M.heap)]; exact fm_lt hn'
  generalize v.fmod (((M.wR r).heap.map cA).length : Nat) = a at ha0 ha1 ⊢
  have hk0 : 0 ≤ v2.fmod (16 : Nat) := fm_nn hv2
  have hk1 : (v2.fmod (16 : Nat)).toNat < 16 := (Int.toNat_lt hk0).mpr (fm_lt (by decide))
  have hm6 : ∀ x ∈ ([(0, a + 1), (1, 0), (0, ((M.heap.map cA).length : Nat)), (0, -1), (3, ((M.heap.map cA).length : Nat) - 1), (3, ((M.heap.map cA).length : Nat) - 2), (3, -1), (2, ((M.heap.map cA).length : Nat)), (2, -1), (2, a), (6, 0), (6, 13), (5, -1), (4, 0), (0, a), (2, 0)] : List Cell), x.1 = 6 → fOk x.2 := by simp [fOk]
  exact r_ix (f := cA) (l := [(0, a + 1), (1, 0), (0, ((M.heap.map cA).length : Nat)), (0, -1), (3, ((M.heap.map cA).length : Nat) - 1), (3, ((M.heap.map cA).length : Nat) - 2), (3, -1), (2, ((M.heap.map cA).length : Nat)), (2, -1), (2, a), (6, 0), (6, 13), (5, -1), (4, 0), (0, a), (2, 0)]) hk0 (List.getElem?_eq_getElem hk1)
    (w_heapSet (M := (M.wR r).wR r2) ha0 ha1 (q r2 T2 a.toNat _ hr2 ((h1.trans (Ext.new hm)).trans h2) ((Int.toNat_lt ha0).mpr ha1) (hm6 _ (List.getElem_mem hk1))))
end
end Mine
end
section
open PySem.Calls
set_option tactic.hygienic false
namespace Mine
structure Sh (M : St) (C : List (Nat × Nat)) (D : List Ch) (many : Nat) : Prop where
  e : M.e = eOf C
  cp : M.cp = cpOf C
  b : M.b = bOf D
  ch : Chain M.stack C
  cs : Chs M.stack D
  fn : fnOk M.heap
  rt : M.roots.length ≤ 10
  mx : many = 0 ∨ many < M.x.length
  m3 : many ≤ 3
  tr : M.trail.length ≤ 1000
  st : M.stack.length ≤ 800000
  lD : D.length ≤ 1000
  lC : C.length ≤ 1000
  vis : vis C D ≤ 10000
noncomputable def Fine (M : St) (D : List Ch) (many : Nat) (ms : List Int) : Prop :=
  ((((CG D M.stack.length M.heap.length M.trail.length ∧ M.hb = hbOf D ∧ M.bb = bbOf D) ∧ ∀ x ∈ M.trail, ¬TG M x) ∧ ∀ x ∈ M.roots, ¬ctB M.heap M.stack.length x (-1)) ∧ ∀ j, j < many → ∀ x, M.x[1 + j]? = some x → ¬ctB M.heap M.stack.length x (-1)) ∧ ∀ s ∈ ms, ∀ x, M.stack[s.toNat]? = some (.c x) → ¬ctB M.heap M.stack.length x s
noncomputable def Spl (M : St) (D : List Ch) (many : Nat) : Prop := ∀ ms : List Int, (∀ d ∈ D, ∀ j, j < d.n → ((d.b + 1 + j : Nat) : Int) ∈ ms) → ¬Fine M D many ms
theorem ct_neg {hp : List Cell} {sl : Nat} {x : Cell} {slot : Int} (h : x.2 < 0) (ht : x.1 = 0 ∨ x.1 = 1 ∨ x.1 = 2 ∨ x.1 = 3) : ctB hp sl x slot := by
  rcases ht with e | e | e | e
  · exact (ct0 e).mpr (.inl (.inl h))
  · exact (ct1 e).mpr (.inl (.inl h))
  · exact (ct2 e).mpr (.inl (.inl h))
  · exact (ct3 e).mpr (.inl h)
theorem ct_far0 {hp : List Cell} {sl : Nat} {slot : Int} : ctB hp sl (0, (hp.length : Int)) slot := (ct0 rfl).mpr (.inl (.inr (Int.le_refl _)))
theorem ct_far2 {hp : List Cell} {sl : Nat} {slot : Int} : ctB hp sl (2, (hp.length : Int)) slot := (ct2 rfl).mpr (.inl (.inr (.inl (Int.le_refl _))))
theorem ct_far3 {hp : List Cell} {sl : Nat} {slot : Int} : ctB hp sl (3, (hp.length : Int) - 1) slot := (ct3 rfl).mpr (.inr (by show (hp.length : Int) ≤ (hp.length : Int) - 1 + 1; lia))
theorem Sh.like {M : St} {C : List (Nat × Nat)} {D : List Ch} {many : Nat} (S : Sh M C D many) {st : List SV} (hl : st.length = M.stack.length) (h : ∀ t, Like t M.stack st) : Sh (M.wS st) C D many :=
  have m : ∀ d ∈ D, d.b + d.n + 8 ≤ M.stack.length := fun d hd => let ⟨_, z⟩ := chs_env S.cs d hd; lt_of_get z.b0
  have m2 : ∀ p ∈ C, p.1 + 2 + p.2 ≤ M.stack.length + 10 := fun p hp => by
    refine e2a1 (List.append_of_mem hp) fun d r e => ?_
    have z := (chain_sub S.ch e).1
    have := lt_of_get z.e
    have := z.n3
    lia
  ⟨S.e, S.cp, S.b, S.ch.like (h _) m2, S.cs.like (h _) m, S.fn, S.rt, S.mx, S.m3, S.tr, Nat.le_trans (Nat.le_of_eq hl) S.st, S.lD, S.lC, S.vis⟩
section
variable {Y : Sy} {cd : Addr} {M : St} {C : List (Nat × Nat)} {D : List Ch} {many : Nat} {c : Cx} {T : Tm} {K : Loc → LT} {R : AV → LT}
theorem Sh.row (S : Sh M C D many) {r : List Int} : Sh (M.wR r) C D many := ⟨S.e, S.cp, S.b, S.ch, S.cs, S.fn, S.rt, S.mx, S.m3, S.tr, S.st, S.lD, S.lC, S.vis⟩
theorem spl_trail {t : List Int} {x : Int} (hx : TG (M.wT t) x) (hm : x ∈ t) : Spl (M.wT t) D many := fun _ _ F => F.1.1.1.2 x hm hx
variable (HS : SortOk)
include HS
theorem sp_x (h : 3 ≤ c.n) (S : Sh M C D many) (hr : RowOk M.row) (h0 : ∃ x, M.heap[0]? = some x ∧ x.1 ≠ 6) {kd : Int} (hm : 0 < many) (q : ∀ l M' D' T', Sh M' C D' many → Spl M' D' many → Ext T T' → K l (mkL Y cd M') T') :
    wpS c b_law_spoiled_rest_3 [some (.ref 0), some (.ref 6), some (iA many), some (.ref 7), some (iA kd), some (iA M.heap.length)] (mkL Y cd M) T K R := by
  refine w_new (Nat.le_of_ble_eq_true rfl) fun m hm0 => k_next HS (lv h) hr fun r v T1 hr1 hv h1 => ⟨by decide, ⟨_, h1 _ _ (upd_self ..), ?_⟩⟩
  have mx := S.mx.resolve_left (Nat.ne_of_gt hm)
  have hk0 : 0 ≤ v.fmod (6 : Nat) := fm_nn hv
  have hk1 : (v.fmod (6 : Nat)).toNat < 6 := (Int.toNat_lt hk0).mpr (fm_lt (by decide))
  have bad : ∀ x ∈ ([(0, (M.heap.length : Int)), (3, (M.heap.length : Int) - 1), (2, (M.heap.length : Int)), (2, 0), (1, ((M.stack.map sA).length : Nat)), (6, 13)] : List Cell), ctB M.heap M.stack.length x (-1) := by
    refine List.forall_mem_cons.mpr ⟨ct_far0, List.forall_mem_cons.mpr ⟨ct_far3, List.forall_mem_cons.mpr ⟨ct_far2, List.forall_mem_cons.mpr ⟨?_, List.forall_mem_cons.mpr ⟨?_, List.forall_mem_cons.mpr ⟨.inr (.inr (.inr (.inr rfl))), fun _ h => nomatch h⟩⟩⟩⟩⟩⟩
    · refine e1a2 h0 fun x e hx => ?_
      exact (ct2 rfl).mpr (.inl (.inr (.inr (by show (cellAt M.heap 0).1 ≠ 6; unfold cellAt; rw [show ((0 : Int)).toNat = 0 from rfl, e]; exact hx))))
    · exact (ct1 rfl).mpr (.inl (.inr (by rw [lenI]; exact Int.le_refl _)))
  refine r_ix (f := cA) (l := [(0, (M.heap.length : Int)), (3, (M.heap.length : Int) - 1), (2, (M.heap.length : Int)), (2, 0), (1, ((M.stack.map sA).length : Nat)), (6, 13)]) hk0 (List.getElem?_eq_getElem hk1) ?_
  refine w_xSet (M := M.wR r) (k := (many : Int)) (Int.natCast_nonneg many) (Int.ofNat_lt.mpr mx) (q _ _ D T1 ⟨S.e, S.cp, S.b, S.ch, S.cs, S.fn, S.rt, by show many = 0 ∨ many < (M.x.set _ _).length; rw [List.length_set]; exact S.mx, S.m3, S.tr, S.st, S.lD, S.lC, S.vis⟩ (fun ms _ F => ?_) ((Ext.new hm0).trans h1))
  refine F.1.2 (many - 1) (by lia) _ ?_ (bad _ (List.getElem_mem hk1))
  show (M.x.set many _)[1 + (many - 1)]? = _
  rw [show 1 + (many - 1) = many by lia]
  exact List.getElem?_set_self mx
theorem sp_roots (h : 3 ≤ c.n) (S : Sh M C D many) (hr : RowOk M.row) (h4 : M.roots.length = 4) {kd : Int} (q : ∀ l M' D' T', Sh M' C D' many → Spl M' D' many → Ext T T' → K l (mkL Y cd M') T') :
    wpS c b_law_spoiled_rest_4 [some (.ref 0), some (.ref 6), some (iA many), some (.ref 7), some (iA kd), some (iA M.heap.length)] (mkL Y cd M) T K R := by
  refine w_new (Nat.le_of_ble_eq_true rfl) fun m hm0 => k_next HS (lv h) hr fun r v T1 hr1 hv h1 => ⟨by decide, ⟨_, h1 _ _ (upd_self ..), ?_⟩⟩
  have hk0 : 0 ≤ v.fmod (4 : Nat) := fm_nn hv
  have hk1 : (v.fmod (4 : Nat)).toNat < 4 := (Int.toNat_lt hk0).mpr (fm_lt (by decide))
  have bad : ∀ x ∈ ([(0, -1), (3, -1), (2, -1), (1, -1)] : List Cell), ctB M.heap M.stack.length x (-1) := by
    intro x hx
    refine ct_neg ?_ ?_
    · simp only [List.mem_cons, List.not_mem_nil, or_false] at hx
      rcases hx with rfl | rfl | rfl | rfl <;> decide
    · simp only [List.mem_cons, List.not_mem_nil, or_false] at hx
      rcases hx with rfl | rfl | rfl | rfl <;> decide
  refine r_ix (f := cA) (l := [(0, -1), (3, -1), (2, -1), (1, -1)]) hk0 (List.getElem?_eq_getElem hk1) ?_
  refine k_next (M := M.wR r) HS (lv h) hr1 fun r2 v2 T2 hr2 hv2 h2 => ⟨by decide, ?_⟩
  have hj0 : 0 ≤ v2.fmod (4 : Nat) := fm_nn hv2
  have hj1 : v2.fmod (4 : Nat) < M.roots.length := by rw [h4]; exact fm_lt (by decide)
  refine w_rootSet (M := (M.wR r).wR r2) (k := v2.fmod (4 : Nat)) hj0 hj1 (q _ _ D T2 ⟨S.e, S.cp, S.b, S.ch, S.cs, S.fn, by show (M.roots.set _ _).length ≤ 10; rw [List.length_set]; exact S.rt, S.mx, S.m3, S.tr, S.st, S.lD, S.lC, S.vis⟩ (fun ms _ F => ?_) (((Ext.new hm0).trans h1).trans h2))
  exact F.1.1.2 _ (List.mem_of_getElem? (List.getElem?_set_self ((Int.toNat_lt hj0).mpr hj1))) (bad _ (List.getElem_mem hk1))
end
end Mine
end
section
open PySem.Calls
set_option tactic.hygienic false
namespace Mine
theorem Chain.off {st st' : List SV} {i : Nat} (h : ∀ j, j ≠ i → st'[j]? = st[j]?) : ∀ {C : List (Nat × Nat)}, (∀ p ∈ C, i < p.1 ∨ p.1 + 2 + p.2 ≤ i) → Chain st C → Chain st' C
  | [], _, _ => trivial
  | p :: r, hb, k => by
    have hp := hb p List.mem_cons_self
    exact ⟨⟨k.1.n3, fun j hj => let ⟨c, e⟩ := k.1.sl j hj; ⟨c, (h _ (by lia)).trans e⟩, k.1.sep, (h _ (by lia)).trans k.1.e, (h _ (by lia)).trans k.1.cp⟩, Chain.off h (fun q hq => hb q (.tail _ hq)) k.2⟩
theorem chs_set {st : List SV} {d : Ch} {r : List Ch} {m v : Nat} (k : Chs st (d :: r)) (hm : m = 5 ∨ m = 6) : Chs (st.set (d.b + d.n + m) (.i v)) ((if m = 5 then { d with tr := v } else { d with hp := v }) :: r) := by
  have il : d.b + d.n + m < st.length := by have := lt_of_get k.1.b0; lia
  have off : ∀ {j}, j ≠ d.b + d.n + m → (st.set (d.b + d.n + m) (.i v))[j]? = st[j]? := fun hj => List.getElem?_set_ne (Ne.symm hj)
  have lk : Like d.b st (st.set (d.b + d.n + m) (.i v)) := .of_eq fun i hi => off (by lia)
  have k1 := k.1
  have kr := k.2.like lk k.1.sep
  have ke := k1.ch.like lk k1.env
  have n0 : (st.set (d.b + d.n + m) (.i v))[d.b]? = some (.i d.n) := (off (by lia)).trans k1.nn
  have na : ∀ j, j < d.n → ∃ c, (st.set (d.b + d.n + m) (.i v))[d.b + 1 + j]? = some (.c c) := fun j hj => let ⟨c, e⟩ := k1.ar j hj; ⟨c, (off (by lia)).trans e⟩
  have f : ∀ {k : Nat} {x : SV}, k ≠ m → st[d.b + d.n + k]? = some x → (st.set (d.b + d.n + m) (.i v))[d.b + d.n + k]? = some x := fun hk e => (off fun z => hk (Nat.add_left_cancel z)).trans e
  rcases hm with rfl | rfl
  · rw [if_pos rfl]
    exact ⟨⟨k1.n3, n0, na, k1.env, k1.sep, f (by decide) k1.e, f (by decide) k1.cp, f (by decide) k1.pb, List.getElem?_set_self il, f (by decide) k1.hp, f (by decide) k1.b0, ke⟩, kr⟩
  · rw [if_neg (by decide)]
    exact ⟨⟨k1.n3, n0, na, k1.env, k1.sep, f (by decide) k1.e, f (by decide) k1.cp, f (by decide) k1.pb, f (by decide) k1.tr, List.getElem?_set_self il, f (by decide) k1.b0, ke⟩, kr⟩
section
variable {Y : Sy} {cd : Addr} {M : St} {C : List (Nat × Nat)} {D : List Ch} {d : Ch} {many : Nat} {c : Cx} {T : Tm} {Q : AV → LT} {K : Loc → LT} {R : AV → LT}
theorem Sh.frame {m v : Nat} (S : Sh M C (d :: D) many) (hs : ∀ p ∈ C, d.b + d.n + 8 ≤ p.1 ∨ p.1 + 2 + p.2 ≤ d.b) (hm : m = 5 ∨ m = 6) : Sh (M.wS (M.stack.set (d.b + d.n + m) (.i v))) C ((if m = 5 then { d with tr := v } else { d with hp := v }) :: D) many := by
  have hc := chs_set (v := v) S.cs hm
  have hch : Chain (M.stack.set (d.b + d.n + m) (.i v)) C := S.ch.off (i := d.b + d.n + m) (fun j hj => List.getElem?_set_ne (Ne.symm hj)) fun p hp => (hs p hp).elim (fun h => .inl (by lia)) fun h => .inr (by lia)
  have hl : (M.stack.set (d.b + d.n + m) (.i v)).length ≤ 800000 := by rw [List.length_set]; exact S.st
  have hb := S.b
  have hv := S.vis
  rcases hm with rfl | rfl
  · rw [if_pos rfl] at hc ⊢
    exact ⟨S.e, S.cp, hb, hch, hc, S.fn, S.rt, S.mx, S.m3, S.tr, hl, S.lD, S.lC, hv⟩
  · rw [if_neg (by decide)] at hc ⊢
    exact ⟨S.e, S.cp, hb, hch, hc, S.fn, S.rt, S.mx, S.m3, S.tr, hl, S.lD, S.lC, hv⟩
variable (HS : SortOk)
include HS
theorem sp_arg (h : 3 ≤ c.n) (S : Sh M C (d :: D) many) (hr : RowOk M.row) (hn : 0 < d.n) {kd : Int} (q : ∀ l M' D' T', Sh M' C D' many → Spl M' D' many → Ext T T' → K l (mkL Y cd M') T') :
    wpS c b_law_spoiled_rest_7 [some (.ref 0), some (.ref 6), some (iA many), some (.ref 7), some (iA kd), some (iA M.heap.length)] (mkL Y cd M) T K R := by
  refine w_new (Nat.le_of_ble_eq_true rfl) fun m hm0 => k_next HS (lv h) hr fun r v T1 hr1 hv h1 => ⟨by decide, ⟨_, h1 _ _ (upd_self ..), ?_⟩⟩
  have hk0 : 0 ≤ v.fmod (4 : Nat) := fm_nn hv
  have hk1 : (v.fmod (4 : Nat)).toNat < 4 := (Int.toNat_lt hk0).mpr (fm_lt (by decide))
  have hb : M.b = d.b := S.b
  have bad : ∀ x ∈ ([(1, M.b + 2), (0, (M.heap.length : Int)), (3, (M.heap.length : Int) - 1), (2, (M.heap.length : Int))] : List Cell), ctB M.heap M.stack.length x ((d.b + 1 + 0 : Nat) : Int) :=
    List.forall_mem_cons.mpr ⟨(ct1 rfl).mpr (.inr ⟨Int.natCast_nonneg _, by show ((d.b + 1 + 0 : Nat) : Int) < M.b + 2; rw [hb]; lia⟩), List.forall_mem_cons.mpr ⟨ct_far0, List.forall_mem_cons.mpr ⟨ct_far3, List.forall_mem_cons.mpr ⟨ct_far2, fun _ h => nomatch h⟩⟩⟩⟩
  refine (S.cs.1.ar 0 hn).elim fun c0 hc0 => ?_
  have il := lt_of_get hc0
  have hz : M.b + 1 = ((d.b + 1 + 0 : Nat) : Int) := by rw [hb]; rfl
  have S' : ∀ x : Cell, Sh ((M.wR r).wS (M.stack.set (M.b + 1).toNat (.c x))) C (d :: D) many := fun x => S.row.like List.length_set fun t i _ => by
    have e : (M.b + 1).toNat = d.b + 1 + 0 := by rw [hz]; rfl
    rw [e]
    by_cases hi : i = d.b + 1 + 0
    · subst hi; exact ⟨fun m e => (nomatch hc0.symm.trans e), fun c e => ⟨x, List.getElem?_set_self il⟩⟩
    · exact ⟨fun m e => (List.getElem?_set_ne (Ne.symm hi)).trans e, fun c e => ⟨c, (List.getElem?_set_ne (Ne.symm hi)).trans e⟩⟩
  have ex : ∃ x : Cell, ([(1, M.b + 2), (0, (M.heap.length : Int)), (3, (M.heap.length : Int) - 1), (2, (M.heap.length : Int))] : List Cell)[(v.fmod (4 : Nat)).toNat]? = some x ∧ ctB M.heap M.stack.length x ((d.b + 1 + 0 : Nat) : Int) := ⟨_, List.getElem?_eq_getElem hk1, bad _ (List.getElem_mem hk1)⟩
  refine ex.elim fun x hx => r_ix (f := cA) (l := [(1, M.b + 2), (0, (M.heap.length : Int)), (3, (M.heap.length : Int) - 1), (2, (M.heap.length : Int))]) hk0 hx.1 ?_
  refine w_stSet (M := M.wR r) (k := M.b + 1) (v := .c x) (by rw [hz]; exact Int.natCast_nonneg _) (by rw [hz]; exact Int.ofNat_lt.mpr il) (q _ _ (d :: D) T1 (S' x) (fun ms hms F => ?_) ((Ext.new hm0).trans h1))
  refine F.2 _ (hms d List.mem_cons_self 0 hn) x ?_ ?_
  · show (M.stack.set (M.b + 1).toNat (.c x))[d.b + 1 + 0]? = some (.c x)
    rw [hz]; exact List.getElem?_set_self il
  · show ctB M.heap (M.stack.set _ _).length _ _
    rw [List.length_set]; exact hx.2
theorem k_spoiled_rest (h : 5 ≤ c.n) (S : Sh M C D many) (I : Inv M C D) (hr : RowOk M.row) (h4 : M.roots.length = 4) (hmx : M.x.length ≤ 10) (ht : M.trail.length ≤ 900) (h0 : ∃ x, M.heap[0]? = some x ∧ x.1 ≠ 6) (q : ∀ M' D' T', Sh M' C D' many → Spl M' D' many → Ext T T' → Q (.d .none) (mkL Y cd M') T') :
    CallOk c (.ref 695) [.ref 0, .ref 6, iA many] (mkL Y cd M) T Q := by
  refine c_law_spoiled_rest HS (lo h) (k_next HS (lw h) hr fun r v T1 hr1 hv h1 => ⟨by decide, ?_⟩)
  have S1 := S.row (r := r)
  have q1 : ∀ (l : Loc) M' D' T', Sh M' C D' many → Spl M' D' many → Ext T1 T' → Q (.d .none) (mkL Y cd M') T' := fun _ M' D' T' a b e => q M' D' T' a b (h1.trans e)
  have tl : M.trail.length < 1000000 := by lia
  have e5 : (AV.d (PyData.int (((M.wR r).heap.map cA).length : Nat))) = iA (M.heap.length : Nat) := congrArg (fun n : Nat => iA n) (List.length_map _)
  have last : Q (.d .none) (mkL Y cd ((M.wR r).wh (M.hb + 1))) T1 := q1 [] _ D T1 ⟨S.e, S.cp, S.b, S.ch, S.cs, S.fn, S.rt, S.mx, S.m3, S.tr, S.st, S.lD, S.lC, S.vis⟩ (fun ms _ F => by have z : M.hb + 1 = hbOf D := F.1.1.1.1.2.1; rw [I.hb] at z; lia) (Ext.refl T1)
  refine r_if (p := v.fmod 9 = 1) (fun _ => ?_) fun _ => r_if (p := v.fmod 9 = 2) (fun _ => ?_) fun _ => r_if (p := v.fmod 9 = 3) (fun _ => ?_) fun _ => ?_
  · exact w_bb (M := M.wR r) (v := M.bb + 1) (q1 [] _ D T1 ⟨S.e, S.cp, S.b, S.ch, S.cs, S.fn, S.rt, S.mx, S.m3, S.tr, S.st, S.lD, S.lC, S.vis⟩ (fun ms _ F => by have z : M.bb + 1 = bbOf D := F.1.1.1.1.2.2; rw [I.bb] at z; lia) (Ext.refl T1))
  · exact w_trAdd (M := M.wR r) (v := ((M.wR r).heap.map cA).length) tl (q1 [] _ D T1 ⟨S.e, S.cp, S.b, S.ch, S.cs, S.fn, S.rt, S.mx, S.m3, by show (M.trail ++ _).length ≤ _; rw [List.length_append]; exact Nat.le_trans (Nat.succ_le_succ ht) (by decide), S.st, S.lD, S.lC, S.vis⟩ (spl_trail (.inl (by rw [lenI]; exact Int.le_refl _)) (List.mem_append_right _ List.mem_cons_self)) (Ext.refl T1))
  · exact w_trAdd (M := M.wR r) (v := -1 - ((M.wR r).stack.map sA).length) tl (q1 [] _ D T1 ⟨S.e, S.cp, S.b, S.ch, S.cs, S.fn, S.rt, S.mx, S.m3, by show (M.trail ++ _).length ≤ _; rw [List.length_append]; exact Nat.le_trans (Nat.succ_le_succ ht) (by decide), S.st, S.lD, S.lC, S.vis⟩ (spl_trail (.inr (by rw [lenI]; show (M.stack.length : Int) ≤ -1 - (-1 - (M.stack.length : Int)); lia)) (List.mem_append_right _ List.mem_cons_self)) (Ext.refl T1))
  · rw [e5]
    have k5 : (v.fmod 9 = 5 → wpS c.dn b_law_spoiled_rest_4 [some (.ref 0), some (.ref 6), some (iA many), some (.ref 7), some (iA (v.fmod 9)), some (iA M.heap.length)] (mkL Y cd (M.wR r)) T1 (fun _ L T => Q (.d .none) L T) Q) := fun _ => sp_roots HS (lv h) S1 hr1 h4 q1
    have k8 : wpS c.dn b_law_spoiled_rest_8 [some (.ref 0), some (.ref 6), some (iA many), some (.ref 7), some (iA (v.fmod 9)), some (iA M.heap.length)] (mkL Y cd (M.wR r)) T1 (fun _ L T => Q (.d .none) L T) Q := w_hb (M := M.wR r) (v := M.hb + 1) last
    have far0 : ∃ x, M.heap[0]? = some x ∧ x.1 ≠ 6 := h0
    have rest : wpS c.dn (.seq (.ite (.cmp .eq (.loc 4) (.int 5)) b_law_spoiled_rest_4 (.seq (.ite (.and (.cmp .eq (.loc 4) (.int 6)) (.cmp .ge (.attr (.loc 1) .b) (.int 0))) b_law_spoiled_rest_5 (.seq (.ite (.and (.cmp .eq (.loc 4) (.int 7)) (.cmp .ge (.attr (.loc 1) .b) (.int 0))) b_law_spoiled_rest_6 (.seq (.ite (.and (.cmp .eq (.loc 4) (.int 8)) (.and (.cmp .ge (.attr (.loc 1) .b) (.int 0)) (.cmp .gt (.sub (.attr (.loc 3) .stack) (.attr (.loc 1) .b)) (.int 0)))) b_law_spoiled_rest_7 b_law_spoiled_rest_8) .nil)) .nil)) .nil)) .nil)
        [some (.ref 0), some (.ref 6), some (iA many), some (.ref 7), some (iA (v.fmod 9)), some (iA M.heap.length)] (mkL Y cd (M.wR r)) T1 (fun _ L T => Q (.d .none) L T) Q := by
      refine r_if (p := v.fmod 9 = 5) k5 fun _ => ?_
      cases D with
      | nil =>
        have nb : ¬(0 : Int) ≤ M.b := by rw [S.b]; decide
        exact r_if (p := v.fmod 9 = 6) (fun _ => r_f nb (r_if (p := v.fmod 9 = 7) (fun _ => r_f nb (r_if (p := v.fmod 9 = 8) (fun _ => r_f nb k8) fun _ => k8)) fun _ => r_if (p := v.fmod 9 = 8) (fun _ => r_f nb k8) fun _ => k8)) fun _ => r_if (p := v.fmod 9 = 7) (fun _ => r_f nb (r_if (p := v.fmod 9 = 8) (fun _ => r_f nb k8) fun _ => k8)) fun _ => r_if (p := v.fmod 9 = 8) (fun _ => r_f nb k8) fun _ => k8
      | cons d D =>
        have hb : M.b = d.b := S.b
        have pb : (0 : Int) ≤ M.b := by rw [hb]; exact Int.natCast_nonneg _
        have sep : ∀ p ∈ C, d.b + d.n + 8 ≤ p.1 ∨ p.1 + 2 + p.2 ≤ d.b := fun p hp => I.S.sep p (mem_allE.mpr (.inl hp)) d List.mem_cons_self
        have il : ∀ m, m ≤ 7 → d.b + d.n + m < M.stack.length := fun m hm => by have := lt_of_get S.cs.1.b0; lia
        refine r_if (p := v.fmod 9 = 6) (fun _ => r_t pb ?_) fun _ => r_if (p := v.fmod 9 = 7) (fun _ => r_t pb ?_) fun _ => r_if (p := v.fmod 9 = 8) (fun _ => r_t pb (r_sx (n := d.b) hb S.cs.1.nn (r_if (p := (0 : Int) < d.n) (fun hn => sp_arg HS (lv h) S1 hr1 (Int.ofNat_lt.mp hn) q1) fun _ => k8))) fun _ => k8
        · refine r_sx (n := d.b) hb S.cs.1.nn ?_
          have e : M.b + d.n + 6 = ((d.b + d.n + 6 : Nat) : Int) := by rw [hb]; rfl
          have S6 := S1.frame (m := 6) (v := M.heap.length + 1) sep (.inr rfl)
          rw [if_neg (by decide)] at S6
          refine w_stSet (M := M.wR r) (k := M.b + d.n + 6) (v := .i ((M.heap.length + 1 : Nat) : Int)) (by rw [e]; exact Int.natCast_nonneg _) (by rw [e]; exact Int.ofNat_lt.mpr (il 6 (by decide))) ?_
          rw [e]
          exact w_hb (M := (M.wR r).wS (M.stack.set (d.b + d.n + 6) (.i ((M.heap.length + 1 : Nat) : Int)))) (v := (M.heap.length : Int) + 1) (q1 [] _ ({ d with hp := M.heap.length + 1 } :: D) T1 ⟨S6.e, S6.cp, S6.b, S6.ch, S6.cs, S6.fn, S6.rt, S6.mx, S6.m3, S6.tr, S6.st, S6.lD, S6.lC, S6.vis⟩ (fun ms _ F => F.1.1.1.1.1.1.2 (Int.lt_succ _)) (Ext.refl T1))
        · refine r_sx (n := d.b) hb S.cs.1.nn ?_
          have e : M.b + d.n + 5 = ((d.b + d.n + 5 : Nat) : Int) := by rw [hb]; rfl
          have S6 := S1.frame (m := 5) (v := (M.trail.map iA).length + 1) sep (.inl rfl)
          rw [if_pos rfl] at S6
          refine w_stSet (M := M.wR r) (k := M.b + d.n + 5) (v := .i (((M.trail.map iA).length + 1 : Nat) : Int)) (by rw [e]; exact Int.natCast_nonneg _) (by rw [e]; exact Int.ofNat_lt.mpr (il 5 (by decide))) ?_
          rw [e]
          exact q1 [] _ ({ d with tr := (M.trail.map iA).length + 1 } :: D) T1 S6 (fun ms _ F => F.1.1.1.1.1.2.1 (by show (M.trail.length : Int) < (((M.trail.map iA).length + 1 : Nat) : Int); rw [List.length_map]; exact Int.lt_succ _)) (Ext.refl T1)
    refine r_if (p := v.fmod 9 = 4) (fun _ => r_if (p := (0 : Int) < many) (fun hm => sp_x HS (lv h) S1 hr1 far0 (Int.ofNat_lt.mp hm) q1) fun _ => rest) fun _ => rest
end
end Mine
end
section
open PySem.Calls
set_option tactic.hygienic false
namespace Mine
section
variable {κ : Type} [DecidableEq κ]
noncomputable def lookK (l : List (κ × Int)) (k : κ) : Int := ((l.find? fun p => p.1 = k).map (·.2)).getD (-1)
noncomputable def putK (l : List (κ × Int)) (k : κ) (v : Int) : List (κ × Int) := if l.any (fun p => p.1 = k) then l.map (fun p => if p.1 = k then (p.1, v) else p) else l ++ [(k, v)]
noncomputable def avK (l : List (κ × Int)) : List (κ × AV) := l.map fun p => (p.1, iA p.2)
theorem look_av (l : List (κ × Int)) (k : κ) : (kvGet (avK l) k).getD (.d (.int (-1))) = iA (lookK l k) := by
  unfold kvGet lookK avK
  rw [List.find?_map]
  cases h : l.find? ((fun kv => decide (kv.1 = k)) ∘ fun p : κ × Int => (p.1, iA p.2)) with
  | none => rw [show (l.find? fun p => decide (p.1 = k)) = none from h]; rfl
  | some p => rw [show (l.find? fun p => decide (p.1 = k)) = some p from h]; rfl
theorem put_av (l : List (κ × Int)) (k : κ) (v : Int) : kvPut (avK l) k (iA v) = avK (putK l k v) := by
  unfold kvPut putK avK
  rw [List.any_map, show ((fun kv : κ × AV => decide (kv.1 = k)) ∘ fun p : κ × Int => (p.1, iA p.2)) = fun p => decide (p.1 = k) from rfl]
  split
  · rw [List.map_map, List.map_map]
    refine List.map_congr_left fun p _ => ?_
    show (if p.1 = k then (p.1, iA v) else (p.1, iA p.2)) = (fun p : κ × Int => (p.1, iA p.2)) (if p.1 = k then (p.1, v) else p)
    split <;> rfl
  · rw [List.map_append]; rfl
theorem putK_len (l : List (κ × Int)) (k : κ) (v : Int) : (putK l k v).length ≤ l.length + 1 := by unfold putK; split <;> simp
end
noncomputable def atomS (Y : Sy) (t : Str) : Sy := if 0 ≤ lookK Y.an t then Y else ⟨Y.texts ++ [t], putK Y.an t Y.texts.length, Y.fs, Y.fn⟩
noncomputable def atomR (Y : Sy) (t : Str) : Int := if 0 ≤ lookK Y.an t then lookK Y.an t else Y.texts.length
noncomputable def fnS (Y : Sy) (a n : Int) : Sy := if 0 ≤ lookK Y.fn [a, n] then Y else ⟨Y.texts, Y.an, Y.fs ++ [(a, n)], putK Y.fn [a, n] Y.fs.length⟩
noncomputable def fnR (Y : Sy) (a n : Int) : Int := if 0 ≤ lookK Y.fn [a, n] then lookK Y.fn [a, n] else Y.fs.length
noncomputable def fA : List Str := ["[]", ".", "{}", "-", "+", "*", "/", ",", "|", ";", "->", "\\+", ":-", "?-", "-->", "!", "true", "fail", "false", "call", "=", "^", "error", "", "end_of_file", "system", "$VAR", "catch", "throw"]
noncomputable def fF : List (Str × Int) := [(".", 2), (",", 2), (";", 2), ("->", 2), ("\\+", 1), (":-", 2), (":-", 1), ("?-", 1), ("-->", 2), ("{}", 1), ("=", 2), ("^", 2), ("-", 1), ("-", 2), ("+", 2), ("/", 2), ("error", 2), ("$VAR", 1), ("catch", 3), ("throw", 1), ("!", 0), ("true", 0), ("fail", 0), ("false", 0), ("call", 1), ("call", 2), ("call", 3), ("call", 4), ("call", 5), ("call", 6), ("call", 7), ("call", 8)]
noncomputable def Y0 : Sy := ⟨[], [], [], []⟩
noncomputable def YA : Sy := fA.foldl atomS Y0
noncomputable def funcS (Y : Sy) (p : Str × Int) : Sy := fnS (atomS Y p.1) (atomR Y p.1) p.2
noncomputable def YF : Sy := fF.foldl funcS YA
theorem yOk : YOk YF := ⟨⟨1, by decide +kernel⟩, ⟨3, by decide +kernel⟩, ⟨3, by decide +kernel⟩⟩
structure YLen (Y : Sy) (n : Nat) : Prop where
  t : Y.texts.length ≤ n
  a : Y.an.length ≤ n
  f : Y.fs.length ≤ n
  g : Y.fn.length ≤ n
theorem YLen.atom {Y : Sy} {n : Nat} (h : YLen Y n) (t : Str) : YLen (atomS Y t) (n + 1) := by
  unfold atomS; split
  · exact ⟨Nat.le_succ_of_le h.t, Nat.le_succ_of_le h.a, Nat.le_succ_of_le h.f, Nat.le_succ_of_le h.g⟩
  · exact ⟨by rw [List.length_append]; exact Nat.succ_le_succ h.t, Nat.le_trans (putK_len ..) (Nat.succ_le_succ h.a), Nat.le_succ_of_le h.f, Nat.le_succ_of_le h.g⟩
theorem YLen.fn {Y : Sy} {n : Nat} (h : YLen Y n) (a b : Int) : YLen (fnS Y a b) (n + 1) := by
  unfold fnS; split
  · exact ⟨Nat.le_succ_of_le h.t, Nat.le_succ_of_le h.a, Nat.le_succ_of_le h.f, Nat.le_succ_of_le h.g⟩
  · exact ⟨Nat.le_succ_of_le h.t, Nat.le_succ_of_le h.a, by rw [List.length_append]; exact Nat.succ_le_succ h.f, Nat.le_trans (putK_len ..) (Nat.succ_le_succ h.g)⟩
theorem a_look {c : Cx} {i : Nat} {rest : S} {e k d : E} {l : Loc} {L : List AO} {T : Tm} {K : Loc → LT} {R : AV → LT} {o x y v : AV} {ob : AO} (ho : ∀ P : AO → Prop, P ob → obj o L T P) (hd : ob.isDict)
    (h1 : ∀ Q : AV → LT, Q o L T → wpE c e l L T Q) (h2 : ∀ Q : AV → LT, Q x L T → wpE c k l L T Q) (h3 : ∀ Q : AV → LT, Q y L T → wpE c d l L T Q)
    (hv : ∀ Q : AV → LT, Q v L T → (match (generalizing := false) ob, x with
      | .dS kvs, .d (.str z) => Q ((kvGet kvs z).getD y) L T
      | .dI kvs, .d (.int z) => Q ((kvGet kvs z).getD y) L T
      | .dT kvs, .d (.tuple zs) => (match intsOf zs with | some ks => Q ((kvGet kvs ks).getD y) L T | none => False)
      | _, _ => False)) (q : putNth l i (some v) fun l1 => wpS c rest l1 L T K R) : wpS c (.seq (.asg i (.dget e k d)) rest) l L T K R := by
  let Q : AV → LT := fun v L1 T1 => putNth l i (some v) fun l1 => wpS c rest l1 L1 T1 K R
  have key := h1 (fun o L1 T1 => obj o L1 T1 fun ob0 => ob0.isDict ∧ wpE c k l L1 T1 fun x L2 T2 => wpE c d l L2 T2 fun y L3 T3 => obj o L3 T3 fun ob => (match ob, x with
      | .dS kvs, .d (.str z) => Q ((kvGet kvs z).getD y) L3 T3
      | .dI kvs, .d (.int z) => Q ((kvGet kvs z).getD y) L3 T3
      | .dT kvs, .d (.tuple zs) => (match intsOf zs with | some ks => Q ((kvGet kvs ks).getD y) L3 T3 | none => False)
      | _, _ => False)) (ho _ ⟨hd, h2 _ (h3 _ (ho _ (hv Q q)))⟩)
  exact key
noncomputable def LS (row : List Int) (Y : Sy) : List AO := .list (row.map iA) :: symL Y
section
variable {row : List Int} {Y : Sy} {c : Cx} {T : Tm} {Q : AV → LT} {cd : Addr} (HS : SortOk)
include HS
theorem k_atom {t : Str} {n : Nat} (h : 1 ≤ c.n) (hl : YLen Y n) (hn : n < 1000) (q : Q (iA (atomR Y t)) (LS row (atomS Y t)) T) : CallOk c (.ref 88) [.ref 1, .d (.str t)] (LS row Y) T Q := by
  refine c_Symbols_atom HS h (a_look (o := .ref 3) (x := .d (.str t)) (y := iA (-1)) (v := iA (lookK Y.an t)) (ob := .dS (avK Y.an)) (fun P h => h) trivial ?_ ?_ ?_ ?_ ?_)
  · exact fun Q h => h
  · exact fun Q h => h
  · exact fun Q h => h
  · exact fun Q h => by show Q ((kvGet (avK Y.an) t).getD (.d (.int (-1)))) _ _; rw [look_av]; exact h
  · unfold atomR atomS at q
    refine r_if (p := 0 ≤ lookK Y.an t) (fun hc => ?_) fun hc => ?_
    · rw [if_pos hc, if_pos hc] at q; exact q
    · rw [if_neg hc, if_neg hc] at q
      have hl1 := hl.t
      have hl2 : (avK Y.an).length ≤ n := by unfold avK; rw [List.length_map]; exact hl.a
      refine ⟨by rw [List.length_map]; exact Nat.lt_of_le_of_lt hl1 (Nat.lt_trans hn (by decide)), ⟨Nat.lt_of_le_of_lt hl2 (Nat.lt_trans hn (by decide)), ?_⟩⟩
      have q' : Q (iA (Y.texts.map fun t => AV.d (.str t)).length) (.list (row.map iA) :: [.inst 154 [(.texts, .ref 2), (.atom_numbers, .ref 3), (.functors, .ref 4), (.functor_numbers, .ref 5)], .list ((Y.texts.map fun t => AV.d (.str t)) ++ [.d (.str t)]), .dS (kvPut (avK Y.an) t (iA (Y.texts.map fun t => AV.d (.str t)).length)), .list (Y.fs.map cA), .dT (avK Y.fn)]) T := by
        rw [put_av, List.length_map, show (Y.texts.map fun t => AV.d (.str t)) ++ [.d (.str t)] = (Y.texts ++ [t]).map fun t => AV.d (.str t) from map_snoc _ _ _]; exact q
      exact q'
theorem k_functor {a b : Int} {n : Nat} (h : 1 ≤ c.n) (hl : YLen Y n) (hn : n < 1000) (q : Q (iA (fnR Y a b)) (LS row (fnS Y a b)) T) : CallOk c (.ref 102) [.ref 1, iA a, iA b] (LS row Y) T Q := by
  refine c_Symbols_functor HS h (a_look (o := .ref 5) (x := cA (a, b)) (y := iA (-1)) (v := iA (lookK Y.fn [a, b])) (ob := .dT (avK Y.fn)) (fun P h => h) trivial ?_ ?_ ?_ ?_ ?_)
  · exact fun Q h => h
  · exact fun Q h => h
  · exact fun Q h => h
  · exact fun Q h => by show Q ((kvGet (avK Y.fn) [a, b]).getD (.d (.int (-1)))) _ _; rw [look_av]; exact h
  · unfold fnR fnS at q
    refine r_if (p := 0 ≤ lookK Y.fn [a, b]) (fun hc => ?_) fun hc => ?_
    · rw [if_pos hc, if_pos hc] at q; exact q
    · rw [if_neg hc, if_neg hc] at q
      have hl1 := hl.f
      have hl2 : (avK Y.fn).length ≤ n := by unfold avK; rw [List.length_map]; exact hl.g
      refine ⟨by rw [List.length_map]; exact Nat.lt_of_le_of_lt hl1 (Nat.lt_trans hn (by decide)), ⟨Nat.lt_of_le_of_lt hl2 (Nat.lt_trans hn (by decide)), ?_⟩⟩
      have q' : Q (iA (Y.fs.map cA).length) (.list (row.map iA) :: [.inst 154 [(.texts, .ref 2), (.atom_numbers, .ref 3), (.functors, .ref 4), (.functor_numbers, .ref 5)], .list (Y.texts.map fun t => AV.d (.str t)), .dS (avK Y.an), .list (Y.fs.map cA ++ [cA (a, b)]), .dT (kvPut (avK Y.fn) [a, b] (iA (Y.fs.map cA).length))]) T := by
        rw [put_av, List.length_map, map_snoc]; exact q
      exact q'
theorem k_func {t : Str} {b : Int} {n : Nat} (h : 3 ≤ c.n) (hl : YLen Y n) (hn : n < 900) (q : ∀ v, Q v (LS row (funcS Y (t, b))) T) : CallOk c (.ref 109) [.ref 1, .d (.str t), iA b] (LS row Y) T Q :=
  c_Symbols_func HS (lo h) (k_atom HS (lw h) hl (Nat.lt_trans hn (by decide)) (k_functor HS (lw h) (hl.atom t) (by lia) (q _)))
theorem k_fixed_atoms {L : List AO} (h : 1 ≤ c.n) (q : Q (.d (.tuple (fA.map PyData.str))) L T) : CallOk c (.ref 60) [] L T Q := by
  refine c_fixed_atoms HS h ?_
  conv => whnf
  exact q
theorem k_fixed_functors {L : List AO} (h : 1 ≤ c.n) (q : Q (.d (.tuple (fF.map fun p => .tuple [.str p.1, .int p.2]))) L T) : CallOk c (.ref 67) [] L T Q := by
  refine c_fixed_functors HS h ?_
  conv => whnf
  exact q
theorem k_symbols (h : 5 ≤ c.n) (q : Q (.d .none) (LS row YF) T) : CallOk c (.ref 81) [.ref 1] [.list (row.map iA), .inst 154 []] T Q := by
  refine c_Symbols_init HS (lo h) ⟨Nat.zero_le _, .inl ⟨Nat.le_of_ble_eq_true rfl, .inr (.inl (.inl ⟨Nat.le_of_ble_eq_true rfl, ⟨Nat.zero_le _, .inl ⟨Nat.le_of_ble_eq_true rfl, .inr (.inr (.inl ⟨Nat.le_of_ble_eq_true rfl, ?_⟩))⟩⟩⟩))⟩⟩
  refine k_fixed_atoms HS (lw h) ?_
  show wpFr none _ _ (List.map AV.d (List.map PyData.str fA)) _ _ _ _
  rw [List.map_map]
  refine fr_tup (f := AV.d ∘ PyData.str) (xs := fA) (σ := Sy × Option AV) (fun s => [some (.ref 1), s.2, none]) (fun s => LS row s.1) (fun d r s T' => T' = T ∧ s.1 = d.foldl atomS Y0 ∧ YLen s.1 d.length) (Y0, none) rfl rfl ⟨rfl, rfl, ⟨Nat.le_refl _, Nat.le_refl _, Nat.le_refl _, Nat.le_refl _⟩⟩ ?_ ?_
  · intro d x r s T' P hd hI kk
    have hdl : d.length < 900 := by have : fA.length = 29 := rfl; rw [hd, List.length_append] at this; lia
    exact k_atom HS (lw h) hI.2.2 (Nat.lt_trans hdl (by decide)) (kk (atomS s.1 x, _) T' ⟨hI.1, by rw [List.foldl_append, ← hI.2.1]; rfl, by rw [List.length_append]; exact hI.2.2.atom x⟩)
  · intro s T' hI
    refine k_fixed_functors HS (lw h) ?_
    show wpFr none _ _ (List.map AV.d (List.map (fun p : Str × Int => PyData.tuple [.str p.1, .int p.2]) fF)) _ _ _ _
    rw [List.map_map]
    refine fr_tup (f := AV.d ∘ fun p : Str × Int => PyData.tuple [.str p.1, .int p.2]) (xs := fF) (σ := Sy × Option AV) (fun s2 => [some (.ref 1), s.2, s2.2]) (fun s => LS row s.1) (fun d r s T' => T' = T ∧ s.1 = d.foldl funcS YA ∧ YLen s.1 (29 + 2 * d.length)) (s.1, none) rfl rfl ⟨hI.1, hI.2.1, hI.2.2⟩ ?_ ?_
    · intro d x r s2 T2 P hd hJ kk
      have hdl : d.length < 100 := by have : fF.length = 32 := rfl; rw [hd, List.length_append] at this; lia
      refine ⟨by decide, ⟨by decide, k_func HS (lw h) hJ.2.2 (by lia) fun v => kk (funcS s2.1 x, _) T2 ⟨hJ.1, by rw [List.foldl_append, ← hJ.2.1]; rfl, ?_⟩⟩⟩
      rw [List.length_append]
      exact (hJ.2.2.atom x.1).fn _ _
    · intro s2 T2 hJ
      rw [hJ.1, show s2.1 = YF from hJ.2.1]; exact q
end
end Mine
end
section
open PySem.Calls
namespace Mine
noncomputable def M0 (row : List Int) : St := ⟨row, [], [], [], [(5, 0)], [], 0, 0, 0, -1, -1⟩
section
variable {row : List Int} {Y : Sy} {cd : Addr} {c : Cx} {T : Tm} {Q : AV → LT} {L : List AO} (HS : SortOk)
include HS
theorem k_store {r : List AO} (h : 1 ≤ c.n) (hL : L = .list (row.map iA) :: (symL Y ++ [.inst 534 [(.symbols, .ref 1), (.code, .tmp cd), (.max_heap, iA 100000), (.occurs, .d (.bool true)), (.max_bits, iA 4096)], .inst 374 []]))
    (hr : r = .list (row.map iA) :: (symL Y ++ [.inst 534 [(.symbols, .ref 1), (.code, .tmp cd), (.max_heap, iA 100000), (.occurs, .d (.bool true)), (.max_bits, iA 4096)], .inst 374 [(.symbols, .ref 1), (.max_heap, iA 100000), (.heap, .ref 8), (.stack, .ref 9), (.trail, .ref 10), (.hb, iA 0), (.bb, iA 0)], .list [], .list [], .list []]))
    (q : Q (.d .none) r T) : CallOk c (.ref 195) [.ref 7, .ref 1, iA 100000] L T Q := by
  subst hL hr
  exact c_Cells_init HS h ⟨Nat.le_of_ble_eq_true rfl, ⟨Nat.le_of_ble_eq_true rfl, ⟨Nat.zero_le _, .inl ⟨Nat.le_of_ble_eq_true rfl, ⟨Nat.zero_le _, .inl ⟨Nat.le_of_ble_eq_true rfl, ⟨Nat.zero_le _, .inl ⟨Nat.le_of_ble_eq_true rfl, ⟨Nat.le_of_ble_eq_true rfl, ⟨Nat.le_of_ble_eq_true rfl, q⟩⟩⟩⟩⟩⟩⟩⟩⟩⟩
theorem k_reset (h : 4 ≤ c.n) (hL : L = .list (row.map iA) :: (symL Y ++ [.inst 534 [(.symbols, .ref 1), (.code, .tmp cd), (.max_heap, iA 100000), (.occurs, .d (.bool true)), (.max_bits, iA 4096)]])) (q : Q (.d .none) (mkL Y cd (M0 row)) T) : CallOk c (.ref 398) [.ref 6] L T Q := by
  subst hL
  refine c_Areas_reset HS (lo h) ⟨Nat.le_sub_of_add_le (lo h), k_store HS (lw h) rfl rfl ⟨rfl, ?_⟩⟩
  exact ⟨Nat.le_of_ble_eq_true rfl, ⟨Nat.le_of_ble_eq_true rfl, .inl ⟨Nat.le_of_ble_eq_true rfl, ⟨Nat.le_of_ble_eq_true rfl, ⟨Nat.le_of_ble_eq_true rfl, ⟨Nat.le_of_ble_eq_true rfl, ⟨Nat.le_of_ble_eq_true rfl, ⟨Nat.le_of_ble_eq_true rfl, ⟨Nat.le_of_ble_eq_true rfl, ⟨Nat.le_of_ble_eq_true rfl, ⟨Nat.le_of_ble_eq_true rfl, ⟨Nat.zero_le _, .inl ⟨Nat.le_of_ble_eq_true rfl, .inl (.inl ⟨Nat.le_of_ble_eq_true rfl, ⟨Nat.le_of_ble_eq_true rfl, q⟩⟩)⟩⟩⟩⟩⟩⟩⟩⟩⟩⟩⟩⟩⟩
theorem k_areas (h : 6 ≤ c.n) (q : Q (.d .none) (mkL Y cd (M0 row)) T) : CallOk c (.ref 391) [.ref 6, .ref 1, .tmp cd] (LS row Y ++ [.inst 534 []]) T Q :=
  c_Areas_init HS (lo h) ⟨Nat.le_of_ble_eq_true rfl, ⟨Nat.le_of_ble_eq_true rfl, ⟨Nat.le_of_ble_eq_true rfl, ⟨Nat.le_of_ble_eq_true rfl, ⟨Nat.le_of_ble_eq_true rfl, k_reset HS (lw h) rfl q⟩⟩⟩⟩⟩
theorem k_code (h : 3 ≤ c.n) (q : ∀ cd T', Ext T T' → T cd = none → Code T' cd → Q (.tmp cd) L T') : CallOk c (.ref 627) [] L T Q := by
  refine c_law_code HS (lo h) ⟨by decide, by decide, Nat.le_sub_of_add_le (lo h), fun acc ha => ?_⟩
  refine cp_rng (n := 4) (σ := Unit) (f := cdA) (fun _ => L) (fun j d _ T' => Ext T T' ∧ d = (List.range j).map fun i : Nat => (0 : Int) + i) () rfl ⟨Ext.new ha, rfl⟩ (upd_self ..) (by decide) (fun j d s T' o hI => ⟨hI.1.set ha, hI.2⟩) ?_ fun d s T' hI hT => q acc T' hI.1 ha (by unfold Code; rw [hT, hI.2]; rfl)
  exact fun j d s T' P hj hI hT k => k ((0 : Int) + j) () T' ⟨hI.1, by rw [hI.2, List.range_succ, List.map_append]; rfl⟩ hT
theorem k_row {b : Addr} {ws : List Value} {ns : List Int} (h : 1 ≤ c.n) (hl : c.hR.IsList b (List.toArray ws)) (hi : IntsAre ws ns) (hn : ns.length ≤ 63) (q : ∀ r T', RowOk r → Q (.ref 0) [.list (r.map iA)] T') : CallOk c (.ref 615) [.glob (.ref b)] [] T Q := by
  have e40 : (ns.map fun k => AV.d (.int k)).take (40 : Int).toNat = (ns.take 40).map iA := (List.map_take ..).symm
  have hlen : (ns.take 40).length ≤ 40 := by rw [List.length_take]; exact Nat.min_le_left ..
  refine c_law_row HS h (w_new (vs := []) (by decide) fun a ha => ⟨by decide, by decide, .inr ⟨b, ws, ns, rfl, hl, hi, Nat.le_trans hn (by decide), w_new (by rw [e40, List.length_map]; exact Nat.lt_of_le_of_lt hlen (by decide)) fun s hs => ?_⟩⟩)
  have hsa : s ≠ a := by rintro rfl; rw [upd_self] at hs; cases hs
  rw [e40]
  refine ⟨_, upd_self .., ?_⟩
  refine fr_list (f := iA) (xs := ns.take 40) (σ := List Int × Option AV × Option AV × Option AV) (fun s2 => [some (.glob (.ref b)), some (.tmp a), s2.2.1, s2.2.2.1, s2.2.2.2]) (fun _ => []) (fun d r s2 T' => T' s = some (.list ((ns.take 40).map iA)) ∧ T' a = some (.list (s2.1.map iA)) ∧ RowOk s2.1 ∧ s2.1.length ≤ 31 * d.length) ([], none, none, none) rfl rfl
    ⟨upd_self .., by rw [upd_ne _ _ (Ne.symm hsa)]; exact upd_self .., (fun _ h => nomatch h), Nat.le_refl _⟩ (fun d r s2 T' P hI hP => ⟨_, hI.1, rfl, hP⟩) ?_ ?_
  · intro d x r s2 T' P hd hI kk
    have hdl : d.length + 1 ≤ 40 := by rw [hd, List.length_append, List.length_cons] at hlen; lia
    have pos : ∀ {r : List Int} {v : Int}, RowOk r → RowOk (r ++ [v.fmod 1013]) := fun hr y hy => (List.mem_append.mp hy).elim (hr y) fun e => by rw [List.mem_singleton.mp e]; exact Int.fmod_nonneg_of_pos _ (by decide)
    have key : ∀ nm : Int, wpS c.dn (.seq (.ex (.lapp (.loc 1) (.bin .mod (.loc 3) (.int 1013)))) (.seq (.asg 3 (.bin .fdiv (.loc 3) (.int 1013))) (.seq (.fr 4 (.r1 (.int 30)) (.seq (.ite (.cmp .gt (.loc 3) (.int 0)) (.seq (.ex (.lapp (.loc 1) (.bin .mod (.loc 3) (.int 1013)))) (.seq (.asg 3 (.bin .fdiv (.loc 3) (.int 1013))) .nil)) .nil) .nil)) .nil)))
        [some (.glob (.ref b)), some (.tmp a), some (iA x), some (iA nm), s2.2.2.2] [] T' P Q := fun nm => by
      refine ⟨_, hI.2.1, ⟨by decide, ⟨_, hI.2.1, w_tmpAdd (f := iA) (v := nm.fmod 1013) (Nat.lt_of_le_of_lt hI.2.2.2 (by lia)) ⟨⟨by decide, by decide⟩, ⟨by decide, by decide, ?_⟩⟩⟩⟩⟩
      refine rng0 (n := 30) (σ := List Int × Int × Option AV) (fun s3 => [some (.glob (.ref b)), some (.tmp a), some (iA x), some (iA s3.2.1), s3.2.2]) (fun _ => []) (fun j s3 T2 => T2 s = some (.list ((ns.take 40).map iA)) ∧ T2 a = some (.list (s3.1.map iA)) ∧ RowOk s3.1 ∧ s3.1.length ≤ 31 * d.length + 1 + j) (s2.1 ++ [nm.fmod 1013], nm.fdiv 1013, s2.2.2.2) rfl rfl
        ⟨by rw [upd_ne _ _ hsa]; exact hI.1, upd_self .., pos hI.2.2.1, by rw [List.length_append]; exact Nat.succ_le_succ hI.2.2.2⟩ ?_ fun s3 T2 hJ => kk (s3.1, _, _, _) T2 ⟨hJ.1, hJ.2.1, hJ.2.2.1, by rw [List.length_append]; have := hJ.2.2.2; show s3.1.length ≤ 31 * (d.length + 1); lia⟩
      intro j s3 T2 P2 hj hJ k2
      refine r_if (p := 0 < s3.2.1) (fun _ => ?_) fun _ => k2 (s3.1, s3.2.1, some (iA j)) T2 ⟨hJ.1, hJ.2.1, hJ.2.2.1, Nat.le_succ_of_le hJ.2.2.2⟩
      exact ⟨_, hJ.2.1, ⟨by decide, ⟨_, hJ.2.1, w_tmpAdd (f := iA) (v := s3.2.1.fmod 1013) (Nat.lt_of_le_of_lt hJ.2.2.2 (by lia)) ⟨⟨by decide, by decide⟩, k2 (s3.1 ++ [s3.2.1.fmod 1013], s3.2.1.fdiv 1013, some (iA j)) _ ⟨by rw [upd_ne _ _ hsa]; exact hJ.1, upd_self .., pos hJ.2.2.1, by rw [List.length_append]; exact Nat.succ_le_succ hJ.2.2.2⟩⟩⟩⟩⟩
    exact r_if (p := 0 ≤ x) (fun _ => key x) fun _ => key (7 - x)
  · intro s2 T' hI
    have e120 : (s2.1.map iA).take (120 : Int).toNat = (s2.1.take 120).map iA := (List.map_take ..).symm
    have q' := q (s2.1.take 120).reverse T' fun v hv => hI.2.2.1 v (List.mem_of_mem_take (List.mem_reverse.mp hv))
    rw [List.map_reverse] at q'
    refine ⟨by decide, by decide, .inl ⟨_, hI.2.1, ⟨by rw [e120, List.length_map, List.length_take]; exact Nat.le_trans (Nat.min_le_left ..) (by decide), .inl ?_⟩⟩⟩
    rw [e120]
    exact q'
end
end Mine
end
section
open PySem.Calls
set_option tactic.hygienic false
namespace Mine
theorem okc_fine {heap : List Cell} {D : List Ch} {tr : List Int} {x : Cell} {sl : Nat} {slot : Int} (H : InvH heap D tr) (h : okc heap (bnd heap D) x) : ¬ctB heap sl x slot := by
  have t6 := (okc_tag h).1
  have t1 := (okc_tag h).2
  rcases h with h | h | ⟨h0, y, hy, h⟩
  · unfold ctB; rw [h]; simp
  · unfold ctB; rw [h]; simp
  · have hlt := lt_len h0 hy
    have hc : cellAt heap x.2 = y := by unfold cellAt; rw [hy]; rfl
    rcases h with ⟨e, h⟩ | ⟨e, h⟩ | ⟨e, h⟩
    · rw [ct0 e, hc]
      exact fun z => z.elim (fun z => z.elim (fun z => absurd h0 (Int.not_le.mpr z)) fun z => absurd hlt (Int.not_lt.mpr z)) h
    · rw [ct2 e, hc]
      have hh := H.cell _ y hy
      have z : x.2.toNat + ar y.2 < heap.length := by
        rcases hh with ⟨_, _, k⟩ | ⟨k, _⟩
        · exact k _ List.mem_cons_self (lt_of_get hy)
        · exact absurd h (okc_tag k).1
      exact fun w => w.elim (fun w => w.elim (fun w => absurd h0 (Int.not_le.mpr w)) fun w => w.elim (fun w => absurd hlt (Int.not_lt.mpr w)) fun w => w h) fun w => by lia
    · rw [ct3 e]
      have z := h _ List.mem_cons_self (lt_of_get hy)
      exact fun w => w.elim (fun w => absurd h0 (Int.not_le.mpr w)) fun w => by lia
theorem Inv.wX {M : St} {C : List (Nat × Nat)} {D : List Ch} {X : List Cell} (I : Inv M C D) : Inv (M.wX X) C D := ⟨I.e, I.cp, I.b, I.hb, I.bb, I.H, I.S, I.V⟩
noncomputable def hp3 (j : Nat) : List Cell := (List.range j).map fun i : Nat => ((0, (i : Int)) : Cell)
theorem hp3_succ (j : Nat) : hp3 (j + 1) = hp3 j ++ [(0, (j : Int))] := by unfold hp3; rw [List.range_succ, List.map_append]; rfl
theorem hp3_len (j : Nat) : (hp3 j).length = j := by unfold hp3; rw [List.length_map, List.length_range]
noncomputable def M1 (row : List Int) : St := ((M0 row).wH (hp3 3)).wO (hp3 3 ++ [(5, 9)])
theorem okc3 {a : Nat} (h : a < 3) : okc (hp3 3) (bnd (hp3 3) []) (0, (a : Int)) := okc_var (by match a, h with | 0, _ => rfl | 1, _ => rfl | 2, _ => rfl)
theorem inv0 (row : List Int) : Inv (M1 row) [] [] := by
  refine ⟨rfl, rfl, rfl, rfl, rfl, ⟨trivial, Nat.le_refl 3, fun a c e => ?_, fun _ h => (nomatch h), fun _ h => (nomatch h)⟩, ⟨trivial, trivial, fun _ h => (nomatch h), fun _ h => (nomatch h), fun _ h => (nomatch h)⟩, ⟨fun _ h => (nomatch h), fun _ h => (nomatch h)⟩⟩
  have ha : a < 3 := lt_of_get e
  have ec : c = (0, (a : Int)) := by
    match a, ha, e with
    | 0, _, e => cases e; rfl
    | 1, _, e => cases e; rfl
    | 2, _, e => cases e; rfl
  subst ec
  exact .inr ⟨okc3 ha, fun _ => Int.le_refl _, fun _ h => nomatch h⟩
theorem mem00 : ∀ x ∈ mem0, x ∈ hp3 3 ++ [((4, 0) : Cell), (5, 5)] := by
  have e : hp3 3 ++ [((4, 0) : Cell), (5, 5)] = [(0, ((0 : Nat) : Int)), (0, ((1 : Nat) : Int)), (0, ((2 : Nat) : Int)), (4, 0), (5, 5)] := rfl
  rw [e]; unfold mem0; simp
theorem pf0 {n : Nat} (h : 3 ≤ n) : ∀ x ∈ mem0, pf n x = true := by
  have z : ∀ i : Nat, i < 3 → pf n (0, (i : Int)) = true := fun i hi => by unfold pf; rw [decide_eq_true (show (i : Int) < n by lia)]; exact Bool.or_true _
  exact List.forall_mem_cons.mpr ⟨rfl, List.forall_mem_cons.mpr ⟨z 0 (by decide), List.forall_mem_cons.mpr ⟨z 1 (by decide), List.forall_mem_cons.mpr ⟨z 2 (by decide), fun _ h => nomatch h⟩⟩⟩⟩
theorem full0 {row r : List Int} : Full ((M1 row).wR r) [] (hp3 3 ++ [((4, 0) : Cell), (5, 5)]) := fun x hx => by
  rcases List.mem_append.mp hx with hx | hx
  · unfold hp3 at hx
    refine e1a2 (List.mem_map.mp hx) fun i hi x1_ => ?_; subst x1_
    exact okc3 (List.mem_range.mp hi)
  · rcases List.mem_cons.mp hx with rfl | hx
    · exact .inl rfl
    · rw [List.mem_singleton.mp hx]; exact .inr (.inl rfl)
theorem full1 {cd p : Addr} {M : St} {C : List (Nat × Nat)} {D : List Ch} {pool : List Cell} {k : Nat} {T : Tm} (P : Pk cd p M C D pool k T) : Full M D (pool.filter (pf M.heap.length)) := fun x hx => by
  have x3_ := List.mem_filter.mp hx; have h1 := x3_.1; have h2 := x3_.2
  refine (P.ok x h1).resolve_right fun ⟨a, b⟩ => ?_
  unfold pf at h2
  rw [decide_eq_true (show x.1 = 0 ∨ x.1 = 2 ∨ x.1 = 3 from a), decide_eq_false (Int.not_lt.mpr b)] at h2
  cases h2
theorem Pk.to28 {cd p : Addr} {M : St} {C : List (Nat × Nat)} {D : List Ch} {pool : List Cell} {k : Nat} {T : Tm} (P : Pk cd p M C D pool k T) (hk : k ≤ 28) : Pk cd p M C D pool 28 T :=
  ⟨P.I, P.row, ⟨Nat.le_trans P.B.heap (by lia), Nat.le_trans P.B.stack (by lia), Nat.le_trans P.B.trail hk, Nat.le_trans P.B.lC hk, Nat.le_trans P.B.lD hk, fun d hd => Nat.le_trans (P.B.env d hd) hk, P.B.x⟩, P.hT, P.pc, P.hp, P.ok, P.mem, Nat.le_trans P.len (by lia), P.rt⟩
section
variable {cd : Addr} {c : Cx} {T : Tm} {Q : AV → LT} (HS : SortOk)
structure Fin0 (cd : Addr) (M : St) (C : List (Nat × Nat)) (D : List Ch) (many : Nat) (T : Tm) : Prop where
  I : Inv M C D
  row : RowOk M.row
  B : Bd M C D 28
  hT : Code T cd
  rt : M.roots = [(0, 0), (0, 1), (0, 2), (5, 9)]
  rts : ∀ x ∈ M.roots, ¬ctB M.heap M.stack.length x (-1)
  z0 : ∃ x, M.heap[0]? = some x ∧ x.1 ≠ 6
  m3 : many ≤ 3
  mx : many = 0 ∨ many < M.x.length
  xs : ∀ j, j < many → ∀ x, M.x[1 + j]? = some x → ¬ctB M.heap M.stack.length x (-1)
include HS
theorem k_regs {Y : Sy} {p : Addr} {M : St} {C : List (Nat × Nat)} {D : List Ch} {pool : List Cell} {w4 : Option AV} {K : Loc → LT} (h : 10 ≤ c.n) (P : Pk cd p M C D pool 28 T) (hF : Full M D pool) (q : ∀ M' many T', Fin0 cd M' C D many T' → Q (.mk (.ref 6) (iA many)) (mkL Y cd M') T') :
    wpS c (.seq (.asg 5 (.bin .mod (.callF .law_next (.cons (.loc 1) .nil)) (.int 4)))
      (.seq (.fr 6 (.r1 (.loc 5)) (.seq (.ex (.mcall (.loc 2) .set_x (.cons (.bin .add (.loc 6) (.int 1)) (.cons (.callF .law_pick (.cons (.loc 1) (.cons (.loc 3) .nil))) .nil)))) .nil))
      (.seq (.ite (.and (.cmp .gt (.loc 5) (.int 0)) (.and (.cmp .gt (.callF .law_size (.cons (.loc 2) .nil)) (.int 0)) (.cmp .eq (.bin .mod (.callF .law_next (.cons (.loc 1) .nil)) (.int 2)) (.int 1)))) (.seq (.ex (.mcall (.loc 2) .set_x (.cons (.loc 5) (.cons (.tup (.cons (.gl .SRF) (.cons (.bin .add (.attr (.loc 2) .e) (.int 2)) .nil))) .nil)))) .nil) .nil)
      (.seq (.ret (.tup (.cons (.loc 2) (.cons (.loc 5) .nil)))) .nil))))
      [some (.ref 1), some (.ref 0), some (.ref 6), some (.tmp p), w4, none, none] (mkL Y cd M) T K Q := by
  refine k_next HS (lv h) P.row fun r v T1 hr hv h1 => ⟨by decide, ?_⟩
  refine (fm_nat (n := 4) hv (by decide)).elim fun m hm => ?_
  have e : v.fmod 4 = (m : Int) := hm.2
  have hm3 : m ≤ 3 := Nat.le_of_lt_succ hm.1
  rw [e]
  refine ⟨(rb (by lia)).1, (rb (by lia)).2, ?_⟩
  refine rng0 (n := m) (σ := List Int × List Cell × Option AV) (fun s => [some (.ref 1), some (.ref 0), some (.ref 6), some (.tmp p), w4, some (iA m), s.2.2]) (fun s => mkL Y cd ((M.wR s.1).wX s.2.1)) (fun j s T' => Ext T1 T' ∧ RowOk s.1 ∧ s.2.1.length ≤ 4 ∧ ∀ i, i < j → ∃ x ∈ pool, s.2.1[1 + i]? = some x) (r, M.x, none) rfl rfl
    ⟨Ext.refl T1, hr, P.B.x, fun _ h => absurd h (Nat.not_lt_zero _)⟩ ?_ ?_
  · intro j s T' P' hj hI kk
    refine k_pick (M := (M.wR s.1).wX s.2.1) HS (lv h) hI.2.1 ((h1.trans hI.1) _ _ P.hp) P.ne fun r2 x T2 hr2 hx h2 => ?_
    refine k_set_x (M := ((M.wR s.1).wX s.2.1).wR r2) (k := j + 1) HS (lv h) (by lia) fun X hX1 hX2 hX3 => kk (r2, X, some (iA j)) T2 ⟨hI.1.trans h2, hr2, sx_len hI.2.2.1 (by lia) hX1, fun i hi => ?_⟩
    rcases Nat.lt_succ_iff_lt_or_eq.mp hi with hi | rfl
    · refine e1a2 (hI.2.2.2 i hi) fun y hy e => ?_
      exact ⟨y, hy, (hX3 _ (by lia) (lt_of_get e)).trans e⟩
    · exact ⟨x, hx, by rw [Nat.add_comm]; exact hX2⟩
  · intro s T2 hI
    have hlen : m = 0 ∨ m < s.2.1.length := by
      cases m with
      | zero => exact .inl rfl
      | succ i => refine e1a2 (hI.2.2.2 i (Nat.lt_succ_self i)) fun y _ e => ?_; exact .inr (by have := lt_of_get e; lia)
    have good : ∀ j, j < m → ∀ x, s.2.1[1 + j]? = some x → ¬ctB M.heap M.stack.length x (-1) := fun j hj x hx => by
      refine e1a2 (hI.2.2.2 j hj) fun y hy e => ?_
      rw [e] at hx; cases hx
      exact okc_fine P.I.H (hF x hy)
    have rk : ∀ x ∈ mem0, okc M.heap (bnd M.heap D) x := fun x hx => hF x (P.mem x hx)
    have rts : ∀ x ∈ M.roots, ¬ctB M.heap M.stack.length x (-1) := by
      rw [P.rt]
      exact List.forall_mem_cons.mpr ⟨okc_fine P.I.H (rk _ (.tail _ (.head _))), List.forall_mem_cons.mpr ⟨okc_fine P.I.H (rk _ (.tail _ (.tail _ (.head _)))), List.forall_mem_cons.mpr ⟨okc_fine P.I.H (rk _ (.tail _ (.tail _ (.tail _ (.head _))))), List.forall_mem_cons.mpr ⟨okc_fine P.I.H (.inr (.inl rfl)), fun _ h => nomatch h⟩⟩⟩⟩
    have z0 : ∃ x, M.heap[0]? = some x ∧ x.1 ≠ 6 := by
      rcases rk _ (.tail _ (.head _)) with h | h | ⟨_, x, e, h⟩
      · exact absurd h (by decide : ¬(0 : Int) = 4)
      · exact absurd h (by decide : ¬(0 : Int) = 5)
      · exact ⟨x, e, h.elim (·.2) fun h => h.elim (fun h => absurd h.1 (by decide : ¬(0 : Int) = 2)) fun h => absurd h.1 (by decide : ¬(0 : Int) = 3)⟩
    have fin : ∀ X r3 T3, RowOk r3 → X.length ≤ 4 → (m = 0 ∨ m < X.length) → (∀ j, j < m → ∀ x, X[1 + j]? = some x → ¬ctB M.heap M.stack.length x (-1)) → Ext T2 T3 → Q (.mk (.ref 6) (iA m)) (mkL Y cd ((M.wR r3).wX X)) T3 := fun X r3 T3 a1 a2 a3 a4 a5 =>
      q _ m T3 ⟨P.I.row.wX, a1, ⟨P.B.heap, P.B.stack, P.B.trail, P.B.lC, P.B.lD, P.B.env, a2⟩, ((h1.trans hI.1).trans a5) _ _ P.hT, P.rt, rts, z0, hm3, a3, a4⟩
    have done := fin s.2.1 s.1 T2 hI.2.1 hI.2.2.1 hlen good (Ext.refl T2)
    have hT2 : Code T2 cd := (h1.trans hI.1) _ _ P.hT
    refine r_if (p := (0 : Int) < m) (fun hm0 => ?_) fun _ => done
    cases C with
    | nil => exact k_size0 (M := (M.wR s.1).wX s.2.1) HS (lv h) P.I.e done
    | cons p0 C =>
      have h0 := P.I.S.ch.1
      refine k_size (M := (M.wR s.1).wX s.2.1) HS (lv h) hT2 P.I.e P.I.cp h0.n3 (r_if (p := (0 : Int) < p0.2) (fun hp0 => ?_) fun _ => done)
      refine k_next (M := (M.wR s.1).wX s.2.1) HS (lv h) hI.2.1 fun r3 v3 T3 hr3 hv3 h3 => ⟨by decide, r_if (p := v3.fmod 2 = 1) (fun _ => ?_) fun _ => fin s.2.1 r3 T3 hr3 hI.2.2.1 hlen good h3⟩
      refine k_set_x (M := ((M.wR s.1).wX s.2.1).wR r3) (k := m) (v := (1, M.e + 2)) HS (lv h) (by lia) fun X hX1 hX2 hX3 => fin X r3 T3 hr3 (sx_len hI.2.2.1 (by lia) hX1) (.inr (lt_of_get hX2)) (fun j hj x hx => ?_) h3
      by_cases hjm : 1 + j = m
      · rw [hjm, hX2] at hx; cases hx
        have e0 : M.e = p0.1 := P.I.e
        refine e1a1 (h0.sl 0 (Int.ofNat_lt.mp hp0)) fun y hy => ?_
        have := lt_of_get hy
        rw [ct1 rfl]
        show ¬((M.e + 2 < 0 ∨ (M.stack.length : Int) ≤ M.e + 2) ∨ _)
        rw [e0]; lia
      · rw [hX3 _ hjm (show 1 + j < s.2.1.length by rcases hlen with e | e <;> lia)] at hx
        exact good j hj x hx
theorem k_state {row : List Int} (h : 24 ≤ c.n) (hr : RowOk row) (q : ∀ cd M C D many T', Fin0 cd M C D many T' → Q (.mk (.ref 6) (iA many)) (mkL YF cd M) T') : CallOk c (.ref 667) [.ref 1, .ref 0] (LS row YF) T Q := by
  refine c_law_state HS (lo h) (k_code HS (lw h) fun cd T1 h1 hcd hC => ⟨Nat.le_sub_of_add_le (lo h), k_areas HS (lw h) ⟨rfl, w_new (by decide) fun p hp => ?_⟩⟩)
  have hpc : p ≠ cd := by rintro rfl; unfold Code at hC; rw [hp] at hC; cases hC
  have hC2 : Code (upd T1 p (.list [])) cd := Ext.new hp _ _ hC
  refine ⟨by decide, by decide, ?_⟩
  refine rng0 (n := 3) (σ := Nat × Option AV) (fun s => [some (.ref 1), some (.ref 0), some (.ref 6), some (.tmp p), s.2, none, none]) (fun s => mkL YF cd (((M0 row).wH (hp3 s.1)).wO (hp3 s.1))) (fun j s T' => s.1 = j ∧ Code T' cd ∧ T' p = some (.list ((hp3 j).map cA))) (0, none) rfl rfl ⟨rfl, hC2, upd_self ..⟩ ?_ ?_
  · intro j s T' P hj hI kk
    obtain ⟨sj, sw⟩ := s
    obtain rfl : sj = j := hI.1
    have hl : (hp3 sj).length = sj := hp3_len _
    have k' := kk (sj + 1, some (iA sj)) (upd T' p (.list ((hp3 (sj + 1)).map cA))) ⟨rfl, by unfold Code; rw [upd_ne _ _ (Ne.symm hpc)]; exact hI.2.1, upd_self ..⟩
    have e1 : hp3 sj ++ [((0, ((hp3 sj).length : Int)) : Cell)] = hp3 (sj + 1) := by rw [hl]; exact (hp3_succ sj).symm
    have k2 : P [some (.ref 1), some (.ref 0), some (.ref 6), some (.tmp p), some (iA sj), none, none] (mkL YF cd (((M0 row).wH (hp3 (sj + 1))).wO (hp3 (sj + 1)))) (upd T' p (.list ((hp3 (sj + 1)).map cA))) := k'
    rw [← e1] at k2
    refine k_new_var (M := ((M0 row).wH (hp3 sj)).wO (hp3 sj)) HS (lw h) (by show (hp3 sj).length < 100000; rw [hl]; lia) (w_rootAdd (M := (((M0 row).wH (hp3 sj)).wO (hp3 sj)).wH (hp3 sj ++ [(0, ((hp3 sj).length : Int))])) (v := (0, ((hp3 sj).length : Int))) (by show (hp3 sj).length < 1000000; rw [hl]; lia) ⟨_, hI.2.2, ?_⟩)
    exact r_ix (f := cA) (l := hp3 sj ++ [(0, ((hp3 sj).length : Int))]) (k := (sj : Int)) (v := (0, ((hp3 sj).length : Int))) (Int.natCast_nonneg _) (by rw [Int.toNat_natCast, List.getElem?_append_right (Nat.le_of_eq hl), hl, Nat.sub_self]; rfl) ⟨_, hI.2.2, w_tmpAdd (f := cA) (by rw [hl]; lia) k2⟩
  · intro s T' hI
    refine w_new (by decide) fun a2 ha2 => ⟨_, Ext.new ha2 _ _ hI.2.2, ⟨_, upd_self .., by decide, ?_⟩⟩
    have hpa : p ≠ a2 := by rintro rfl; rw [hI.2.2] at ha2; cases ha2
    have ea : (hp3 3).map cA ++ [.d (.tuple [.int 4, .int 0]), .d (.tuple [.int 5, .int 5])] = (hp3 3 ++ [((4, 0) : Cell), (5, 5)]).map cA := rfl
    refine w_rootAdd (M := ((M0 row).wH (hp3 s.1)).wO (hp3 s.1)) (v := (5, 9)) (by show (hp3 s.1).length < 1000000; rw [hp3_len, hI.1]; decide) ?_
    have P0 : Pk cd p (M1 row) [] [] (hp3 3 ++ [((4, 0) : Cell), (5, 5)]) 0 (upd (upd T' a2 (.list [.d (.tuple [.int 4, .int 0]), .d (.tuple [.int 5, .int 5])])) p (.list ((hp3 3 ++ [((4, 0) : Cell), (5, 5)]).map cA))) :=
      ⟨inv0 row, hr, ⟨Nat.le_refl 3, Nat.le_refl 0, Nat.le_refl 0, Nat.le_refl 0, Nat.le_refl 0, (fun _ h => nomatch h), Nat.le_of_ble_eq_true rfl⟩, by unfold Code; rw [upd_ne _ _ (Ne.symm hpc)]; exact Ext.new ha2 _ _ hI.2.1, hpc, upd_self .., fun x hx => .inl (full0 (row := row) x hx), mem00, Nat.le_refl 5, rfl⟩
    rw [hI.1]
    refine k_next (M := M1 row) HS (lw h) hr fun r v T2 hr2 hv h2 => ⟨by decide, ?_⟩
    refine (fm_nat (n := 28) hv (by decide)).elim fun n hn => ?_
    have e : v.fmod 28 = (n : Int) := hn.2
    rw [e]
    refine ⟨(rb (by lia)).1, (rb (by lia)).2, ?_⟩
    refine rng0 (n := n) (σ := (St × List (Nat × Nat) × List Ch × List Cell × Addr) × Option AV) (fun s => [some (.ref 1), some (.ref 0), some (.ref 6), some (.tmp s.1.2.2.2.2), s.2, none, none]) (fun s => mkL YF cd s.1.1) (fun j s T' => Pk cd s.1.2.2.2.2 s.1.1 s.1.2.1 s.1.2.2.1 s.1.2.2.2.1 j T' ∧ Full s.1.1 s.1.2.2.1 s.1.2.2.2.1)
      (((M1 row).wR r, [], [], hp3 3 ++ [((4, 0) : Cell), (5, 5)], p), s.2) rfl rfl ⟨P0.in_ h2 hr2, full0 (row := row)⟩ ?_ ?_
    · intro j s T' P hj hJ kk
      refine k_step HS (lw h) yOk hJ.1 hJ.2 (by lia) fun M' C' D' pool' T3 P3 => ?_
      refine k_pool HS (lw h) P3.hp (by have := P3.len; lia) fun a T4 h4 ha4 hT4 => kk ((M', C', D', pool'.filter (pf M'.heap.length), a), some (iA j)) T4 ⟨⟨P3.I, P3.row, P3.B, h4 _ _ P3.hT, ?_, hT4, fun x hx => .inl (full1 P3 x hx), ?_, Nat.le_trans (List.length_filter_le ..) P3.len, P3.rt⟩, full1 P3⟩
      · rintro rfl; have z := P3.hT; unfold Code at z; rw [ha4] at z; cases z
      · exact fun x hx => List.mem_filter.mpr ⟨P3.mem x hx, pf0 P3.I.H.three x hx⟩
    · intro s T' hJ
      exact k_regs HS (lv h) (hJ.1.to28 (by lia)) hJ.2 fun M' many T'' F => q cd M' _ _ many T'' F
end
end Mine
end
section
open PySem.Calls
set_option tactic.hygienic false
namespace Mine
theorem eqvAll_refl {α : Type} {f : α → PyData} (h : ∀ a, PyData.eqv (f a) (f a) = true) : ∀ l : List α, PyData.eqvAll (l.map f) (l.map f) = true
  | [] => rfl
  | a :: l => (Bool.and_eq_true _ _).mpr ⟨h a, eqvAll_refl h l⟩
theorem eqv_int (a : Int) : PyData.eqv (.int a) (.int a) = true := beq_self_eq_true a
noncomputable def cD (c : Cell) : PyData := .tuple [.int c.1, .int c.2]
noncomputable def sD : SV → PyData
  | .i k => .int k
  | .c x => cD x
theorem eqv_cD (c : Cell) : PyData.eqv (cD c) (cD c) = true := by unfold cD; rw [eqv_c]; exact decide_eq_true ⟨rfl, rfl⟩
theorem eqv_sD (v : SV) : PyData.eqv (sD v) (sD v) = true := by cases v; exact eqv_int _; exact eqv_cD _
theorem r_same {b : Bool} {P N : Prop} (h : b = true) (n : N) : wpIf (!b) P N := by rw [h]; exact n
theorem sd_lay (v : SV) : (sD v).canLay0 = true ∧ (sD v).depth ≤ 1 := by cases v; exact ⟨rfl, Nat.zero_le _⟩; exact ⟨rfl, Nat.le_refl _⟩
theorem ne_same {α : Type} {f : α → AV} {g : α → PyData} {l : List α} {a b : Addr} {L : List AO} {T : Tm} {K : Bool → Prop} (hf : ∀ x, f x = .d (g x)) (hg : ∀ x, (g x).canLay0 = true ∧ (g x).depth ≤ 1) (he : ∀ x, PyData.eqv (g x) (g x) = true)
    (ha : T a = some (.list (l.map f))) (hb : T b = some (.list (l.map f))) (k : K false) : wpCmp .ne (.tmp a) (.tmp b) L T K :=
  ⟨_, _, .tmp ha (dataAll_map hf l), .tmp hb (dataAll_map hf l), sh_map hg l, sh_map hg l, by rw [show PyData.eqv (.list (l.map g)) (.list (l.map g)) = true from eqvAll_refl he l]; exact k⟩
theorem cp_fil {cc : Cx} {B : Nat → Bool} {n : Nat} {acc : Addr} {k : C} {rl : Loc} {w0 : Option AV} {K : LT} {T : Tm} {L : List AO} (hT : T acc = some (.list [])) (hn : n < 1000000)
    (hk : ∀ (j : Nat) T (Q : Bool → LT), j < n → Q (B j) L T → wpC cc k (some (iA j) :: rl) L T Q)
    (fin : ∀ T', (∀ b o, b ≠ acc → T b = some o → T' b = some o) → T' acc = some (.list (((List.range n).filter B).map fun j : Nat => iA j)) → K L T') :
    wpCp acc false none (fun l' L2 T2 K => wpC cc k l' L2 T2 K) (fun l' L2 T2 K => wpE cc (.loc 0) l' L2 T2 K) (rangeAV 0 n) [] (w0 :: rl) L T K := by
  have go : ∀ (m j : Nat) (w : Option AV) (T' : Tm), j + m = n → (∀ b o, b ≠ acc → T b = some o → T' b = some o) → T' acc = some (.list (((List.range j).filter B).map fun j : Nat => iA j)) →
      wpCp acc false none (fun l' L2 T2 K => wpC cc k l' L2 T2 K) (fun l' L2 T2 K => wpE cc (.loc 0) l' L2 T2 K) (rangeAV j m) (((List.range j).filter B).map fun j : Nat => iA j) (w :: rl) L T' K := by
    intro m
    induction m with
    | zero => intro j w T' e hE h; subst e; exact ⟨h, fin T' hE h⟩
    | succ m ih =>
      intro j w T' e hE h
      have hl : ((List.range j).filter B).length ≤ j := Nat.le_trans (List.length_filter_le ..) (Nat.le_of_eq List.length_range)
      have hr : (List.range (j + 1)).filter B = (List.range j).filter B ++ [j].filter B := by rw [List.range_succ, List.filter_append]
      refine hk j T' _ (e ▸ Nat.lt_add_of_pos_right (Nat.succ_pos m)) ?_
      cases hB : B j with
      | true =>
        have z := ih (j + 1) (some (iA j)) (upd T' acc (.list (((List.range (j + 1)).filter B).map fun j : Nat => iA j))) ((Nat.succ_add_eq_add_succ j m).trans e) (fun b o hb e => by rw [upd_ne _ _ hb]; exact hE b o hb e) (upd_self ..)
        rw [hr, List.filter_cons_of_pos hB, List.map_append] at z
        exact ⟨h, by rw [List.length_map]; exact Nat.lt_of_le_of_lt hl (Nat.lt_trans (Nat.lt_of_lt_of_le (Nat.lt_add_of_pos_right (Nat.succ_pos m)) (Nat.le_of_eq e)) (Nat.lt_trans hn (by decide))), z⟩
      | false =>
        have z := ih (j + 1) (some (iA j)) T' ((Nat.succ_add_eq_add_succ j m).trans e) hE (by rw [hr, List.filter_cons_of_neg (by rw [hB]; exact Bool.false_ne_true), List.filter_nil, List.append_nil]; exact h)
        rw [hr, List.filter_cons_of_neg (by rw [hB]; exact Bool.false_ne_true), List.filter_nil, List.append_nil] at z
        exact z
  exact go n 0 w0 T (Nat.zero_add n) (fun _ _ _ e => e) hT
theorem cp_fst {cc : Cx} {fl : List (Nat × Str)} {a acc : Addr} {w0 w1 : Option AV} {K : LT} {T : Tm} {L : List AO} (hT : T acc = some (.list [])) (ha : T a = some (.list (fl.map hfA))) (hne : a ≠ acc) (hn : fl.length < 1000000)
    (fin : ∀ T', (∀ b o, b ≠ acc → T b = some o → T' b = some o) → T' acc = some (.list (fl.map fun p => iA p.1)) → K L T') :
    wpCp acc true (some (.tmp a, fl.map hfA)) (fun l' L2 T2 K => wpC cc .tt l' L2 T2 K) (fun l' L2 T2 K => wpE cc (.loc 0) l' L2 T2 K) (fl.map hfA) [] [w0, w1] L T K := by
  have go : ∀ (r d : List (Nat × Str)) (w0 w1 : Option AV) (T' : Tm), fl = d ++ r → (∀ b o, b ≠ acc → T b = some o → T' b = some o) → T' acc = some (.list (d.map fun p => iA p.1)) →
      wpCp acc true (some (.tmp a, fl.map hfA)) (fun l' L2 T2 K => wpC cc .tt l' L2 T2 K) (fun l' L2 T2 K => wpE cc (.loc 0) l' L2 T2 K) (r.map hfA) (d.map fun p => iA p.1) [w0, w1] L T' K := by
    intro r
    induction r with
    | nil => intro d w0 w1 T' e hE h; rw [List.append_nil] at e; subst e; exact ⟨_, hE _ _ hne ha, rfl, h, fin T' hE h⟩
    | cons x r ih =>
      intro d w0 w1 T' e hE h
      have hl : d.length < fl.length := by rw [e, List.length_append]; exact Nat.lt_add_of_pos_right (Nat.succ_pos _)
      have z := ih (d ++ [x]) (some (iA x.1)) (some (stA x.2)) (upd T' acc (.list ((d ++ [x]).map fun p => iA p.1))) (by rw [e, List.append_assoc]; rfl) (fun b o hb e => by rw [upd_ne _ _ hb]; exact hE b o hb e) (upd_self ..)
      rw [List.map_append] at z
      exact ⟨_, hE _ _ hne ha, rfl, h, by rw [List.length_map]; exact Nat.lt_trans hl (Nat.lt_trans hn (by decide)), z⟩
  exact go fl [] w0 w1 T rfl (fun _ _ _ e => e) hT
end Mine
end
section
open PySem.Calls
set_option tactic.hygienic false
namespace Mine
theorem eq_same {α : Type} {f : α → AV} {g : α → PyData} {l : List α} {a b : Addr} {L : List AO} {T : Tm} {K : Bool → Prop} (hf : ∀ x, f x = .d (g x)) (hg : ∀ x, (g x).canLay0 = true ∧ (g x).depth ≤ 1) (he : ∀ x, PyData.eqv (g x) (g x) = true)
    (ha : T a = some (.list (l.map f))) (hb : T b = some (.list (l.map f))) (k : K true) : wpCmp .eq (.tmp a) (.tmp b) L T K :=
  ⟨_, _, .tmp ha (dataAll_map hf l), .tmp hb (dataAll_map hf l), sh_map hg l, sh_map hg l, by rw [show PyData.eqv (.list (l.map g)) (.list (l.map g)) = true from eqvAll_refl he l]; exact k⟩
theorem li (k : Int) : (PyData.int k).canLay0 = true ∧ (PyData.int k).depth ≤ 1 := ⟨rfl, Nat.zero_le _⟩
section
variable {cd : Addr} {M : St} {c : Cx} {T : Tm} {K : Loc → LT} {R : AV → LT} {many : Nat} {v0 v6 v7 v8 v9 : Option AV} (HS : SortOk)
include HS
theorem law_s {Y : Sy} (h : 8 ≤ c.n) (hr : RowOk M.row) (hs : M.stack.length < 900000) (q : ∀ L T, R (.d (.bool true)) L T) :
    wpS c b_law_s [v0, some (.ref 0), some (.ref 1), some (.ref 6), some (iA many), some (.ref 7), v6, v7, v8, v9, none] (mkL Y cd M) T K R := by
  have em : (M.stack.map sA).length = M.stack.length := List.length_map _
  refine k_put (M := M) (X := M.stack) (i := (M.stack.map sA).length) (v := .c (1, ((M.stack.map sA).length : Nat))) HS (lv h) (Nat.le_of_eq em) (by lia) ?_
  rw [em, ← put_end]
  have e1 : ((((M.wS (M.stack ++ [SV.c (1, (M.stack.length : Int))])).stack.map sA).length : Nat) : Int) - 1 = (M.stack.length : Nat) := by
    rw [lenI]; show ((M.stack ++ [SV.c (1, (M.stack.length : Int))]).length : Int) - 1 = _; rw [List.length_append]; show ((M.stack.length + 1 : Nat) : Int) - 1 = _; lia
  have g0 : (M.stack ++ [SV.c (1, (M.stack.length : Int))])[M.stack.length]? = some (.c (1, (M.stack.length : Int))) := get_app (i := 0) rfl
  have step : ∀ z : Int, z = M.stack.length → wpS c (.seq (.ite (.cmp .ne (.callF .stack_faults (.cons (.loc 5) (.cons (.lst (.cons (.loc 10) .nil)) .nil))) (.lst .nil)) (.seq (.ret (.bool false)) .nil) .nil)
      (.seq (.setI (.attr (.loc 5) .stack) (.loc 10) (.sub (.lst (.cons (.tup (.cons (.gl .SRF) (.cons (.bin .add (.loc 10) (.int 1)) .nil))) (.cons (.tup (.cons (.gl .REF) (.cons (.len (.attr (.loc 5) .heap)) .nil))) (.cons (.tup (.cons (.gl .SRF) (.cons (.int (-1)) .nil))) (.cons (.tup (.cons (.gl .REF) (.cons (.int (-1)) .nil))) .nil))))) (.bin .mod (.callF .law_next (.cons (.loc 1) .nil)) (.int 4))))
      (.seq (.ret (.ofC (.cmp .eq (.callF .stack_faults (.cons (.loc 5) (.cons (.lst (.cons (.loc 10) .nil)) .nil))) (.lst (.cons (.loc 10) .nil))))) .nil)))
      [v0, some (.ref 0), some (.ref 1), some (.ref 6), some (iA many), some (.ref 7), v6, v7, v8, v9, some (iA z)] (mkL Y cd (M.wS (M.stack ++ [SV.c (1, (M.stack.length : Int))]))) T K R := by
    intro z hz
    subst hz
    refine w_new (Nat.le_of_ble_eq_true rfl) fun a ha => k_stack_fault (M := M.wS (M.stack ++ [SV.c (1, (M.stack.length : Int))])) HS (lv h) (upd_self ..) g0 (fun _ b T1 h1 hb => ?_) fun hp => absurd hp (by unfold sfB; intro z; rcases z with ⟨_, z⟩ | ⟨z, _⟩; rcases z with z | z; exact absurd z (Int.not_lt.mpr (Int.natCast_nonneg _)); exact absurd z (Int.lt_irrefl _); exact absurd z (by decide : ¬(1 : Int) = 0))
    refine w_new (by decide) fun b2 hb2 => ne_same (f := iA) (g := PyData.int) (l := []) (fun _ => rfl) li eqv_int (Ext.new hb2 _ _ hb) (upd_self ..) ?_
    refine w_new (Nat.le_of_ble_eq_true rfl) fun m hm => k_next (M := M.wS (M.stack ++ [SV.c (1, (M.stack.length : Int))])) HS (lv h) hr fun r v T2 hr2 hv h2 => ⟨by decide, ⟨_, h2 _ _ (upd_self ..), ?_⟩⟩
    have hk0 : 0 ≤ v.fmod (4 : Nat) := fm_nn hv
    have hk1 : (v.fmod (4 : Nat)).toNat < 4 := (Int.toNat_lt hk0).mpr (fm_lt (by decide))
    have bad : ∀ x ∈ ([(1, (M.stack.length : Int) + 1), (0, ((M.heap.map cA).length : Nat)), (1, -1), (0, -1)] : List Cell), sfB M M.stack.length x := by
      refine List.forall_mem_cons.mpr ⟨.inl ⟨rfl, .inr (Int.lt_succ _)⟩, List.forall_mem_cons.mpr ⟨.inr ⟨rfl, .inr (by rw [lenI]; exact Int.le_refl _)⟩, List.forall_mem_cons.mpr ⟨.inl ⟨rfl, .inl (by decide)⟩, List.forall_mem_cons.mpr ⟨.inr ⟨rfl, .inl (by decide)⟩, fun _ h => nomatch h⟩⟩⟩⟩
    have ex : ∃ x : Cell, ([(1, (M.stack.length : Int) + 1), (0, ((M.heap.map cA).length : Nat)), (1, -1), (0, -1)] : List Cell)[(v.fmod (4 : Nat)).toNat]? = some x ∧ sfB M M.stack.length x := ⟨_, List.getElem?_eq_getElem hk1, bad _ (List.getElem_mem hk1)⟩
    refine ex.elim fun x hx => r_ix (f := cA) (l := [(1, (M.stack.length : Int) + 1), (0, ((M.heap.map cA).length : Nat)), (1, -1), (0, -1)]) hk0 hx.1 ?_
    refine w_stSet (M := (M.wS (M.stack ++ [SV.c (1, (M.stack.length : Int))])).wR r) (k := (M.stack.length : Int)) (v := .c x) (Int.natCast_nonneg _) (Int.ofNat_lt.mpr (lt_of_get g0)) ?_
    refine w_new (Nat.le_of_ble_eq_true rfl) fun a3 ha3 => k_stack_fault (M := ((M.wS (M.stack ++ [SV.c (1, (M.stack.length : Int))])).wR r).wS ((M.stack ++ [SV.c (1, (M.stack.length : Int))]).set M.stack.length (.c x))) (x := x) HS (lv h) (upd_self ..) (List.getElem?_set_self (lt_of_get g0)) (fun hn => absurd hx.2 hn) fun _ b3 T3 h3 hb3 => ?_
    exact w_new (Nat.le_of_ble_eq_true rfl) fun b4 hb4 => eq_same (f := iA) (g := PyData.int) (l := [(M.stack.length : Int)]) (fun _ => rfl) li eqv_int (Ext.new hb4 _ _ hb3) (upd_self ..) (q _ _)
  exact step _ e1
theorem law_r {C : List (Nat × Nat)} {D : List Ch} (h : 10 ≤ c.n) (F : Fin0 cd M C D many T) (S : Sh M C D many) (h0 : ∃ x, M.heap[0]? = some x ∧ x.1 ≠ 6) (q : ∀ L T, R (.d (.bool true)) L T) :
    wpS c b_law_r [v0, some (.ref 0), some (.ref 1), some (.ref 6), some (iA many), some (.ref 7), v6, v7, v8, v9, none] (mkL YF cd M) T K R := by
  refine k_spoiled_rest HS (lv h) S F.I F.row (by rw [F.rt]; rfl) (Nat.le_trans F.B.x (by decide)) (Nat.le_trans F.B.trail (by decide)) h0 fun M' D' T' S' sp hE => ?_
  refine k_troubles HS (lv h) yOk S'.fn (hE _ _ F.hT) S'.e S'.cp S'.b S'.ch S'.cs S'.vis S'.lD S'.st S'.tr S'.rt S'.mx (Nat.le_trans S'.m3 (by decide)) fun a T2 rows ms h2 hT2 hok hm1 hm2 hiff => ?_
  have hne : rows ≠ [] := fun e => sp ms hm2 (hiff.mp e)
  refine w_new (by decide) fun e he => ⟨.list (rows.map PyData.str), .list [], .tmp (Ext.new he _ _ hT2) (dataAll_map (fun _ => rfl) rows), .tmp (upd_self ..) .nil, ?_, by decide, ?_⟩
  · exact sh_list (d := 1) (by decide) fun x hx => by (refine e1a2 (List.mem_map.mp hx) fun s hs x1_ => ?_; subst x1_); exact ⟨hok s hs, Nat.zero_le _⟩
  · cases rows with
    | nil => exact absurd rfl hne
    | cons s rows => exact q _ _
end
end Mine
end
section
open PySem.Calls
set_option tactic.hygienic false
namespace Mine
theorem sum_le {l : List Ch} {f : Ch → Nat} {k : Nat} (h : ∀ d ∈ l, f d ≤ k) : (l.map f).sum ≤ l.length * k := by
  induction l with
  | nil => exact Nat.zero_le _
  | cons d l ih =>
    rw [List.map_cons, List.sum_cons, List.length_cons, Nat.succ_mul, Nat.add_comm]
    exact Nat.add_le_add (ih fun d hd => h d (.tail _ hd)) (h d List.mem_cons_self)
theorem cg_of {st : List SV} : ∀ {D : List Ch} {a h t : Nat}, Chs st D → (∀ d ∈ D, d.b < a) → Mono D t h → CG D a h t
  | [], _, _, _, _, _, _ => trivial
  | d :: r, a, h, t, k, hb, m => ⟨⟨Int.not_le.mpr (Int.ofNat_lt.mpr (hb d List.mem_cons_self)), Int.not_lt.mpr (Int.ofNat_le.mpr m.2.1)⟩, Int.not_lt.mpr (Int.ofNat_le.mpr m.1), cg_of k.2 (fun q hq => by have := k.1.sep q hq; lia) m.2.2.2⟩
section
variable {cd : Addr} {M : St} {C : List (Nat × Nat)} {D : List Ch} {many : Nat} {T : Tm}
theorem Fin0.fn (F : Fin0 cd M C D many T) : fnOk M.heap := fun a f e => by
  rcases F.I.H.cell a _ e with ⟨_, h, _⟩ | ⟨h, _⟩
  · exact h.elim (fun h => .inr (.inl h)) fun h => .inr (.inr h)
  · exact absurd rfl (okc_tag h).1
theorem Fin0.sh (F : Fin0 cd M C D many T) : Sh M C D many := by
  have hv : vis C D ≤ 10000 := by
    have z : (D.map fun d => d.env.length + 1).sum ≤ D.length * 29 := sum_le fun d hd => Nat.succ_le_succ (F.B.env d hd)
    have z2 : D.length * 29 ≤ 28 * 29 := Nat.mul_le_mul_right _ F.B.lD
    have := F.B.lC
    unfold vis; lia
  exact ⟨F.I.e, F.I.cp, F.I.b, F.I.S.ch, F.I.S.cs, F.fn, by rw [F.rt]; decide, F.mx, F.m3, Nat.le_trans F.B.trail (by decide), Nat.le_trans F.B.stack (by decide), Nat.le_trans F.B.lD (by decide), Nat.le_trans F.B.lC (by decide), hv⟩
theorem Fin0.fine (F : Fin0 cd M C D many T) {ms : List Int} (hm : ∀ s ∈ ms, isSlot C D s) : Fine M D many ms := by
  have I := F.I
  refine ⟨⟨⟨⟨⟨cg_of I.S.cs (fun d hd => ?_) I.H.mono, I.hb, I.bb⟩, fun x hx z => ?_⟩, F.rts⟩, F.xs⟩, fun s hs x hx => ?_⟩
  · refine e1a1 (chs_env I.S.cs d hd) fun _ z => ?_; exact lt_of_get z.nn
  · rcases Int.lt_or_le x 0 with h | h
    · have := I.S.tr1 x hx h
      rcases z with z | z <;> lia
    · refine e1a2 (I.H.tr1 x hx h) fun c e _ => ?_
      have := lt_len h e
      rcases z with z | z <;> lia
  · rcases hm s hs with ⟨p, hp, j, hj, e⟩ | ⟨d, hd, j, hj, e⟩
    · refine e1a3 (I.V.slot p hp j hj) fun c h1 h2 _ => ?_
      have e1 : s.toNat = p.1 + 2 + j := by rw [e]; rfl
      rw [e1, h1] at hx; cases hx
      rcases h2 with rfl | h2
      · have := lt_of_get h1
        rw [ct1 rfl, e]
        show ¬((((p.1 + 2 + j : Nat) : Int) < 0 ∨ (M.stack.length : Int) ≤ ((p.1 + 2 + j : Nat) : Int)) ∨ (0 : Int) ≤ ((p.1 + 2 + j : Nat) : Int) ∧ ((p.1 + 2 + j : Nat) : Int) < ((p.1 + 2 + j : Nat) : Int))
        lia
      · exact okc_fine I.H h2
    · refine e1a3 (I.V.args d hd j hj) fun c h1 h2 _ => ?_
      have e1 : s.toNat = d.b + 1 + j := by rw [e]; rfl
      rw [e1, h1] at hx; cases hx
      exact okc_fine I.H h2
theorem Fin0.noBad (F : Fin0 cd M C D many T) : (List.range M.heap.length).filter (badB M.heap) = [] := by
  refine List.filter_eq_nil_iff.mpr fun a ha hb => ?_
  have hlt := List.mem_range.mp ha
  have hx : M.heap[a]? = some (cellAt M.heap a) := cellAt_get (Int.natCast_nonneg a) (Int.ofNat_lt.mpr hlt)
  have hb := badB_iff.mp hb
  rcases F.I.H.cell a _ hx with ⟨h1, h2, _⟩ | ⟨h1, h2, _⟩
  · rw [hf6 h1] at hb; rcases h2 with h2 | h2 <;> lia
  · have z := okc_fine (sl := M.stack.length) (slot := 0) F.I.H h1
    have t := okc_tag h1
    rcases hb with hb | hb | hb | hb | hb
    · exact t.2 hb
    · exact t.1 hb.1
    · exact hb.2.elim (fun hb2 => z ((ct0 hb.1).mpr (.inl hb2))) fun hb2 => absurd (h2 hb.1) (Int.not_le.mpr hb2)
    · exact z ((ct3 hb.1).mpr hb.2)
    · exact z ((ct2 hb.1).mpr hb.2)
end
section
variable {cd : Addr} {M : St} {C : List (Nat × Nat)} {D : List Ch} {c : Cx} {T : Tm} {K : Loc → LT} {R : AV → LT} {many : Nat} {v0 v6 v7 v8 v9 : Option AV} (HS : SortOk)
theorem Fin0.ext {T' : Tm} (F : Fin0 cd M C D many T) (h : Ext T T') : Fin0 cd M C D many T' := ⟨F.I, F.row, F.B, h _ _ F.hT, F.rt, F.rts, F.z0, F.m3, F.mx, F.xs⟩
theorem Fin0.wR {T' : Tm} {r : List Int} (F : Fin0 cd M C D many T) (hr : RowOk r) (h : Ext T T') : Fin0 cd (M.wR r) C D many T' :=
  ⟨F.I.row, hr, ⟨F.B.heap, F.B.stack, F.B.trail, F.B.lC, F.B.lD, F.B.env, F.B.x⟩, h _ _ F.hT, F.rt, F.rts, F.z0, F.m3, F.mx, F.xs⟩
include HS
theorem law_e {h1 h2 h3 hd : Addr} (h : 14 ≤ c.n) (F : Fin0 cd M C D many T) (e1 : T h1 = some (.list (M.heap.map cA))) (e2 : T h2 = some (.list (M.stack.map sA))) (e3 : T h3 = some (.list (M.trail.map iA))) (e4 : T hd = some (.list [.tmp h1, .tmp h2, .tmp h3])) (q : ∀ L T, R (.d (.bool true)) L T) :
    wpS c b_law_e [v0, some (.ref 0), some (.ref 1), some (.ref 6), some (iA many), some (.ref 7), some (.tmp hd), v7, v8, none, none] (mkL YF cd M) T K R := by
  have dh : ∀ {T : Tm}, DataAll (mkL YF cd M) T (M.heap.map cA) (M.heap.map cD) := dataAll_map (fun _ => rfl) _
  have ds : ∀ {T : Tm}, DataAll (mkL YF cd M) T (M.stack.map sA) (M.stack.map sD) := dataAll_map (fun v => by cases v <;> rfl) _
  have dt : ∀ {T : Tm}, DataAll (mkL YF cd M) T (M.trail.map iA) (M.trail.map PyData.int) := dataAll_map (fun _ => rfl) _
  have lay : SeqAt.shaped (.list [.list (M.heap.map cD), .list (M.stack.map sD), .list (M.trail.map PyData.int)]) = true := by
    have l1 : ∀ {α : Type} {f : α → PyData} {l : List α}, (∀ x, (f x).canLay0 = true ∧ (f x).depth ≤ 1) → (PyData.list (l.map f)).canLay0 = true ∧ (PyData.list (l.map f)).depth ≤ 2 := fun {α f l} hf => by
      have z := lay_list (xs := l.map f) (d := 1) fun x hx => by (refine e1a2 (List.mem_map.mp hx) fun a _ x5_ => ?_; subst x5_); exact hf a
      exact ⟨z.1, Nat.succ_le_succ z.2⟩
    exact sh_list (d := 2) (by decide) (List.forall_mem_cons.mpr ⟨l1 fun _ => ⟨rfl, Nat.le_refl _⟩, List.forall_mem_cons.mpr ⟨l1 sd_lay, List.forall_mem_cons.mpr ⟨l1 li, fun _ h => nomatch h⟩⟩⟩)
  have heq : PyData.eqv (.list [.list (M.heap.map cD), .list (M.stack.map sD), .list (M.trail.map PyData.int)]) (.list [.list (M.heap.map cD), .list (M.stack.map sD), .list (M.trail.map PyData.int)]) = true := by
    show (PyData.eqvAll _ _ && (PyData.eqvAll _ _ && (PyData.eqvAll _ _ && true))) = true
    rw [eqvAll_refl eqv_cD, eqvAll_refl eqv_sD, eqvAll_refl eqv_int]; rfl
  refine w_new (by decide) fun a ha => ?_
  have E0 := Ext.new (o := .list [.ref 8, .ref 9, .ref 10]) ha
  refine ⟨_, _, .tmp (E0 _ _ e4) (.cons (.tmp (E0 _ _ e1) dh) (.cons (.tmp (E0 _ _ e2) ds) (.cons (.tmp (E0 _ _ e3) dt) .nil))), .tmp (upd_self ..) (.cons (.ref rfl dh) (.cons (.ref rfl ds) (.cons (.ref rfl dt) .nil))), lay, lay, r_same heq ?_⟩
  have F0 := F.ext E0
  refine k_next HS (lv h) F0.row fun r v T1 hr hv h1' => ⟨by decide, ?_⟩
  have F1 := F0.wR hr h1'
  refine r_if (p := v.fmod 2 = 0) (fun _ => ?_) fun _ => law_r HS (lo h) F1 F1.sh F1.z0 q
  refine k_spoiled_cell (M := M.wR r) HS (lv h) hr (Nat.lt_of_lt_of_le (by decide) F.I.H.three) (Nat.lt_of_le_of_lt F.B.heap (by decide)) fun r2 T2 a2 x hr2 hE2 ha2 hx => ?_
  have ha2 : a2 < M.heap.length := ha2
  have hfn : fnOk (M.heap.set a2 x) := fun i f e => by
    by_cases hi : a2 = i
    · subst hi; rw [List.getElem?_set_self ha2] at e; cases e; exact hx rfl
    · rw [List.getElem?_set_ne hi] at e; exact F.fn i f e
  have hlen : (M.heap.set a2 x).length = M.heap.length := List.length_set
  have hlen2 : ((M.heap.set a2 x).map cA).length = M.heap.length := (List.length_map _).trans hlen
  have hh : M.heap.length ≤ 100 := Nat.le_trans F.B.heap (by decide)
  refine ⟨(rb (by show ((M.heap.set a2 x).map cA).length < _; lia)).1, (rb (by show ((M.heap.set a2 x).map cA).length < _; lia)).2, Nat.le_trans (by decide) h, fun acc hacc => ?_⟩
  refine cp_fil (n := ((M.heap.set a2 x).map cA).length) (B := badB (M.heap.set a2 x)) (upd_self ..) (by lia) (fun j T3 Q' hj hQ => ?_) fun T3 hE3 hT3 => ?_
  · have hy : (M.heap.set a2 x)[j]? = some (cellAt (M.heap.set a2 x) j) := cellAt_get (Int.natCast_nonneg j) (Int.ofNat_lt.mpr (by rw [← List.length_map (as := M.heap.set a2 x) cA]; exact hj))
    refine k_broken (M := ((M.wR r).wR r2).wH (M.heap.set a2 x)) HS (lw h) yOk hfn hy fun rb hrb => ?_
    have e : rb = badB (M.heap.set a2 x) j := Bool.eq_iff_iff.mpr (hrb.trans badB_iff.symm)
    rw [e]; exact hQ
  · refine k_heap_faults (M := ((M.wR r).wR r2).wH (M.heap.set a2 x)) HS (lv h) yOk hfn (by show (M.heap.set a2 x).length < _; lia) fun a3 T4 fl h4 hT4 hok hfl => ⟨_, hT4, Nat.le_trans (by decide) h, fun acc2 hacc2 => ?_⟩
    have hne : a3 ≠ acc2 := by rintro rfl; rw [hT4] at hacc2; cases hacc2
    have hne2 : acc ≠ acc2 := by rintro rfl; rw [h4 _ _ hT3] at hacc2; cases hacc2
    have hfll : fl.length < 1000000 := by
      have z : (fl.map (·.1)).length ≤ (M.heap.set a2 x).length := by rw [hfl]; exact Nat.le_trans (List.length_filter_le ..) (Nat.le_of_eq List.length_range)
      rw [List.length_map] at z; lia
    refine cp_fst (upd_self ..) (by rw [upd_ne _ _ hne]; exact hT4) hne hfll fun T5 hE5 hT5 => ?_
    have g1 : T5 acc2 = some (.list ((fl.map (·.1)).map fun n : Nat => iA n)) := by rw [hT5, List.map_map]; rfl
    have g2 : T5 acc = some (.list ((fl.map (·.1)).map fun n : Nat => iA n)) := by
      rw [hE5 acc _ hne2 (by rw [upd_ne _ _ hne2]; exact h4 _ _ hT3), hfl, List.length_map]; rfl
    refine (show wpCmp .ne (.tmp acc2) (.tmp acc) (mkL YF cd (((M.wR r).wR r2).wH (M.heap.set a2 x))) T5 (fun t => wpIf t _ _) from ?_)
    refine ne_same (f := fun n : Nat => iA n) (g := fun n : Nat => PyData.int n) (fun _ => rfl) (fun n => li n) (fun n => eqv_int n) g1 g2 ?_
    exact law_s (M := ((M.wR r).wR r2).wH (M.heap.set a2 x)) HS (lo h) hr2 (Nat.lt_of_le_of_lt F.B.stack (by decide)) q
end
end Mine
end
section
open PySem.Calls
set_option tactic.hygienic false
namespace Mine
theorem eqv_any {f : Nat × Nat → Nat} {x : Nat} : ∀ C : List (Nat × Nat), (C.map fun p => PyData.int (f p)).any (fun z => PyData.eqv z (.int x)) = decide (∃ p ∈ C, f p = x)
  | [] => (decide_eq_false fun ⟨_, h, _⟩ => nomatch h).symm
  | p :: C => by
    rw [List.map_cons, List.any_cons, eqv_any C]
    have e : PyData.eqv (.int (f p)) (.int x) = decide (f p = x) := by
      by_cases h : f p = x
      · rw [h, eqv_int, decide_eq_true rfl]
      · rw [decide_eq_false h]; exact Bool.eq_false_iff.mpr fun z => h (Int.ofNat.inj (by simpa [PyData.eqv] using z))
    rw [e, ← Bool.decide_or]
    exact decide_eq_decide.mpr ⟨fun z => z.elim (fun h => ⟨p, List.mem_cons_self, h⟩) fun ⟨q, hq, h⟩ => ⟨q, .tail _ hq, h⟩, fun ⟨q, hq, h⟩ => (List.mem_cons.mp hq).elim (fun e => .inl (e ▸ h)) fun hq => .inr ⟨q, hq, h⟩⟩
section
variable {cd : Addr} {M : St} {C : List (Nat × Nat)} {D : List Ch} {c : Cx} {T : Tm} {K : Loc → LT} {R : AV → LT} {many : Nat} {v0 v6 v7 v8 v9 : Option AV} (HS : SortOk)
include HS
theorem law_i {h1 h2 h3 hd ca : Addr} (h : 14 ≤ c.n) (F : Fin0 cd M C D many T) (e1 : T h1 = some (.list (M.heap.map cA))) (e2 : T h2 = some (.list (M.stack.map sA))) (e3 : T h3 = some (.list (M.trail.map iA))) (e4 : T hd = some (.list [.tmp h1, .tmp h2, .tmp h3]))
    (e5 : T ca = some (.list (C.map fun p => iA p.1))) (q : ∀ L T, R (.d (.bool true)) L T) :
    wpS c b_law_i [v0, some (.ref 0), some (.ref 1), some (.ref 6), some (iA many), some (.ref 7), some (.tmp hd), some (.tmp ca), v8, none, none] (mkL YF cd M) T K R := by
  have hst : (M.stack.map sA).length + 1 < 1000000 := by rw [List.length_map]; have := F.B.stack; lia
  refine ⟨(rb hst).1, (rb hst).2, ?_⟩
  refine rng_c (n := (M.stack.map sA).length + 1) (σ := Option AV) (fun s => [v0, some (.ref 0), some (.ref 1), some (.ref 6), some (iA many), some (.ref 7), some (.tmp hd), some (.tmp ca), s, none, none]) (fun _ => mkL YF cd M) (fun _ _ => True) v8 rfl rfl trivial (fun j s P hj _ kk => ?_) fun s _ => law_e HS h F e1 e2 e3 e4 q
  have z : ((0 : Int) + (j : Int)) = (j : Int) := Int.zero_add _
  rw [z]
  refine k_in_chain HS (lv (a := 1) h) F.I.e F.I.S.ch ?_
  refine ⟨_, e5, _, dataAll_map (g := fun p : Nat × Nat => PyData.int p.1) (fun _ => rfl) C, sh_map (fun _ => li _) C, rfl, ?_⟩
  rw [eqv_any]
  have k := kk (some (iA j)) trivial
  cases decide (∃ p ∈ C, p.1 = j) <;> exact k
theorem k_chain0e {Y : Sy} {Q : AV → LT} {e : Int} (he : e = eOf C) (h : 1 ≤ c.n) (hC : Chain M.stack C) (hl : C.length < 100000) (q : ∀ a T', Ext T T' → T a = none → T' a = some (.list (C.map fun p => iA p.1)) → Q (.tmp a) (mkL Y cd M) T') :
    CallOk c (.ref 674) [.ref 9, iA e, iA 0] (mkL Y cd M) T Q := by rw [he]; exact k_chain0 HS h hC hl q
theorem k_chain3e {Y : Sy} {Q : AV → LT} {e : Int} (he : e = bOf D) (h : 1 ≤ c.n) (hD : Chs M.stack D) (hl : D.length < 100000) (q : ∀ a T', Ext T T' → T a = none → T' a = some (.list (D.map fun d => iA d.b)) → Q (.tmp a) (mkL Y cd M) T') :
    CallOk c (.ref 674) [.ref 9, iA e, iA 3] (mkL Y cd M) T Q := by rw [he]; exact k_chain3 HS h hD hl q
theorem law_c {h1 h2 h3 hd : Addr} (h : 14 ≤ c.n) (F : Fin0 cd M C D many T) (e1 : T h1 = some (.list (M.heap.map cA))) (e2 : T h2 = some (.list (M.stack.map sA))) (e3 : T h3 = some (.list (M.trail.map iA))) (e4 : T hd = some (.list [.tmp h1, .tmp h2, .tmp h3])) (q : ∀ L T, R (.d (.bool true)) L T) :
    wpS c b_law_c [v0, some (.ref 0), some (.ref 1), some (.ref 6), some (iA many), some (.ref 7), some (.tmp hd), none, none, none, none] (mkL YF cd M) T K R := by
  have lC : C.length < 100000 := Nat.lt_of_le_of_lt F.B.lC (by decide)
  have lD : D.length < 100000 := Nat.lt_of_le_of_lt F.B.lD (by decide)
  have h1' : 1 ≤ c.dn.n := lv h
  refine k_chain0e HS F.I.e h1' F.I.S.ch lC fun ca T1 E1 _ hc => ?_
  refine k_choices HS h1' F.I.b F.I.S.cs lD fun a2 T2 E2 _ ha2 => ?_
  refine k_chain3e HS F.I.b h1' F.I.S.cs lD fun a3 T3 E3 _ ha3 => ?_
  refine ne_same (f := fun d : Ch => iA d.b) (g := fun d : Ch => PyData.int d.b) (fun _ => rfl) (fun _ => li _) (fun _ => eqv_int _) (E3 _ _ ha2) ha3 ?_
  refine k_environments HS h1' F.I.e F.I.S.ch lC fun a4 T4 E4 _ ha4 => ?_
  have E : Ext T T4 := ((E1.trans E2).trans E3).trans E4
  have hc4 : T4 ca = some (.list (C.map fun p => iA p.1)) := E4 _ _ (E3 _ _ (E2 _ _ hc))
  refine (show wpCmp .ne (.tmp a4) (.tmp ca) (mkL YF cd M) T4 (fun t => wpIf t _ _) from ?_)
  refine ne_same (f := fun p : Nat × Nat => iA p.1) (g := fun p : Nat × Nat => PyData.int p.1) (fun _ => rfl) (fun _ => li _) (fun _ => eqv_int _) ha4 hc4 ?_
  exact law_i HS h (F.ext E) (E _ _ e1) (E _ _ e2) (E _ _ e3) (E _ _ e4) hc4 q
theorem law_h (h : 14 ≤ c.n) (F : Fin0 cd M C D many T) (q : ∀ L T, R (.d (.bool true)) L T) :
    wpS c b_law_h [v0, some (.ref 0), some (.ref 1), some (.ref 6), some (iA many), some (.ref 7), none, none, none, none, none] (mkL YF cd M) T K R := by
  have I := F.I
  have S := F.sh
  have lh : (M.heap.map cA).length < 1000000 := by rw [List.length_map]; have := F.B.heap; lia
  have ls : (M.stack.map sA).length < 1000000 := by rw [List.length_map]; have := F.B.stack; lia
  have lt : (M.trail.map iA).length < 1000000 := by rw [List.length_map]; have := F.B.trail; lia
  refine w_new lh fun h1 n1 => w_new ls fun h2 n2 => w_new lt fun h3 n3 => w_new (Nat.le_of_ble_eq_true rfl) fun hd n4 => ?_
  have X1 := Ext.new (o := .list (M.heap.map cA)) n1
  have X2 := Ext.new (o := .list (M.stack.map sA)) n2
  have X3 := Ext.new (o := .list (M.trail.map iA)) n3
  have X4 := Ext.new (o := .list [.tmp h1, .tmp h2, .tmp h3]) n4
  have X := ((X1.trans X2).trans X3).trans X4
  refine k_heap_faults HS (lv h) yOk S.fn (Nat.lt_of_le_of_lt F.B.heap (by decide)) fun a T1 fl E1 ha _ hfl => ?_
  obtain rfl : fl = [] := List.map_eq_nil_iff.mp (hfl.trans F.noBad)
  refine w_new (by decide) fun b hb => ne_same (f := iA) (g := PyData.int) (l := []) (fun _ => rfl) li eqv_int (Ext.new hb _ _ ha) (upd_self ..) ?_
  have E2 := E1.trans (Ext.new (o := .list []) hb)
  refine k_troubles HS (lv h) yOk S.fn (E2 _ _ (X _ _ F.hT)) S.e S.cp S.b S.ch S.cs S.vis S.lD S.st S.tr S.rt S.mx (Nat.le_trans S.m3 (by decide)) fun a2 T2 rows ms E3 hT2 hok hm1 hm2 hiff => ?_
  obtain rfl : rows = [] := hiff.mpr (F.fine hm1)
  refine w_new (by decide) fun b2 hb2 => ne_same (f := iA) (g := PyData.int) (l := []) (fun _ => rfl) li eqv_int (Ext.new hb2 _ _ hT2) (upd_self ..) ?_
  have E4 := E3.trans (Ext.new (o := .list []) hb2)
  refine k_state_faults HS (lv h) I.e I.b I.S.ch I.S.cs I.H.mono (fun d hd => ?_) S.lD (Nat.lt_of_le_of_lt F.B.lC (by decide)) S.tr (Nat.lt_of_le_of_lt F.B.heap (by decide)) ?_ fun a3 T3 E5 hT3 => ?_
  · exact (chs_env I.S.cs d hd).elim fun r z => lt_of_get z.b0
  · intro x hx i y hi hy hp hge
    exact (I.H.cell i y hy).elim (fun z => hp.elim (fun e => by rw [e] at z; exact absurd z.1 (by decide)) fun e => e.elim (fun e => by rw [e] at z; exact absurd z.1 (by decide)) fun e => by rw [e] at z; exact absurd z.1 (by decide)) fun z => z.2.2 x hx hi hp hge
  refine w_new (by decide) fun b3 hb3 => ?_
  refine (show wpCmp .ne (.tmp a3) (.tmp b3) (mkL YF cd M) (upd T3 b3 (.list [])) (fun t => wpIf t _ _) from ?_)
  refine ne_same (f := iA) (g := PyData.int) (l := []) (fun _ => rfl) li eqv_int (Ext.new hb3 _ _ hT3) (upd_self ..) ?_
  have E6 := (E2.trans E4).trans (E5.trans (Ext.new (o := .list []) hb3))
  have Y3 : T h1 = none := n1
  exact law_c HS h (F.ext (X.trans E6)) (E6 _ _ (X4 _ _ (X3 _ _ (X2 _ _ (upd_self ..))))) (E6 _ _ (X4 _ _ (X3 _ _ (upd_self ..)))) (E6 _ _ (X4 _ _ (upd_self ..))) (E6 _ _ (upd_self ..)) q
end
end Mine
end
section
open PySem.Calls
namespace Mine
theorem k_law (HS : SortOk) {c : Cx} {b : Addr} {ws : List Value} {ns : List Int} {T : Tm} (h : 40 ≤ c.n) (hl : c.hR.IsList b (List.toArray ws)) (hi : IntsAre ws ns) (hn : ns.length ≤ 63) : CallOk c (.ref 700) [.glob (.ref b)] [] T fun v _ _ => v = .d (.bool true) := by
  refine c_law HS (lo h) (k_row HS (lw h) hl hi hn fun r T1 hr => ⟨lv h, k_symbols HS (lw h) ⟨rfl, k_state HS (lw h) hr fun cd M C D many T2 F => ?_⟩⟩)
  exact law_h HS (lv h) F fun _ _ => rfl
end Mine
end
section
open PySem.Calls
set_option tactic.hygienic false
namespace Mine
theorem own0 {b : Addr} (h : Own [] (fun _ => none) b) : False := h.elim (fun ⟨_, _, _, e, _⟩ => nomatch e) fun e => Bool.noConfusion e
theorem main_of (HS : SortOk) : MainSt := by
  intro w s b vs ns S hg hL hI hn
  have three : ∃ o, s.heap.get? 3 = some o := S.top.elim fun _ x => x.elim fun _ x => x.elim fun _ x => x.g.elim fun o x => x.elim fun _ x => x.elim fun _ x => ⟨o, x.1⟩
  have G : Gd w s.heap [] [] (fun _ => none) s := ⟨⟨rfl, (fun _ _ _ _ e => nomatch e), (fun _ _ e => nomatch e), (fun _ _ _ _ _ _ e => nomatch e), fun _ _ _ e => nomatch e⟩, fun _ _ e => e, fun _ o => (own0 o).elim, three, hg⟩
  have R : Room 40 callerA := ⟨rfl, by decide, by decide⟩
  have k := (k_law HS (c := ⟨w, s.heap, 40⟩) (T := fun _ => none) (Nat.le_refl 40) hL hI hn).ok callerA s [] [.ref b] R S G (.cons .glob .nil)
  refine wpAny_call (codeAny_mono k fun r s' hr => ?_)
  cases r with
  | error e => exact hr.elim
  | ok f => cases f with
    | ret v =>
      refine e4a4 hr fun ρ' av L' T' G' E hv x1_ => ?_; subst x1_
      refine ⟨?_, fun a o e => E.keep a o e own0 id, E.os, G'.gens⟩
      cases hv with
      | d h => cases h; rfl
    | _ => exact hr.elim
theorem all_of (HS : SortOk) : PySem.Challenge.rw_no0193_01.Holds := all_holds (main_of HS)
end Mine
end
section
set_option tactic.hygienic false
namespace Srt
abbrev Pn := Array (Nat × Nat × Nat)
structure SB (a₀ : Array Keyed) (p : Pn) (st : SortSt) : Prop where
  perm : (arrOf st).Perm a₀
  kind : kindOf st = oneType'
  failed : failedOf st = none
  pend : pendingOf st = p
noncomputable def gallop' : Bool → Keyed → Array Keyed → Nat → Nat → Nat → StateT SortSt Sem (Option Nat) := sortPriv% PySem.Builtin.gallop
noncomputable def bey (left : Bool) (key : Keyed) (arr : Array Keyed) (base i : Nat) : StateT SortSt Sem (Option Bool) := do
    let x ← elem' arr (base + i)
    if left then lt' x key else return (← lt' key x).map (!·)
abbrev N3 := Option (Option Nat) × Nat × Nat
section
variable (left : Bool) (key : Keyed) (arr : Array Keyed) (base n hint : Nat)
noncomputable def gq (f : Bool → Bool) (i : Nat) (t : Nat × Nat) : StateT SortSt Sem (ForInStep N3) := do
  let x ← bey left key arr base i
  match x with
  | some m => if f m = true then pure (ForInStep.done (none, t)) else pure (ForInStep.yield (none, t.2, 2 * t.2 + 1))
  | _ => pure (ForInStep.done (some none, t))
noncomputable def gs (t : Nat × Nat) : StateT SortSt Sem (ForInStep N3) :=
  if t.1 ≥ t.2 then pure (ForInStep.done (none, t)) else do
    let x ← bey left key arr base (t.1 + (t.2 - t.1) / 2)
    match x with
    | some m => if m = true then pure (ForInStep.yield (none, t.1 + (t.2 - t.1) / 2 + 1, t.2)) else pure (ForInStep.yield (none, t.1, t.1 + (t.2 - t.1) / 2))
    | _ => pure (ForInStep.done (some none, t))
noncomputable def gt (lo hi : Nat) : StateT SortSt Sem (Option Nat) := do
  let t ← forIn [:n] ((none, lo, hi) : N3) fun _ t => gs left key arr base t.2
  match t.1 with
  | some r => pure r
  | none => pure (some t.2.2)
theorem gallop'_eq : gallop' left key arr base n hint = (do
  let x ← bey left key arr base hint
  match x with
  | some right =>
    if right = true then do
      let t ← forIn [:n] ((none, 0, 1) : N3) fun _ t => if t.2.2 ≥ n - hint then pure (ForInStep.done (none, t.2)) else gq left key arr base (!·) (hint + t.2.2) t.2
      match t.1 with
      | some r => pure r
      | none => gt left key arr base n (hint + t.2.1 + 1) (hint + min t.2.2 (n - hint))
    else do
      let t ← forIn [:n] ((none, 0, 1) : N3) fun _ t => if t.2.2 ≥ hint + 1 then pure (ForInStep.done (none, t.2)) else gq left key arr base (·) (hint - t.2.2) t.2
      match t.1 with
      | some r => pure r
      | none => gt left key arr base n (hint + 1 - min t.2.2 (hint + 1)) (hint - t.2.1)
  | _ => pure none) := by kernel_rfl!
end
section
variable (lo nrem : Nat)
noncomputable def ca (n : Nat) : StateT SortSt Sem (ForInStep (Option (Option Nat) × Nat)) := do
  let x ← ltAt' (lo + n) (lo + n - 1)
  match x with
  | some smaller => if smaller = true then pure (ForInStep.done (none, n)) else pure (ForInStep.yield (none, n + 1))
  | _ => pure (ForInStep.done (some none, n))
noncomputable def ct (n : Nat) : StateT SortSt Sem (Option Nat) := do
  reverseSlice' lo (lo + n)
  let t ← forIn [n:nrem] ((none, n) : Option (Option Nat) × Nat) fun _ t => ca lo t.2
  match t.1 with
  | some r => pure r
  | none => pure (some t.2)
noncomputable def cb (t : Nat × Nat) : StateT SortSt Sem (ForInStep N3) := do
  let x ← ltAt' (lo + t.1) (lo + t.1 - 1)
  match x with
  | some smaller =>
    if smaller = true then
      if t.2 > 0 then do
        reverseSlice' (lo + t.1 - (t.2 + 1)) (lo + t.1)
        pure (ForInStep.yield (none, t.1 + 1, 0))
      else pure (ForInStep.yield (none, t.1 + 1, 0))
    else do
      let x ← ltAt' (lo + t.1 - 1) (lo + t.1)
      match x with
      | some larger => if larger = true then pure (ForInStep.done (none, t)) else pure (ForInStep.yield (none, t.1 + 1, t.2 + 1))
      | _ => pure (ForInStep.done (some none, t))
  | _ => pure (ForInStep.done (some none, t))
noncomputable def cd (n : Nat) : StateT SortSt Sem (Option Nat) := do
  liftM (rule "list.sort.descending-run")
  let t ← forIn [n + 1:nrem] ((none, n + 1, 0) : N3) fun _ t => cb lo t.2
  match t.1 with
  | some r => pure r
  | none =>
    if t.2.2 > 0 then do
      reverseSlice' (lo + t.2.1 - (t.2.2 + 1)) (lo + t.2.1)
      ct lo nrem t.2.1
    else ct lo nrem t.2.1
theorem count_eq : countRun' lo nrem = (do
  let t ← forIn [1:nrem] ((none, 1) : Option (Option Nat) × Nat) fun _ t => ca lo t.2
  match t.1 with
  | some r => pure r
  | none =>
    if (t.2 == nrem) = true then pure (some t.2)
    else if t.2 > 1 then do
      let x ← ltAt' lo (lo + t.2 - 1)
      match x with
      | some rose => if rose = true then pure (some t.2) else do
          reverseSlice' lo (lo + t.2)
          cd lo nrem t.2
      | _ => pure none
    else cd lo nrem t.2) := by kernel_rfl!
end
section
variable {prog : Program} {w : World} {A : Around} {E : Value → Shared → Prop} {s : Shared} {a₀ : Array Keyed} {p : Pn} {st : SortSt}
theorem SB.ar (h : SB a₀ p st) {xs : Array Keyed} (hp : xs.Perm (arrOf st)) : SB a₀ p (setArr st xs) := ⟨hp.trans h.perm, h.kind, h.failed, h.pend⟩
theorem p_elem {xs : Array Keyed} {i : Nat} {Q : Keyed → SortSt → Prop} (h : i < xs.size) (q : ∀ x, xs[i]? = some x → Q x st) : wpS (model prog w) A E s (elem' xs i) Q st := by
  have e : xs[i]? = some xs[i] := getElem?_pos xs i h
  rw [elem'_eq, e]
  exact wpS_pure (q _ e)
theorem p_lt {x y : Keyed} {Q : Option Bool → SortSt → Prop} (hk : kindOf st = oneType') (hx : ∃ n t, x.1 = .int n t) (hy : ∃ n t, y.1 = .int n t) (q : ∀ b, Q (some b) st) : wpS (model prog w) A E s (lt' x y) Q st := by
  obtain ⟨a, t, hx⟩ := hx
  obtain ⟨b, u, hy⟩ := hy
  rw [lt'_eq]
  refine wpS_bind (wpS_get ?_)
  rw [hk, keyLt'_oneType, hx, hy]
  exact wpS_bind (wpS_lift (wpAny_attempt (oneLt_int ⟨rfl, wpS_pure (q _)⟩)))
theorem ik {xs : Array Keyed} (h : IntKeys xs) {i : Nat} {x : Keyed} (e : xs[i]? = some x) : ∃ n t, x.1 = .int n t := h x (Array.mem_toList_iff.mpr (Array.mem_of_getElem? e))
theorem p_bey {left : Bool} {key : Keyed} {arr : Array Keyed} {base i : Nat} {Q : Option Bool → SortSt → Prop} (hk : kindOf st = oneType') (hx : ∃ n t, key.1 = .int n t) (hi : IntKeys arr) (h : base + i < arr.size) (q : ∀ b, Q (some b) st) : wpS (model prog w) A E s (bey left key arr base i) Q st := by
  unfold bey
  refine wpS_bind (p_elem h fun x e => ?_)
  cases left
  · exact wpS_bind (p_lt hk hx (ik hi e) fun b => wpS_pure (q _))
  · exact p_lt hk (ik hi e) hx q
noncomputable abbrev Rg {γ β : Type} (D Y : β → SortSt → Prop) (Rt : γ → SortSt → Prop) (r : ForInStep (Option γ × β)) (st : SortSt) : Prop := match r with
  | .done (none, c) => D c st | .done (some g, _) => Rt g st | .yield (none, c) => Y c st | .yield (some _, _) => False
theorem p_rng {γ β : Type} {a b : Nat} {f : Nat → Option γ × β → StateT SortSt Sem (ForInStep (Option γ × β))} (hab : a ≤ b) (P : Nat → β → SortSt → Prop) (D : β → SortSt → Prop) (Rt : γ → SortSt → Prop) {Q : Option γ × β → SortSt → Prop} {c0 : β}
    (step : ∀ i c st', i < b → P i c st' → wpS (model prog w) A E s (f i (none, c)) (Rg D (P (i + 1)) Rt) st')
    (h : P a c0 st) (fin : ∀ c st', P b c st' → D c st') (q1 : ∀ c st', D c st' → Q (none, c) st') (q2 : ∀ g c st', Rt g st' → Q (some g, c) st') : wpS (model prog w) A E s (forIn [a:b] ((none, c0) : Option γ × β) f) Q st := by
  refine wpS_forRange (I := fun i c st' => match c with | (none, c) => P i c st' | (some _, _) => False) (fun i c st' _ hib hI => ?_) (fun c st' hI => ?_) h
  · obtain ⟨o, c⟩ := c
    cases o with
    | some _ => exact hI.elim
    | none =>
      refine wpS_mono (step i c st' hib hI) fun r st'' hr => ?_
      cases r with
      | done c' => obtain ⟨o, c'⟩ := c'; cases o with
        | none => exact q1 _ _ hr
        | some g => exact q2 _ _ _ hr
      | yield c' => obtain ⟨o, c'⟩ := c'; cases o with
        | none => exact hr
        | some g => exact hr.elim
  · rw [Nat.max_eq_right hab] at hI
    obtain ⟨o, c⟩ := c
    cases o with
    | some _ => exact hI.elim
    | none => exact q1 _ _ (fin _ _ hI)
section
variable {left : Bool} {key : Keyed} {arr : Array Keyed} {base n hint : Nat} (hk : kindOf st = oneType') (hx : ∃ n t, key.1 = .int n t) (hi : IntKeys arr) (hb : base + n ≤ arr.size)
include hk hx hi hb
theorem p_gq {f : Bool → Bool} {i : Nat} {t : Nat × Nat} (h : i < n) : wpS (model prog w) A E s (gq left key arr base f i t) (Rg (fun _ st' => st' = st) (fun _ st' => st' = st) fun _ _ => False) st := by
  unfold gq
  refine wpS_bind (p_bey hk hx hi (Nat.lt_of_lt_of_le (Nat.add_lt_add_left h base) hb) fun m => ?_)
  dsimp only
  by_cases hf : f m = true
  · rw [if_pos hf]; exact wpS_pure rfl
  · rw [if_neg hf]; exact wpS_pure rfl
theorem p_gt {lo hi' : Nat} {Q : Option Nat → SortSt → Prop} (h : hi' ≤ n) (q : ∀ k, k ≤ n → Q (some k) st) : wpS (model prog w) A E s (gt left key arr base n lo hi') Q st := by
  unfold gt
  refine wpS_bind (p_rng (Nat.zero_le n) (fun _ c st' => st' = st ∧ c.2 ≤ n) (fun c st' => st' = st ∧ c.2 ≤ n) (fun _ _ => False) (fun i c st' _ hI => ?_) ⟨rfl, h⟩ (fun _ _ h => h) (fun c st' hI => ?_) fun _ _ _ h => h.elim)
  · rw [hI.1]
    unfold gs
    by_cases hge : c.1 ≥ c.2
    · rw [if_pos hge]; exact wpS_pure ⟨rfl, hI.2⟩
    · rw [if_neg hge]
      have hm : c.1 + (c.2 - c.1) / 2 < n := by have := hI.2; lia
      refine wpS_bind (p_bey hk hx hi (Nat.lt_of_lt_of_le (Nat.add_lt_add_left hm base) hb) fun m => ?_)
      cases m
      · exact wpS_pure ⟨rfl, Nat.le_of_lt hm⟩
      · exact wpS_pure ⟨rfl, hI.2⟩
  · rw [hI.1]
    exact wpS_pure (q _ hI.2)
theorem p_gallop {Q : Option Nat → SortSt → Prop} (hh : hint < n) (q : ∀ k, k ≤ n → Q (some k) st) : wpS (model prog w) A E s (gallop' left key arr base n hint) Q st := by
  rw [gallop'_eq]
  refine wpS_bind (p_bey hk hx hi (Nat.lt_of_lt_of_le (Nat.add_lt_add_left hh base) hb) fun m => ?_)
  cases m
  · dsimp only
    rw [if_neg Bool.false_ne_true]
    refine wpS_bind (p_rng (Nat.zero_le n) (fun _ c st' => st' = st) (fun c st' => st' = st) (fun _ _ => False) (fun i c st' _ hI => ?_) rfl (fun _ _ h => h) (fun c st' hI => ?_) fun _ _ _ h => h.elim)
    · rw [hI]
      dsimp only
      by_cases hge : c.2 ≥ hint + 1
      · rw [if_pos hge]; exact wpS_pure rfl
      · rw [if_neg hge]; exact p_gq hk hx hi hb (Nat.lt_of_le_of_lt (Nat.sub_le ..) hh)
    · rw [hI]; exact p_gt hk hx hi hb (Nat.le_trans (Nat.sub_le ..) (Nat.le_of_lt hh)) q
  · dsimp only
    rw [if_pos rfl]
    refine wpS_bind (p_rng (Nat.zero_le n) (fun _ c st' => st' = st) (fun c st' => st' = st) (fun _ _ => False) (fun i c st' _ hI => ?_) rfl (fun _ _ h => h) (fun c st' hI => ?_) fun _ _ _ h => h.elim)
    · rw [hI]
      dsimp only
      by_cases hge : c.2 ≥ n - hint
      · rw [if_pos hge]; exact wpS_pure rfl
      · rw [if_neg hge]; exact p_gq hk hx hi hb (by lia)
    · rw [hI]; exact p_gt hk hx hi hb (by lia) q
end
theorem p_ltAt {i j : Nat} {Q : Option Bool → SortSt → Prop} (hB : SB a₀ p st) (h0 : IntKeys a₀) (hi : i < a₀.size) (hj : j < a₀.size) (q : ∀ b, Q (some b) st) : wpS (model prog w) A E s (ltAt' i j) Q st := by
  have hz : (arrOf st).size = a₀.size := hB.perm.size_eq
  have h1 : IntKeys (arrOf st) := fun x hx => h0 x ((Array.perm_iff_toList_perm.mp hB.perm).mem_iff.mp hx)
  rw [ltAt'_eq]
  refine wpS_bind (wpS_get ?_)
  exact wpS_bind (p_elem (hz ▸ hi) fun x ex => wpS_bind (p_elem (hz ▸ hj) fun y ey => p_lt hB.kind (ik h1 ex) (ik h1 ey) q))
theorem p_rev {i j : Nat} {Q : Unit → SortSt → Prop} (hB : SB a₀ p st) (q : ∀ st', SB a₀ p st' → Q () st') : wpS (model prog w) A E s (reverseSlice' i j) Q st := by
  rw [reverseSlice'_eq]; exact wpS_modify (q _ (hB.ar (mirror_perm _ _ _ _)))
theorem p_binary {lo n ok : Nat} {Q : Bool → SortSt → Prop} (h0 : IntKeys a₀) (hn : lo + n ≤ a₀.size) (hB : SB a₀ p st) (hok : max ok 1 ≤ n) (q : ∀ st', SB a₀ p st' → Q true st') : wpS (model prog w) A E s (binarySort' lo n ok) Q st := by
  rw [binarySort'_eq]
  refine wpS_bind (p_rng hok (fun _ _ st' => SB a₀ p st') (fun _ st' => SB a₀ p st') (fun _ _ => False) (fun k _ st1 hk hB1 => ?_) hB (fun _ _ h => h) (fun _ st' hB' => wpS_pure (q _ hB')) fun _ _ _ h => h.elim)
  refine wpS_bind (p_rng (Nat.zero_le k) (fun _ c st' => st' = st1 ∧ c.2 ≤ k) (fun _ st' => st' = st1) (fun _ _ => False) (fun i c st' _ hI => ?_) ⟨rfl, Nat.le_refl k⟩ (fun _ _ h => h.1) (fun c st' hI => ?_) fun _ _ _ h => h.elim)
  · obtain ⟨rfl, hI⟩ := hI
    dsimp only
    by_cases hge : c.1 ≥ c.2
    · rw [if_pos hge]; exact wpS_pure rfl
    · rw [if_neg hge]
      refine wpS_bind (p_ltAt hB1 h0 (by lia) (by lia) fun b => ?_)
      cases b
      · exact wpS_pure ⟨rfl, hI⟩
      · exact wpS_pure ⟨rfl, by show (c.1 + c.2) / 2 ≤ k; lia⟩
  · subst hI
    dsimp only
    rw [moveDown'_eq]
    exact wpS_bind (wpS_modify (wpS_pure (hB1.ar (bubble_perm _ _ _))))
section
variable {lo nrem : Nat} (h0 : IntKeys a₀) (hn : lo + nrem ≤ a₀.size)
include h0 hn
theorem p_asc {a : Nat} {Q : Option (Option Nat) × Nat → SortSt → Prop} (h1 : 1 ≤ a) (ha : a ≤ nrem) (hB : SB a₀ p st) (q : ∀ n, 1 ≤ n → n ≤ nrem → Q (none, n) st) :
    wpS (model prog w) A E s (forIn [a:nrem] ((none, a) : Option (Option Nat) × Nat) fun _ t => ca lo t.2) Q st := by
  refine p_rng ha (fun i n st' => st' = st ∧ n = i ∧ 1 ≤ i) (fun n st' => st' = st ∧ 1 ≤ n ∧ n ≤ nrem) (fun _ _ => False) (fun i n st' hi hI => ?_) ⟨rfl, rfl, h1⟩ (fun n st' h => ⟨h.1, h.2.1 ▸ h.2.2, Nat.le_of_eq h.2.1⟩) (fun n st' h => h.1 ▸ q n h.2.1 h.2.2) fun _ _ _ h => h.elim
  obtain ⟨rfl, rfl, h1⟩ := hI
  unfold ca
  refine wpS_bind (p_ltAt hB h0 (by lia) (by lia) fun b => ?_)
  cases b
  · exact wpS_pure ⟨rfl, rfl, Nat.le_succ_of_le h1⟩
  · exact wpS_pure ⟨rfl, h1, Nat.le_of_lt hi⟩
variable {Q : Option Nat → SortSt → Prop} (q : ∀ m st', SB a₀ p st' → 1 ≤ m → m ≤ nrem → Q (some m) st')
include q
theorem p_ct {n : Nat} (hB : SB a₀ p st) (h1 : 1 ≤ n) (h2 : n ≤ nrem) : wpS (model prog w) A E s (ct lo nrem n) Q st := by
  unfold ct
  exact wpS_bind (p_rev hB fun st2 hB2 => wpS_bind (p_asc h0 hn h1 h2 hB2 fun m a1 a2 => wpS_pure (q m st2 hB2 a1 a2)))
theorem p_cd {n : Nat} (hB : SB a₀ p st) (h1 : 1 ≤ n) (h2 : n + 1 ≤ nrem) : wpS (model prog w) A E s (cd lo nrem n) Q st := by
  unfold cd
  refine wpS_bind (wpS_lift (wpAny_rule ⟨rfl, ?_⟩))
  refine wpS_bind (p_rng h2 (fun i c st' => SB a₀ p st' ∧ c.1 = i ∧ 1 ≤ i) (fun c st' => SB a₀ p st' ∧ 1 ≤ c.1 ∧ c.1 ≤ nrem) (fun _ _ => False) (fun i c st' hi hI => ?_) ⟨hB, rfl, Nat.le_add_left 1 n⟩ (fun c st' h => ⟨h.1, h.2.1 ▸ h.2.2, Nat.le_of_eq h.2.1⟩) (fun c st' hI => ?_) fun _ _ _ h => h.elim)
  · obtain ⟨m, neq⟩ := c
    obtain ⟨hB2, rfl, h1⟩ := hI
    dsimp only at hi h1 ⊢
    have l1 : lo + m < a₀.size := by lia
    have l2 : lo + m - 1 < a₀.size := Nat.lt_of_le_of_lt (Nat.sub_le ..) l1
    unfold cb
    refine wpS_bind (p_ltAt hB2 h0 l1 l2 fun b => ?_)
    cases b
    · refine wpS_bind (p_ltAt hB2 h0 l2 l1 fun b => ?_)
      cases b
      · exact wpS_pure ⟨hB2, rfl, Nat.le_succ_of_le h1⟩
      · exact wpS_pure ⟨hB2, h1, Nat.le_of_lt hi⟩
    · dsimp only
      rw [if_pos rfl]
      by_cases hq : neq > 0
      · rw [if_pos hq]
        exact wpS_bind (p_rev hB2 fun st3 hB3 => wpS_pure ⟨hB3, rfl, Nat.le_succ_of_le h1⟩)
      · rw [if_neg hq]
        exact wpS_pure ⟨hB2, rfl, Nat.le_succ_of_le h1⟩
  · obtain ⟨m, neq⟩ := c
    dsimp only at hI ⊢
    by_cases hq : neq > 0
    · rw [if_pos hq]
      exact wpS_bind (p_rev hI.1 fun st3 hB3 => p_ct h0 hn q hB3 hI.2.1 hI.2.2)
    · rw [if_neg hq]
      exact p_ct h0 hn q hI.1 hI.2.1 hI.2.2
omit q in
theorem p_count (h1 : 1 ≤ nrem) (hB : SB a₀ p st) (q : ∀ m st', SB a₀ p st' → 1 ≤ m → m ≤ nrem → Q (some m) st') : wpS (model prog w) A E s (countRun' lo nrem) Q st := by
  rw [count_eq]
  refine wpS_bind (p_asc h0 hn (Nat.le_refl 1) h1 hB fun n hn1 hn2 => ?_)
  dsimp only
  by_cases hnn : n = nrem
  · rw [if_pos (beq_iff_eq.mpr hnn)]
    exact wpS_pure (q n st hB hn1 hn2)
  · rw [if_neg fun z => hnn (beq_iff_eq.mp z)]
    have hlt := Nat.lt_of_le_of_ne hn2 hnn
    by_cases hgt : n > 1
    · rw [if_pos hgt]
      refine wpS_bind (p_ltAt hB h0 (by lia) (by lia) fun b => ?_)
      cases b
      · exact wpS_bind (p_rev hB fun st1 hB1 => p_cd h0 hn q hB1 hn1 hlt)
      · exact wpS_pure (q n st hB hn1 hn2)
    · rw [if_neg hgt]
      exact p_cd h0 hn q hB hn1 hlt
end
end
end Srt
end
section
namespace Srt
noncomputable def setMinGallop' : Nat → StateT SortSt Sem Unit := sortPriv% PySem.Builtin.setMinGallop
theorem setMinGallop'_eq (g : Nat) : setMinGallop' g = modify fun s => SortSt.mk' (kindOf s) (arrOf s) (pendingOf s) g (failedOf s) := rfl
noncomputable def mergeLo' : Array Keyed → Array Keyed → StateT SortSt Sem (Array Keyed) := sortPriv% PySem.Builtin.mergeLo
abbrev AK := Array Keyed
abbrev Z5 := AK × Nat × Nat × Nat × Nat
abbrev Z6 := AK × Nat × Nat × Nat × Nat × Nat
abbrev FZ (β : Type) := ForInStep (Option AK × β)
section
variable (a b : AK)
noncomputable def dn (out : AK) (ia ib : Nat) : AK := out ++ a.extract ia a.size ++ b.extract ib b.size
noncomputable def la (out : AK) (ia ib : Nat) : AK := out ++ b.extract ib b.size ++ a.extract ia a.size
noncomputable def gl4 (out : AK) (ia ib mg k k1 : Nat) : StateT SortSt Sem (FZ Z6) := do
  let x ← elem' a ia
  if (ia + 1 + 1 == a.size) = true then pure (ForInStep.done (some (la a b (out.push x) (ia + 1) ib), out.push x, ia + 1, ib, mg, k, k1))
  else if (decide (k < 7) && decide (k1 < 7)) = true then pure (ForInStep.done (none, out.push x, ia + 1, ib, mg, k, k1)) else pure (ForInStep.yield (none, out.push x, ia + 1, ib, mg, k, k1))
noncomputable def gl3 (out : AK) (ia ib mg k bc : Nat) : StateT SortSt Sem (FZ Z6) := do
  let x ← elem' a ia
  let __x ← gallop' true x b ib (b.size - ib) 0
  match __x with
  | some k1 =>
    if k1 > 0 then
      if (ib + k1 == b.size) = true then pure (ForInStep.done (some (dn a b (out ++ b.extract ib (ib + k1)) ia (ib + k1)), out ++ b.extract ib (ib + k1), ia, ib + k1, mg, k, k1))
      else gl4 a b (out ++ b.extract ib (ib + k1)) ia (ib + k1) mg k k1
    else gl4 a b out ia ib mg k k1
  | _ => pure (ForInStep.done (some (dn a b out ia ib), out, ia, ib, mg, k, bc))
noncomputable def gl2 (out : AK) (ia ib mg k bc : Nat) : StateT SortSt Sem (FZ Z6) := do
  let x ← elem' b ib
  if (ib + 1 == b.size) = true then pure (ForInStep.done (some (dn a b (out.push x) ia (ib + 1)), out.push x, ia, ib + 1, mg, k, bc))
  else gl3 a b (out.push x) ia (ib + 1) mg k bc
noncomputable def gl1 (out : AK) (ia ib mg ac bc : Nat) : StateT SortSt Sem (FZ Z6) := do
  setMinGallop' mg
  let x ← elem' b ib
  let __x ← gallop' false x a ia (a.size - ia) 0
  match __x with
  | some k =>
    if k > 0 then
      if (ia + k + 1 == a.size) = true then pure (ForInStep.done (some (la a b (out ++ a.extract ia (ia + k)) (ia + k) ib), out ++ a.extract ia (ia + k), ia + k, ib, mg, k, bc))
      else if (ia + k == a.size) = true then pure (ForInStep.done (some (dn a b (out ++ a.extract ia (ia + k)) (ia + k) ib), out ++ a.extract ia (ia + k), ia + k, ib, mg, k, bc))
      else gl2 a b (out ++ a.extract ia (ia + k)) (ia + k) ib mg k bc
    else gl2 a b out ia ib mg k bc
  | _ => pure (ForInStep.done (some (dn a b out ia ib), out, ia, ib, mg, ac, bc))
noncomputable def ml1 (mg : Nat) (out : AK) (ia ib ac bc : Nat) : StateT SortSt Sem (FZ Z5) := do
  let y ← elem' b ib
  let x ← elem' a ia
  let __x ← lt' y x
  match __x with
  | some bWins =>
    if bWins = true then do
      let y ← elem' b ib
      if (ib + 1 == b.size) = true then pure (ForInStep.done (some (dn a b (out.push y) ia (ib + 1)), out.push y, ia, ib + 1, 0, bc + 1))
      else if bc + 1 ≥ mg then pure (ForInStep.done (none, out.push y, ia, ib + 1, 0, bc + 1)) else pure (ForInStep.yield (none, out.push y, ia, ib + 1, 0, bc + 1))
    else do
      let x ← elem' a ia
      if (ia + 1 + 1 == a.size) = true then pure (ForInStep.done (some (la a b (out.push x) (ia + 1) ib), out.push x, ia + 1, ib, ac + 1, 0))
      else if ac + 1 ≥ mg then pure (ForInStep.done (none, out.push x, ia + 1, ib, ac + 1, 0)) else pure (ForInStep.yield (none, out.push x, ia + 1, ib, ac + 1, 0))
  | _ => pure (ForInStep.done (some (dn a b out ia ib), out, ia, ib, ac, bc))
noncomputable def mo (out : AK) (ia ib mg : Nat) : StateT SortSt Sem (FZ (AK × Nat × Nat × Nat)) := do
  let t ← forIn [:a.size + b.size] ((none, out, ia, ib, 0, 0) : Option AK × Z5) fun _ t => ml1 a b mg t.2.1 t.2.2.1 t.2.2.2.1 t.2.2.2.2.1 t.2.2.2.2.2
  match t.1 with
  | some r => pure (ForInStep.done (some r, t.2.1, t.2.2.1, t.2.2.2.1, mg))
  | none => do
    liftM (rule "list.sort.gallop")
    let u ← forIn [:a.size + b.size] ((none, t.2.1, t.2.2.1, t.2.2.2.1, mg + 1, t.2.2.2.2.1, t.2.2.2.2.2) : Option AK × Z6) fun _ u =>
      if u.2.2.2.2.1 > 1 then gl1 a b u.2.1 u.2.2.1 u.2.2.2.1 (u.2.2.2.2.1 - 1) u.2.2.2.2.2.1 u.2.2.2.2.2.2 else gl1 a b u.2.1 u.2.2.1 u.2.2.2.1 u.2.2.2.2.1 u.2.2.2.2.2.1 u.2.2.2.2.2.2
    match u.1 with
    | some r => pure (ForInStep.done (some r, u.2.1, u.2.2.1, u.2.2.2.1, u.2.2.2.2.1))
    | none => do
      setMinGallop' (u.2.2.2.2.1 + 1)
      pure (ForInStep.yield (none, u.2.1, u.2.2.1, u.2.2.2.1, u.2.2.2.2.1 + 1))
theorem mergeLo'_eq : mergeLo' a b = (do
  liftM (rule "list.sort.merge-lo")
  let x ← elem' b 0
  if (1 == b.size) = true then pure (dn a b #[x] 0 1)
  else if (0 + 1 == a.size) = true then pure (la a b #[x] 0 1)
  else do
    let g ← get
    let t ← forIn [:a.size + b.size] ((none, #[x], 0, 1, gallopOf g) : Option AK × AK × Nat × Nat × Nat) fun _ t => mo a b t.2.1 t.2.2.1 t.2.2.2.1 t.2.2.2.2
    match t.1 with
    | some r => pure r
    | none => liftM (unsupported "internal:list.sort.merge-bound" : Sem AK)) := by kernel_rfl!
end
end Srt
end
section
namespace Srt
noncomputable def PMl (o x y : List Keyed) : Prop := o.Perm (x ++ y)
theorem PMl.pb {o x y : List Keyed} (z : List Keyed) (h : PMl o x y) : PMl (o ++ z) x (y ++ z) := by unfold PMl at *; rw [← List.append_assoc]; exact h.append_right z
theorem PMl.pa {o x y : List Keyed} (z : List Keyed) (h : PMl o x y) : PMl (o ++ z) (x ++ z) y := by
  unfold PMl at *; refine (h.append_right z).trans ?_; rw [List.append_assoc, List.append_assoc]; exact List.perm_append_comm.append_left x
noncomputable def J (a b : AK) (out : AK) (ia ib : Nat) : Prop := PMl out.toList (a.toList.take ia) (b.toList.take ib)
theorem tk {a : AK} {i : Nat} {x : Keyed} (e : a[i]? = some x) : a.toList.take (i + 1) = a.toList.take i ++ [x] := by rw [List.take_add_one, Array.getElem?_toList, e]; rfl
theorem ex {a : AK} {i k : Nat} : a.toList.take (i + k) = a.toList.take i ++ (a.extract i (i + k)).toList := by rw [Array.toList_extract, List.take_add]; show _ = _ ++ (a.toList.drop i).take (i + k - i); rw [Nat.add_sub_cancel_left]
theorem ed {a : AK} {i : Nat} : a.toList.take i ++ (a.extract i a.size).toList = a.toList := by
  rw [Array.toList_extract]; show _ ++ (a.toList.drop i).take (a.size - i) = _
  rw [List.take_of_length_le (l := a.toList.drop i) (by rw [List.length_drop, Array.length_toList]; exact Nat.le_refl _), List.take_append_drop]
section
variable {a b out : AK} {ia ib k : Nat} {x : Keyed}
theorem J.pb (h : J a b out ia ib) (e : b[ib]? = some x) : J a b (out.push x) ia (ib + 1) := by unfold J at *; rw [tk e, Array.toList_push]; exact h.pb _
theorem J.pa (h : J a b out ia ib) (e : a[ia]? = some x) : J a b (out.push x) (ia + 1) ib := by unfold J at *; rw [tk e, Array.toList_push]; exact h.pa _
theorem J.eb (h : J a b out ia ib) : J a b (out ++ b.extract ib (ib + k)) ia (ib + k) := by unfold J at *; rw [ex, Array.toList_append]; exact h.pb _
theorem J.ea (h : J a b out ia ib) : J a b (out ++ a.extract ia (ia + k)) (ia + k) ib := by unfold J at *; rw [ex, Array.toList_append]; exact h.pa _
theorem J.dn (h : J a b out ia ib) : (dn a b out ia ib).Perm (a ++ b) := by
  have z := (PMl.pa (a.extract ia a.size).toList h).pb (b.extract ib b.size).toList
  rw [ed, ed] at z
  rw [Array.perm_iff_toList_perm]; unfold Srt.dn
  rw [Array.toList_append, Array.toList_append, Array.toList_append]; exact z
theorem J.la (h : J a b out ia ib) : (la a b out ia ib).Perm (a ++ b) := by
  have z := (PMl.pb (b.extract ib b.size).toList h).pa (a.extract ia a.size).toList
  rw [ed, ed] at z
  rw [Array.perm_iff_toList_perm]; unfold Srt.la
  rw [Array.toList_append, Array.toList_append, Array.toList_append]; exact z
end
section
variable {prog : Program} {w : World} {A : Around} {E : Value → Shared → Prop} {s : Shared} {a₀ : Array Keyed} {p : Pn} {st : SortSt} {a b out : AK} {ia ib mg k k1 n ac bc : Nat}
structure SQ (a₀ : AK) (p : Pn) (st : SortSt) : Prop where
  arr : arrOf st = a₀
  kind : kindOf st = oneType'
  failed : failedOf st = none
  pend : pendingOf st = p
structure Gd (a₀ : AK) (p : Pn) (a b : AK) (n : Nat) (out : AK) (ia ib : Nat) (st : SortSt) : Prop where
  B : SQ a₀ p st
  J : J a b out ia ib
  a1 : ia + 1 < a.size
  b1 : ib < b.size
  m : n ≤ ia + ib
noncomputable def Rt (a₀ : AK) (p : Pn) (a b : AK) (g : AK) (st : SortSt) : Prop := SQ a₀ p st ∧ g.Perm (a ++ b)
noncomputable abbrev Rz {β : Type} (a₀ : AK) (p : Pn) (a b : AK) (d n : Nat) : FZ (AK × Nat × Nat × β) → SortSt → Prop :=
  Rg (fun c => Gd a₀ p a b d c.1 c.2.1 c.2.2.1) (fun c => Gd a₀ p a b n c.1 c.2.1 c.2.2.1) (Rt a₀ p a b)
theorem Gd.le (G : Gd a₀ p a b n out ia ib st) {d : Nat} (h : d ≤ n) : Gd a₀ p a b d out ia ib st := ⟨G.B, G.J, G.a1, G.b1, Nat.le_trans h G.m⟩
theorem beq_t {i j : Nat} (h : i = j) : (i == j) = true := beq_iff_eq.mpr h
theorem beq_f {i j : Nat} (h : i ≠ j) : ¬(i == j) = true := fun e => h (beq_iff_eq.mp e)
theorem p_gl4 (hm : ia + ib + 1 = n) (hB : SQ a₀ p st) (hJ : J a b out ia ib) (h1 : ia + 1 < a.size) (h2 : ib < b.size) : wpS (model prog w) A E s (gl4 a b out ia ib mg k k1) (Rz a₀ p a b n n) st := by
  unfold gl4
  refine wpS_bind (p_elem (Nat.lt_of_succ_lt h1) fun x e => ?_)
  have hJ' := hJ.pa e
  by_cases h : ia + 1 + 1 = a.size
  · rw [if_pos (beq_t h)]; exact wpS_pure ⟨hB, hJ'.la⟩
  · rw [if_neg (beq_f h)]
    have g : Gd a₀ p a b n (out.push x) (ia + 1) ib st := ⟨hB, hJ', Nat.lt_of_le_of_ne h1 h, h2, by lia⟩
    split
    · exact wpS_pure g
    · exact wpS_pure g
theorem Rz.le {β : Type} {d n m : Nat} {r : FZ (AK × Nat × Nat × β)} (h : Rz a₀ p a b n n r st) (hd : d ≤ n) (hm : m ≤ n) : Rz a₀ p a b d m r st := by
  cases r with
  | done c => obtain ⟨o, c⟩ := c; cases o with
    | none => exact Gd.le h hd
    | some g => exact h
  | yield c => obtain ⟨o, c⟩ := c; cases o with
    | none => exact Gd.le h hm
    | some g => exact h
theorem p_gl3 (hm : n ≤ ia + ib + 1) (hB : SQ a₀ p st) (ha : IntKeys a) (hb : IntKeys b) (hJ : J a b out ia ib) (h1 : ia + 1 < a.size) (h2 : ib < b.size) : wpS (model prog w) A E s (gl3 a b out ia ib mg k bc) (Rz a₀ p a b n n) st := by
  unfold gl3
  refine wpS_bind (p_elem (Nat.lt_of_succ_lt h1) fun x e => wpS_bind (p_gallop hB.kind (ik ha e) hb (by lia) (by lia) fun k1 hk1 => ?_))
  dsimp only
  by_cases h0 : k1 > 0
  · rw [if_pos h0]
    by_cases h : ib + k1 = b.size
    · rw [if_pos (beq_t h)]; exact wpS_pure ⟨hB, hJ.eb.dn⟩
    · rw [if_neg (beq_f h)]; exact wpS_mono (p_gl4 rfl hB hJ.eb h1 (by lia)) fun r st' hr => hr.le (by lia) (by lia)
  · rw [if_neg h0]; exact wpS_mono (p_gl4 rfl hB hJ h1 h2) fun r st' hr => hr.le (by lia) (by lia)
theorem p_gl2 (hm : n ≤ ia + ib + 2) (hB : SQ a₀ p st) (ha : IntKeys a) (hb : IntKeys b) (hJ : J a b out ia ib) (h1 : ia + 1 < a.size) (h2 : ib < b.size) : wpS (model prog w) A E s (gl2 a b out ia ib mg k bc) (Rz a₀ p a b n n) st := by
  unfold gl2
  refine wpS_bind (p_elem h2 fun x e => ?_)
  have hJ' := hJ.pb e
  by_cases h : ib + 1 = b.size
  · rw [if_pos (beq_t h)]; exact wpS_pure ⟨hB, hJ'.dn⟩
  · rw [if_neg (beq_f h)]; exact p_gl3 (by lia) hB ha hb hJ' h1 (by lia)
theorem p_setG {g : Nat} {Q : Unit → SortSt → Prop} (hB : SQ a₀ p st) (q : ∀ st', SQ a₀ p st' → Q () st') : wpS (model prog w) A E s (setMinGallop' g) Q st := by
  rw [setMinGallop'_eq]; exact wpS_modify (q _ ⟨hB.arr, hB.kind, hB.failed, hB.pend⟩)
theorem p_gl1 (hm : n ≤ ia + ib + 2) (hB : SQ a₀ p st) (ha : IntKeys a) (hb : IntKeys b) (hJ : J a b out ia ib) (h1 : ia + 1 < a.size) (h2 : ib < b.size) : wpS (model prog w) A E s (gl1 a b out ia ib mg ac bc) (Rz a₀ p a b n n) st := by
  unfold gl1
  refine wpS_bind (p_setG hB fun st hB => wpS_bind (p_elem h2 fun x e => wpS_bind (p_gallop hB.kind (ik hb e) ha (by lia) (by lia) fun k hk => ?_)))
  dsimp only
  by_cases h0 : k > 0
  · rw [if_pos h0]
    by_cases h : ia + k + 1 = a.size
    · rw [if_pos (beq_t h)]; exact wpS_pure ⟨hB, hJ.ea.la⟩
    · rw [if_neg (beq_f h)]
      by_cases h' : ia + k = a.size
      · rw [if_pos (beq_t h')]; exact wpS_pure ⟨hB, hJ.ea.dn⟩
      · rw [if_neg (beq_f h')]; exact p_gl2 (by lia) hB ha hb hJ.ea (by lia) h2
  · rw [if_neg h0]; exact p_gl2 hm hB ha hb hJ h1 h2
theorem p_ml1 (hG : Gd a₀ p a b n out ia ib st) (ha : IntKeys a) (hb : IntKeys b) : wpS (model prog w) A E s (ml1 a b mg out ia ib ac bc) (Rz a₀ p a b n n) st := by
  obtain ⟨hB, hJ, h1, h2, hm⟩ := hG
  unfold ml1
  refine wpS_bind (p_elem h2 fun y ey => wpS_bind (p_elem (Nat.lt_of_succ_lt h1) fun x e => wpS_bind (p_lt hB.kind (ik hb ey) (ik ha e) fun t => ?_)))
  cases t
  · dsimp only
    rw [if_neg Bool.false_ne_true]
    refine wpS_bind (p_elem (Nat.lt_of_succ_lt h1) fun x e => ?_)
    have hJ' := hJ.pa e
    by_cases h : ia + 1 + 1 = a.size
    · rw [if_pos (beq_t h)]; exact wpS_pure ⟨hB, hJ'.la⟩
    · rw [if_neg (beq_f h)]
      have g : Gd a₀ p a b n (out.push x) (ia + 1) ib st := ⟨hB, hJ', Nat.lt_of_le_of_ne h1 h, h2, by lia⟩
      split
      · exact wpS_pure g
      · exact wpS_pure g
  · dsimp only
    rw [if_pos rfl]
    refine wpS_bind (p_elem h2 fun x e => ?_)
    have hJ' := hJ.pb e
    by_cases h : ib + 1 = b.size
    · rw [if_pos (beq_t h)]; exact wpS_pure ⟨hB, hJ'.dn⟩
    · rw [if_neg (beq_f h)]
      have g : Gd a₀ p a b n (out.push x) ia (ib + 1) st := ⟨hB, hJ', h1, Nat.lt_of_le_of_ne h2 h, by lia⟩
      split
      · exact wpS_pure g
      · exact wpS_pure g
theorem p_mo (hG : Gd a₀ p a b n out ia ib st) (ha : IntKeys a) (hb : IntKeys b) : wpS (model prog w) A E s (mo a b out ia ib mg) (Rg (fun _ _ => False) (fun c => Gd a₀ p a b (n + 1) c.1 c.2.1 c.2.2.1) (Rt a₀ p a b)) st := by
  unfold mo
  have tot : 0 < a.size + b.size := Nat.lt_of_lt_of_le (Nat.lt_of_le_of_lt (Nat.zero_le _) hG.a1) (Nat.le_add_right ..)
  refine wpS_bind (p_rng (Nat.zero_le _) (fun _ c st' => Gd a₀ p a b n c.1 c.2.1 c.2.2.1 st') (fun c st' => Gd a₀ p a b n c.1 c.2.1 c.2.2.1 st') (Rt a₀ p a b) (fun i c st' _ hI => p_ml1 hI ha hb) hG (fun _ _ h => h) (fun c st' hI => ?_) fun g c st' h => wpS_pure h)
  refine wpS_bind (wpS_lift (wpAny_rule ⟨rfl, ?_⟩))
  refine wpS_bind (p_rng (Nat.zero_le _) (fun j c st' => Gd a₀ p a b (n + j) c.1 c.2.1 c.2.2.1 st') (fun c st' => Gd a₀ p a b (n + 1) c.1 c.2.1 c.2.2.1 st') (Rt a₀ p a b) (fun j c st' _ hI => ?_) hI (fun _ _ h => h.le (Nat.add_le_add_left tot n)) (fun c st' hI => ?_) fun g c st' h => wpS_pure h)
  · have z : ∀ mg, wpS (model prog w) A E s (gl1 a b c.1 c.2.1 c.2.2.1 mg c.2.2.2.2.1 c.2.2.2.2.2) (Rz a₀ p a b (n + 1) (n + (j + 1))) st' := fun mg => wpS_mono (p_gl1 (n := n + (j + 1)) (by have := hI.m; lia) hI.B ha hb hI.J hI.a1 hI.b1) fun r st2 hr => hr.le (by lia) (Nat.le_refl _)
    dsimp only
    split
    · exact z _
    · exact z _
  · exact wpS_bind (p_setG hI.B fun st2 hB2 => wpS_pure ⟨hB2, hI.J, hI.a1, hI.b1, hI.m⟩)
theorem p_mergeLo {Q : AK → SortSt → Prop} (hB : SQ a₀ p st) (ha : IntKeys a) (hb : IntKeys b) (h1 : 0 < a.size) (h2 : 0 < b.size) (q : ∀ out st', SQ a₀ p st' → out.Perm (a ++ b) → Q out st') :
    wpS (model prog w) A E s (mergeLo' a b) Q st := by
  rw [mergeLo'_eq]
  refine wpS_bind (wpS_lift (wpAny_rule ⟨rfl, ?_⟩))
  refine wpS_bind (p_elem h2 fun x ex => ?_)
  have hJ : J a b #[x] 0 1 := by unfold J; rw [tk ex]; exact List.Perm.refl _
  by_cases h : 1 = b.size
  · rw [if_pos (beq_t h)]; exact wpS_pure (q _ _ hB hJ.dn)
  · rw [if_neg (beq_f h)]
    by_cases h' : 0 + 1 = a.size
    · rw [if_pos (beq_t h')]; exact wpS_pure (q _ _ hB hJ.la)
    · rw [if_neg (beq_f h')]
      refine wpS_bind (wpS_get ?_)
      refine wpS_bind (p_rng (Nat.zero_le _) (fun j c st' => Gd a₀ p a b (j + 1) c.1 c.2.1 c.2.2.1 st') (fun _ _ => False) (Rt a₀ p a b) (fun j c st' _ hI => ?_) ⟨hB, hJ, Nat.lt_of_le_of_ne h1 h', Nat.lt_of_le_of_ne h2 h, Nat.le_refl _⟩ (fun c st' h => ?_) (fun c st' hI => hI.elim) fun g c st' h => wpS_pure (q _ _ h.1 h.2))
      · exact p_mo hI ha hb
      · have := h.a1; have := h.b1; have := h.m; lia
end
end Srt
end
section
set_option tactic.hygienic false
namespace Srt
noncomputable def mergeHi' : Array Keyed → Array Keyed → StateT SortSt Sem (Array Keyed) := sortPriv% PySem.Builtin.mergeHi
abbrev Y5 := Nat × Nat × AK × Nat × Nat
abbrev Y6 := Nat × Nat × AK × Nat × Nat × Nat
section
variable (a b : AK)
noncomputable def dh (out : AK) (na nb : Nat) : AK := a.extract 0 na ++ b.extract 0 nb ++ out.reverse
noncomputable def fb (out : AK) (na nb : Nat) : AK := b.extract 0 nb ++ a.extract 0 na ++ out.reverse
noncomputable def gh4 (na nb : Nat) (out : AK) (mg k k1 : Nat) : StateT SortSt Sem (FZ Y6) := do
  let x ← elem' a (na - 1)
  if (na - 1 == 0) = true then pure (ForInStep.done (some (dh a b (out.push x) (na - 1) nb), na - 1, nb, out.push x, mg, k, k1))
  else if (decide (k < 7) && decide (k1 < 7)) = true then pure (ForInStep.done (none, na - 1, nb, out.push x, mg, k, k1)) else pure (ForInStep.yield (none, na - 1, nb, out.push x, mg, k, k1))
noncomputable def gh3 (na nb : Nat) (out : AK) (mg k bc : Nat) : StateT SortSt Sem (FZ Y6) := do
  let x ← elem' a (na - 1)
  let __x ← gallop' true x b 0 nb (nb - 1)
  match __x with
  | some i =>
    if nb - i > 0 then
      if (i == 1) = true then pure (ForInStep.done (some (fb a b (out ++ (b.extract i nb).reverse) na i), na, i, out ++ (b.extract i nb).reverse, mg, k, nb - i))
      else if (i == 0) = true then pure (ForInStep.done (some (dh a b (out ++ (b.extract i nb).reverse) na i), na, i, out ++ (b.extract i nb).reverse, mg, k, nb - i))
      else gh4 a b na i (out ++ (b.extract i nb).reverse) mg k (nb - i)
    else gh4 a b na nb out mg k (nb - i)
  | _ => pure (ForInStep.done (some (dh a b out na nb), na, nb, out, mg, k, bc))
noncomputable def gh2 (na nb : Nat) (out : AK) (mg k bc : Nat) : StateT SortSt Sem (FZ Y6) := do
  let x ← elem' b (nb - 1)
  if (nb - 1 == 1) = true then pure (ForInStep.done (some (fb a b (out.push x) na (nb - 1)), na, nb - 1, out.push x, mg, k, bc))
  else gh3 a b na (nb - 1) (out.push x) mg k bc
noncomputable def gh1 (na nb : Nat) (out : AK) (mg ac bc : Nat) : StateT SortSt Sem (FZ Y6) := do
  setMinGallop' mg
  let x ← elem' b (nb - 1)
  let __x ← gallop' false x a 0 na (na - 1)
  match __x with
  | some i =>
    if na - i > 0 then
      if (i == 0) = true then pure (ForInStep.done (some (dh a b (out ++ (a.extract i na).reverse) i nb), i, nb, out ++ (a.extract i na).reverse, mg, na - i, bc))
      else gh2 a b i nb (out ++ (a.extract i na).reverse) mg (na - i) bc
    else gh2 a b na nb out mg (na - i) bc
  | _ => pure (ForInStep.done (some (dh a b out na nb), na, nb, out, mg, ac, bc))
noncomputable def mh1 (mg na nb : Nat) (out : AK) (ac bc : Nat) : StateT SortSt Sem (FZ Y5) := do
  let y ← elem' b (nb - 1)
  let x ← elem' a (na - 1)
  let __x ← lt' y x
  match __x with
  | some aWins =>
    if aWins = true then do
      let x ← elem' a (na - 1)
      if (na - 1 == 0) = true then pure (ForInStep.done (some (dh a b (out.push x) (na - 1) nb), na - 1, nb, out.push x, ac + 1, 0))
      else if ac + 1 ≥ mg then pure (ForInStep.done (none, na - 1, nb, out.push x, ac + 1, 0)) else pure (ForInStep.yield (none, na - 1, nb, out.push x, ac + 1, 0))
    else do
      let y ← elem' b (nb - 1)
      if (nb - 1 == 1) = true then pure (ForInStep.done (some (fb a b (out.push y) na (nb - 1)), na, nb - 1, out.push y, 0, bc + 1))
      else if bc + 1 ≥ mg then pure (ForInStep.done (none, na, nb - 1, out.push y, 0, bc + 1)) else pure (ForInStep.yield (none, na, nb - 1, out.push y, 0, bc + 1))
  | _ => pure (ForInStep.done (some (dh a b out na nb), na, nb, out, ac, bc))
noncomputable def mq (na nb : Nat) (out : AK) (mg : Nat) : StateT SortSt Sem (FZ (Nat × Nat × AK × Nat)) := do
  let t ← forIn [:a.size + b.size] ((none, na, nb, out, 0, 0) : Option AK × Y5) fun _ t => mh1 a b mg t.2.1 t.2.2.1 t.2.2.2.1 t.2.2.2.2.1 t.2.2.2.2.2
  match t.1 with
  | some r => pure (ForInStep.done (some r, t.2.1, t.2.2.1, t.2.2.2.1, mg))
  | none => do
    liftM (rule "list.sort.gallop")
    let u ← forIn [:a.size + b.size] ((none, t.2.1, t.2.2.1, t.2.2.2.1, mg + 1, t.2.2.2.2.1, t.2.2.2.2.2) : Option AK × Y6) fun _ u =>
      if u.2.2.2.2.1 > 1 then gh1 a b u.2.1 u.2.2.1 u.2.2.2.1 (u.2.2.2.2.1 - 1) u.2.2.2.2.2.1 u.2.2.2.2.2.2 else gh1 a b u.2.1 u.2.2.1 u.2.2.2.1 u.2.2.2.2.1 u.2.2.2.2.2.1 u.2.2.2.2.2.2
    match u.1 with
    | some r => pure (ForInStep.done (some r, u.2.1, u.2.2.1, u.2.2.2.1, u.2.2.2.2.1))
    | none => do
      setMinGallop' (u.2.2.2.2.1 + 1)
      pure (ForInStep.yield (none, u.2.1, u.2.2.1, u.2.2.2.1, u.2.2.2.2.1 + 1))
theorem mergeHi'_eq : mergeHi' a b = (do
  liftM (rule "list.sort.merge-hi")
  let x ← elem' a (a.size - 1)
  if (a.size - 1 == 0) = true then pure (dh a b #[x] (a.size - 1) b.size)
  else if (b.size == 1) = true then pure (fb a b #[x] (a.size - 1) b.size)
  else do
    let g ← get
    let t ← forIn [:a.size + b.size] ((none, a.size - 1, b.size, #[x], gallopOf g) : Option AK × Nat × Nat × AK × Nat) fun _ t => mq a b t.2.1 t.2.2.1 t.2.2.2.1 t.2.2.2.2
    match t.1 with
    | some r => pure r
    | none => liftM (unsupported "internal:list.sort.merge-bound" : Sem AK)) := by kernel_rfl!
end
theorem PMl.qb {o x y : List Keyed} (z : List Keyed) (h : PMl o x y) : PMl (o ++ z) x (z ++ y) := by
  unfold PMl at *; refine (h.append_right z).trans ?_; rw [List.append_assoc]; exact List.perm_append_comm.append_left x
theorem PMl.qa {o x y : List Keyed} (z : List Keyed) (h : PMl o x y) : PMl (o ++ z) (z ++ x) y := by
  unfold PMl at *; rw [List.append_assoc]; exact List.perm_append_comm.trans (h.append_left z)
noncomputable def JH (a b : AK) (out : AK) (na nb : Nat) : Prop := PMl out.toList (a.toList.drop na) (b.toList.drop nb)
theorem tkd {a : AK} {i : Nat} {x : Keyed} (h : 0 < i) (e : a[i - 1]? = some x) : a.toList.drop (i - 1) = [x] ++ a.toList.drop i := by
  obtain ⟨j, rfl⟩ := Nat.exists_eq_add_of_lt h
  rw [Nat.zero_add, Nat.add_sub_cancel] at *
  rw [← Array.getElem?_toList] at e
  obtain ⟨hl, rfl⟩ := List.getElem?_eq_some_iff.mp e
  exact List.drop_eq_getElem_cons hl
theorem exd {a : AK} {i n : Nat} (h : i ≤ n) : a.toList.drop i = (a.extract i n).toList ++ a.toList.drop n := by
  rw [Array.toList_extract]; show _ = (a.toList.drop i).take (n - i) ++ _
  conv => lhs; rw [← List.take_append_drop (n - i) (a.toList.drop i)]
  rw [List.drop_drop, Nat.add_sub_cancel' h]
theorem ex0 {a : AK} {n : Nat} : (a.extract 0 n).toList ++ a.toList.drop n = a.toList := (exd (Nat.zero_le n)).symm
section
variable {a b out : AK} {na nb k : Nat} {x : Keyed}
theorem JH.pb (h : JH a b out na nb) (h0 : 0 < nb) (e : b[nb - 1]? = some x) : JH a b (out.push x) na (nb - 1) := by unfold JH at *; rw [tkd h0 e, Array.toList_push]; exact h.qb _
theorem JH.pa (h : JH a b out na nb) (h0 : 0 < na) (e : a[na - 1]? = some x) : JH a b (out.push x) (na - 1) nb := by unfold JH at *; rw [tkd h0 e, Array.toList_push]; exact h.qa _
theorem PMl.rv {o x y : List Keyed} {z : AK} (h : PMl (o ++ z.toList) x y) : PMl (o ++ z.reverse.toList) x y := by
  unfold PMl at *; rw [Array.toList_reverse]; exact ((List.reverse_perm _).append_left o).trans h
theorem JH.eb (h : JH a b out na nb) (hk : k ≤ nb) : JH a b (out ++ (b.extract k nb).reverse) na k := by unfold JH at *; rw [exd hk, Array.toList_append]; exact (h.qb _).rv
theorem JH.ea (h : JH a b out na nb) (hk : k ≤ na) : JH a b (out ++ (a.extract k na).reverse) k nb := by unfold JH at *; rw [exd hk, Array.toList_append]; exact (h.qa _).rv
theorem JH.all (h : JH a b out na nb) : (out.toList ++ ((a.extract 0 na).toList ++ (b.extract 0 nb).toList)).Perm (a.toList ++ b.toList) := by
  have z := (PMl.qa (a.extract 0 na).toList h).qb (b.extract 0 nb).toList
  rw [ex0, ex0] at z
  unfold PMl at z
  rwa [List.append_assoc] at z
theorem JH.dh (h : JH a b out na nb) : (dh a b out na nb).Perm (a ++ b) := by
  rw [Array.perm_iff_toList_perm]; unfold Srt.dh
  rw [Array.toList_append, Array.toList_append, Array.toList_append, Array.toList_reverse]
  exact (((List.reverse_perm _).append_left _).trans List.perm_append_comm).trans h.all
theorem JH.fb (h : JH a b out na nb) : (fb a b out na nb).Perm (a ++ b) := by
  rw [Array.perm_iff_toList_perm]; unfold Srt.fb
  rw [Array.toList_append, Array.toList_append, Array.toList_append, Array.toList_reverse]
  exact (((List.reverse_perm _).append_left _).trans (List.perm_append_comm.trans (List.perm_append_comm.append_left _))).trans h.all
end
section
variable {prog : Program} {w : World} {A : Around} {E : Value → Shared → Prop} {s : Shared} {a₀ : Array Keyed} {p : Pn} {st : SortSt} {a b out : AK} {na nb mg k k1 n ac bc : Nat}
structure Gh (a₀ : AK) (p : Pn) (a b : AK) (n na nb : Nat) (out : AK) (st : SortSt) : Prop where
  B : SQ a₀ p st
  J : JH a b out na nb
  a1 : 1 ≤ na
  b1 : 2 ≤ nb
  a2 : na ≤ a.size
  b2 : nb ≤ b.size
  m : n + na + nb ≤ a.size + b.size
noncomputable abbrev Rh {β : Type} (a₀ : AK) (p : Pn) (a b : AK) (d n : Nat) : FZ (Nat × Nat × AK × β) → SortSt → Prop :=
  Rg (fun c => Gh a₀ p a b d c.1 c.2.1 c.2.2.1) (fun c => Gh a₀ p a b n c.1 c.2.1 c.2.2.1) (Rt a₀ p a b)
theorem Gh.le (G : Gh a₀ p a b n na nb out st) {d : Nat} (h : d ≤ n) : Gh a₀ p a b d na nb out st := ⟨G.B, G.J, G.a1, G.b1, G.a2, G.b2, by have := G.m; lia⟩
theorem Rh.le {β : Type} {d n m : Nat} {r : FZ (Nat × Nat × AK × β)} (h : Rh a₀ p a b n n r st) (hd : d ≤ n) (hm : m ≤ n) : Rh a₀ p a b d m r st := by
  cases r with
  | done c => obtain ⟨o, c⟩ := c; cases o with
    | none => exact Gh.le h hd
    | some g => exact h
  | yield c => obtain ⟨o, c⟩ := c; cases o with
    | none => exact Gh.le h hm
    | some g => exact h
theorem p_gh4 (hG : Gh a₀ p a b n na nb out st) : wpS (model prog w) A E s (gh4 a b na nb out mg k k1) (Rh a₀ p a b (n + 1) (n + 1)) st := by
  have h1 := hG.a1
  have h2 := hG.a2
  unfold gh4
  refine wpS_bind (p_elem (by lia) fun x e => ?_)
  have hJ' := hG.J.pa h1 e
  by_cases h : na - 1 = 0
  · rw [if_pos (beq_t h)]; exact wpS_pure ⟨hG.B, hJ'.dh⟩
  · rw [if_neg (beq_f h)]
    have g : Gh a₀ p a b (n + 1) (na - 1) nb (out.push x) st := ⟨hG.B, hJ', by lia, hG.b1, by lia, hG.b2, by have := hG.m; lia⟩
    split
    · exact wpS_pure g
    · exact wpS_pure g
theorem p_gh3 (hG : Gh a₀ p a b n na nb out st) (ha : IntKeys a) (hb : IntKeys b) : wpS (model prog w) A E s (gh3 a b na nb out mg k bc) (Rh a₀ p a b (n + 1) (n + 1)) st := by
  have h1 := hG.a1
  have h2 := hG.a2
  have h3 := hG.b1
  have h4 := hG.b2
  unfold gh3
  refine wpS_bind (p_elem (by lia) fun x e => wpS_bind (p_gallop hG.B.kind (ik ha e) hb (by lia) (by lia) fun i hi => ?_))
  have hJ' := hG.J.eb hi
  dsimp only
  by_cases h0 : nb - i > 0
  · rw [if_pos h0]
    by_cases h : i = 1
    · rw [if_pos (beq_t h)]; exact wpS_pure ⟨hG.B, hJ'.fb⟩
    · rw [if_neg (beq_f h)]
      by_cases h' : i = 0
      · rw [if_pos (beq_t h')]; exact wpS_pure ⟨hG.B, hJ'.dh⟩
      · rw [if_neg (beq_f h')]; exact p_gh4 ⟨hG.B, hJ', h1, by lia, h2, by lia, by have := hG.m; lia⟩
  · rw [if_neg h0]; exact p_gh4 hG
theorem p_gh2 (hB : SQ a₀ p st) (hJ : JH a b out na nb) (h1 : 1 ≤ na) (h2 : na ≤ a.size) (h3 : 2 ≤ nb) (h4 : nb ≤ b.size) (hm : n + na + nb ≤ a.size + b.size) (ha : IntKeys a) (hb : IntKeys b) : wpS (model prog w) A E s (gh2 a b na nb out mg k bc) (Rh a₀ p a b (n + 1) (n + 1)) st := by
  unfold gh2
  refine wpS_bind (p_elem (by lia) fun x e => ?_)
  have hJ' := hJ.pb (by lia) e
  by_cases h : nb - 1 = 1
  · rw [if_pos (beq_t h)]; exact wpS_pure ⟨hB, hJ'.fb⟩
  · rw [if_neg (beq_f h)]; exact p_gh3 ⟨hB, hJ', h1, by lia, h2, by lia, by lia⟩ ha hb
theorem p_gh1 (hG : Gh a₀ p a b n na nb out st) (ha : IntKeys a) (hb : IntKeys b) : wpS (model prog w) A E s (gh1 a b na nb out mg ac bc) (Rh a₀ p a b (n + 1) (n + 1)) st := by
  obtain ⟨hB, hJ, h1, h3, h2, h4, hm⟩ := hG
  unfold gh1
  refine wpS_bind (p_setG hB fun st hB => wpS_bind (p_elem (by lia) fun x e => wpS_bind (p_gallop hB.kind (ik hb e) ha (by lia) (by lia) fun i hi => ?_)))
  have hJ' := hJ.ea hi
  dsimp only
  by_cases h0 : na - i > 0
  · rw [if_pos h0]
    by_cases h : i = 0
    · rw [if_pos (beq_t h)]; exact wpS_pure ⟨hB, hJ'.dh⟩
    · rw [if_neg (beq_f h)]; exact p_gh2 hB hJ' (by lia) (by lia) h3 h4 (by lia) ha hb
  · rw [if_neg h0]; exact p_gh2 hB hJ h1 h2 h3 h4 hm ha hb
theorem p_mh1 (hG : Gh a₀ p a b n na nb out st) (ha : IntKeys a) (hb : IntKeys b) : wpS (model prog w) A E s (mh1 a b mg na nb out ac bc) (Rh a₀ p a b n n) st := by
  obtain ⟨hB, hJ, h1, h3, h2, h4, hm⟩ := hG
  unfold mh1
  refine wpS_bind (p_elem (by lia) fun y ey => wpS_bind (p_elem (by lia) fun x e => wpS_bind (p_lt hB.kind (ik hb ey) (ik ha e) fun t => ?_)))
  cases t
  · dsimp only
    rw [if_neg Bool.false_ne_true]
    refine wpS_bind (p_elem (by lia) fun x e => ?_)
    have hJ' := hJ.pb (by lia) e
    by_cases h : nb - 1 = 1
    · rw [if_pos (beq_t h)]; exact wpS_pure ⟨hB, hJ'.fb⟩
    · rw [if_neg (beq_f h)]
      have g : Gh a₀ p a b n na (nb - 1) (out.push x) st := ⟨hB, hJ', h1, by lia, h2, by lia, by lia⟩
      split
      · exact wpS_pure g
      · exact wpS_pure g
  · dsimp only
    rw [if_pos rfl]
    refine wpS_bind (p_elem (by lia) fun x e => ?_)
    have hJ' := hJ.pa h1 e
    by_cases h : na - 1 = 0
    · rw [if_pos (beq_t h)]; exact wpS_pure ⟨hB, hJ'.dh⟩
    · rw [if_neg (beq_f h)]
      have g : Gh a₀ p a b n (na - 1) nb (out.push x) st := ⟨hB, hJ', by lia, h3, by lia, h4, by lia⟩
      split
      · exact wpS_pure g
      · exact wpS_pure g
theorem p_mq (hG : Gh a₀ p a b n na nb out st) (ha : IntKeys a) (hb : IntKeys b) : wpS (model prog w) A E s (mq a b na nb out mg) (Rg (fun _ _ => False) (fun c => Gh a₀ p a b (n + 1) c.1 c.2.1 c.2.2.1) (Rt a₀ p a b)) st := by
  unfold mq
  have tot : 0 < a.size + b.size := Nat.lt_of_lt_of_le (Nat.lt_of_lt_of_le hG.a1 hG.a2) (Nat.le_add_right ..)
  refine wpS_bind (p_rng (Nat.zero_le _) (fun _ c st' => Gh a₀ p a b n c.1 c.2.1 c.2.2.1 st') (fun c st' => Gh a₀ p a b n c.1 c.2.1 c.2.2.1 st') (Rt a₀ p a b) (fun i c st' _ hI => p_mh1 hI ha hb) hG (fun _ _ h => h) (fun c st' hI => ?_) fun g c st' h => wpS_pure h)
  refine wpS_bind (wpS_lift (wpAny_rule ⟨rfl, ?_⟩))
  refine wpS_bind (p_rng (Nat.zero_le _) (fun j c st' => Gh a₀ p a b (n + j) c.1 c.2.1 c.2.2.1 st') (fun c st' => Gh a₀ p a b (n + 1) c.1 c.2.1 c.2.2.1 st') (Rt a₀ p a b) (fun j c st' _ hI => ?_) hI (fun _ _ h => h.le (Nat.add_le_add_left tot n)) (fun c st' hI => ?_) fun g c st' h => wpS_pure h)
  · have z : ∀ mg, wpS (model prog w) A E s (gh1 a b c.1 c.2.1 c.2.2.1 mg c.2.2.2.2.1 c.2.2.2.2.2) (Rh a₀ p a b (n + 1) (n + (j + 1))) st' := fun mg => wpS_mono (p_gh1 hI ha hb) fun r st2 hr => hr.le (by lia) (Nat.le_refl _)
    dsimp only
    split
    · exact z _
    · exact z _
  · exact wpS_bind (p_setG hI.B fun st2 hB2 => wpS_pure ⟨hB2, hI.J, hI.a1, hI.b1, hI.a2, hI.b2, hI.m⟩)
theorem p_mergeHi {Q : AK → SortSt → Prop} (hB : SQ a₀ p st) (ha : IntKeys a) (hb : IntKeys b) (h1 : 0 < a.size) (h2 : 0 < b.size) (q : ∀ out st', SQ a₀ p st' → out.Perm (a ++ b) → Q out st') :
    wpS (model prog w) A E s (mergeHi' a b) Q st := by
  rw [mergeHi'_eq]
  refine wpS_bind (wpS_lift (wpAny_rule ⟨rfl, ?_⟩))
  refine wpS_bind (p_elem (by lia) fun x ex => ?_)
  have hJ : JH a b #[x] (a.size - 1) b.size := by
    unfold JH; rw [tkd h1 ex, List.drop_of_length_le (l := a.toList) (by rw [Array.length_toList]; exact Nat.le_refl _), List.drop_of_length_le (l := b.toList) (by rw [Array.length_toList]; exact Nat.le_refl _)]; exact List.Perm.refl _
  by_cases h : a.size - 1 = 0
  · rw [if_pos (beq_t h)]; exact wpS_pure (q _ _ hB hJ.dh)
  · rw [if_neg (beq_f h)]
    by_cases h' : b.size = 1
    · rw [if_pos (beq_t h')]; exact wpS_pure (q _ _ hB hJ.fb)
    · rw [if_neg (beq_f h')]
      refine wpS_bind (wpS_get ?_)
      refine wpS_bind (p_rng (Nat.zero_le _) (fun j c st' => Gh a₀ p a b (j + 1) c.1 c.2.1 c.2.2.1 st') (fun _ _ => False) (Rt a₀ p a b) (fun j c st' _ hI => ?_) ⟨hB, hJ, Nat.pos_of_ne_zero h, Nat.lt_of_le_of_ne h2 (Ne.symm h'), Nat.sub_le .., Nat.le_refl _, ?_⟩ (fun c st' h => ?_) (fun c st' hI => hI.elim) fun g c st' h => wpS_pure (q _ _ h.1 h.2))
      · exact p_mq hI ha hb
      · show 0 + 1 + (a.size - 1) + b.size ≤ _; lia
      · have := h.a1; have := h.b1; have := h.m; lia
end
end Srt
end
section
set_option tactic.hygienic false
namespace Srt
noncomputable def Runs : Nat → List (Nat × Nat × Nat) → Nat → Prop
  | s, [], e => s = e
  | s, c :: r, e => c.1 = s ∧ 1 ≤ c.2.1 ∧ Runs (s + c.2.1) r e
theorem Runs.le : ∀ {l : List (Nat × Nat × Nat)} {s e : Nat}, Runs s l e → s ≤ e
  | [], _, _, h => Nat.le_of_eq h
  | _ :: _, _, _, h => Nat.le_trans (Nat.le_add_right ..) h.2.2.le
theorem Runs.push : ∀ {l : List (Nat × Nat × Nat)} {s e n q : Nat}, Runs s l e → 1 ≤ n → Runs s (l ++ [(e, n, q)]) (e + n)
  | [], _, _, _, _, h, hn => ⟨Eq.symm h, hn, congrArg (· + _) h⟩
  | _ :: _, _, _, _, _, h, hn => ⟨h.1, h.2.1, h.2.2.push hn⟩
theorem Runs.mod {f : Nat × Nat × Nat → Nat × Nat × Nat} (hf : ∀ x, (f x).1 = x.1 ∧ (f x).2.1 = x.2.1) : ∀ {l : List (Nat × Nat × Nat)} {s e i : Nat}, Runs s l e → Runs s (l.modify i f) e
  | [], _, _, _, h => by rw [List.modify_nil]; exact h
  | c :: l, s, e, 0, h => by
    rw [List.modify_zero_cons]
    refine ⟨(hf c).1.trans h.1, (hf c).2 ▸ h.2.1, ?_⟩
    rw [(hf c).2]; exact h.2.2
  | c :: l, s, e, i + 1, h => by rw [List.modify_succ_cons]; exact ⟨h.1, h.2.1, h.2.2.mod hf⟩
theorem Runs.at : ∀ {l : List (Nat × Nat × Nat)} {s e i sa na pw sb nb q : Nat}, Runs s l e → l[i]? = some (sa, na, pw) → l[i + 1]? = some (sb, nb, q) →
    sb = sa + na ∧ 1 ≤ na ∧ 1 ≤ nb ∧ sb + nb ≤ e ∧ Runs s ((l.set i (sa, na + nb, pw)).eraseIdx (i + 1)) e
  | [], _, _, _, _, _, _, _, _, _, _, e1, _ => by simp at e1
  | [_], _, _, 0, _, _, _, _, _, _, _, _, e2 => by simp at e2
  | c :: d :: l, s, e, 0, sa, na, pw, sb, nb, q, h, e1, e2 => by
    obtain rfl : c = (sa, na, pw) := by simpa using e1
    obtain rfl : d = (sb, nb, q) := by simpa using e2
    have h1 := h.1; have h2 := h.2.1; have h3 := h.2.2.1; have h4 := h.2.2.2.1; have h5 := h.2.2.2.2
    dsimp only at *
    refine ⟨by lia, h2, h4, by have := h5.le; lia, ?_⟩
    show Runs s ((sa, na + nb, pw) :: l) e
    exact ⟨h1, Nat.le_trans h2 (Nat.le_add_right ..), by rw [← Nat.add_assoc]; exact h5⟩
  | c :: l, s, e, i + 1, sa, na, pw, sb, nb, q, h, e1, e2 => by
    obtain ⟨z1, z2, z3, z4, z5⟩ := h.2.2.at (by simpa using e1) (by simpa using e2)
    exact ⟨z1, z2, z3, z4, h.1, h.2.1, z5⟩
noncomputable def wr (sa : Nat) (l : List Keyed) (n : Nat) (arr : AK) : AK := (l.zipIdx n).foldl (fun a (p, j) => a.setIfInBounds (sa + j) p) arr
theorem wr_list {sa : Nat} : ∀ {l : List Keyed} {n : Nat} {arr : AK}, sa + n + l.length ≤ arr.size → (wr sa l n arr).toList = arr.toList.take (sa + n) ++ l ++ arr.toList.drop (sa + n + l.length)
  | [], n, arr, _ => by show arr.toList = _; rw [List.append_nil]; exact (List.take_append_drop _ _).symm
  | x :: l, n, arr, h => by
    rw [List.length_cons] at h
    show (wr sa l (n + 1) (arr.setIfInBounds (sa + n) x)).toList = _
    rw [wr_list (by rw [Array.size_setIfInBounds]; lia), Array.toList_setIfInBounds]
    have hlt : sa + n < arr.toList.length := by rw [Array.length_toList]; lia
    rw [← Nat.add_assoc, List.take_add_one, List.take_set_of_le (Nat.le_refl _), List.getElem?_set_self hlt, List.drop_set_of_lt (by lia), List.length_cons, List.append_assoc, List.append_assoc, List.append_assoc]
    rw [show sa + n + 1 + l.length = sa + n + (l.length + 1) by lia]
    rfl
theorem wr_perm {sa sb e : Nat} {arr m : AK} (h1 : sa ≤ sb) (h2 : sb ≤ e) (h3 : e ≤ arr.size) (hm : m.Perm (arr.extract sa sb ++ arr.extract sb e)) : (wr sa m.toList 0 arr).Perm arr := by
  have z := Array.perm_iff_toList_perm.mp hm
  rw [Array.toList_append] at z
  have hl : m.toList.length = e - sa := by
    rw [z.length_eq, List.length_append, Array.length_toList, Array.length_toList, Array.size_extract, Array.size_extract]; lia
  rw [Array.perm_iff_toList_perm, wr_list (by lia), hl, Nat.add_zero, show sa + (e - sa) = e by lia]
  have d1 : arr.toList.take sa ++ ((arr.extract sa sb).toList ++ (arr.extract sb e).toList) ++ arr.toList.drop e = arr.toList := by
    rw [List.append_assoc, List.append_assoc, ← exd h2, ← exd h1, List.take_append_drop]
  exact ((z.append_left _).append_right _).trans (List.Perm.of_eq d1)
noncomputable def ma3 (sa na sb nb : Nat) (arr : AK) : StateT SortSt Sem Bool := do
  let m ← if na ≤ nb then mergeLo' (arr.extract sa sb) (arr.extract sb (sb + nb)) else mergeHi' (arr.extract sa sb) (arr.extract sb (sb + nb))
  modify fun s => setArr s (wr sa m.toList 0 (arrOf s))
  let s ← get
  pure (failedOf s).isNone
noncomputable def ma2 (sa na sb nb : Nat) (arr : AK) : StateT SortSt Sem Bool := do
  let x ← elem' arr sb
  let __x ← gallop' false x arr sa na 0
  match __x with
  | some k =>
    if (na - k == 0) = true then pure true else do
      let y ← elem' arr (sa + k + (na - k) - 1)
      let __x ← gallop' true y arr sb nb (nb - 1)
      match __x with
      | some nb => if (nb == 0) = true then pure true else ma3 (sa + k) (na - k) sb nb arr
      | _ => pure false
  | _ => pure false
theorem mergeAt'_eq (i : Nat) : mergeAt' i = (do
  let s ← get
  match ((pendingOf s)[i]?, (pendingOf s)[i + 1]?) with
  | (some (sa, na, pw), some (sb, nb, _)) => do
    set (setPending s (((pendingOf s).setIfInBounds i (sa, na + nb, pw)).eraseIdxIfInBounds (i + 1)))
    ma2 sa na sb nb (arrOf s)
  | _ => liftM (unsupported "internal:list.sort.pending" : Sem Bool)) := by kernel_rfl!
end Srt
end
section
set_option tactic.hygienic false
namespace Srt
section
variable {prog : Program} {w : World} {A : Around} {E : Value → Shared → Prop} {s : Shared} {a₀ : Array Keyed} {p : Pn} {st : SortSt}
theorem ik_ext {a : AK} {i j : Nat} (h : IntKeys a) : IntKeys (a.extract i j) := fun x hx => h x (by
  rw [Array.toList_extract] at hx
  exact List.drop_subset _ _ (List.take_subset _ _ hx))
theorem p_ma3 {sa na sb nb : Nat} {Q : Bool → SortSt → Prop} (hB : SB a₀ p st) (h0 : IntKeys (arrOf st)) (h1 : sa + na = sb) (h2 : 1 ≤ na) (h3 : 1 ≤ nb) (h4 : sb + nb ≤ (arrOf st).size) (q : ∀ st', SB a₀ p st' → Q true st') :
    wpS (model prog w) A E s (ma3 sa na sb nb (arrOf st)) Q st := by
  unfold ma3
  have za : 0 < ((arrOf st).extract sa sb).size := by rw [Array.size_extract]; lia
  have zb : 0 < ((arrOf st).extract sb (sb + nb)).size := by rw [Array.size_extract]; lia
  have h0a := ik_ext (i := sa) (j := sb) h0
  have h0b := ik_ext (i := sb) (j := sb + nb) h0
  have hQ : SQ (arrOf st) p st := ⟨rfl, hB.kind, hB.failed, hB.pend⟩
  have fin : ∀ (m : AK) st', SQ (arrOf st) p st' → m.Perm ((arrOf st).extract sa sb ++ (arrOf st).extract sb (sb + nb)) → Q (failedOf st').isNone (setArr st' (wr sa m.toList 0 (arrOf st'))) := fun m st' hB' hm => by
    rw [hB'.failed, hB'.arr]
    exact q _ ⟨(wr_perm (by lia) (Nat.le_add_right ..) h4 hm).trans hB.perm, hB'.kind, hB'.failed, hB'.pend⟩
  by_cases h : na ≤ nb
  · rw [if_pos h]
    exact wpS_bind (p_mergeLo hQ h0a h0b za zb fun m st' hB' hm => wpS_bind (wpS_modify (wpS_bind (wpS_get (wpS_pure (fin m st' hB' hm))))))
  · rw [if_neg h]
    exact wpS_bind (p_mergeHi hQ h0a h0b za zb fun m st' hB' hm => wpS_bind (wpS_modify (wpS_bind (wpS_get (wpS_pure (fin m st' hB' hm))))))
theorem SB.ints (hB : SB a₀ p st) (h0 : IntKeys a₀) : IntKeys (arrOf st) := fun x hx => h0 x ((Array.perm_iff_toList_perm.mp hB.perm).mem_iff.mp hx)
theorem p_ma2 {sa na sb nb : Nat} {arr : AK} {Q : Bool → SortSt → Prop} (hB : SB a₀ p st) (e : arr = arrOf st) (h0 : IntKeys a₀) (h1 : sa + na = sb) (h2 : 1 ≤ na) (h3 : 1 ≤ nb) (h4 : sb + nb ≤ arr.size) (q : ∀ st', SB a₀ p st' → Q true st') :
    wpS (model prog w) A E s (ma2 sa na sb nb arr) Q st := by
  have hi : IntKeys arr := e ▸ hB.ints h0
  unfold ma2
  refine wpS_bind (p_elem (by lia) fun x ex => wpS_bind (p_gallop hB.kind (ik hi ex) hi (by lia) (by lia) fun k hk => ?_))
  dsimp only
  by_cases hz : na - k = 0
  · rw [if_pos (beq_t hz)]; exact wpS_pure (q _ hB)
  · rw [if_neg (beq_f hz)]
    refine wpS_bind (p_elem (by lia) fun y ey => wpS_bind (p_gallop hB.kind (ik hi ey) hi h4 (by lia) fun n hn => ?_))
    dsimp only
    by_cases hz2 : n = 0
    · rw [if_pos (beq_t hz2)]; exact wpS_pure (q _ hB)
    · rw [if_neg (beq_f hz2), e]
      rw [e] at hi h4
      exact p_ma3 hB hi (by lia) (by lia) (by lia) (by lia) q
theorem p_mergeAt {i e : Nat} {Q : Bool → SortSt → Prop} (hB : SB a₀ p st) (h0 : IntKeys a₀) (hr : Runs 0 p.toList e) (he : e ≤ a₀.size) (hi : i + 1 < p.size) (q : ∀ p' st', SB a₀ p' st' → Runs 0 p'.toList e → Q true st') :
    wpS (model prog w) A E s (mergeAt' i) Q st := by
  rw [mergeAt'_eq]
  refine wpS_bind (wpS_get ?_)
  rw [hB.pend]
  obtain ⟨⟨sa, na, pw⟩, e1⟩ : ∃ c, p[i]? = some c := ⟨_, getElem?_pos p i (Nat.lt_of_succ_lt hi)⟩
  obtain ⟨⟨sb, nb, qq⟩, e2⟩ : ∃ c, p[i + 1]? = some c := ⟨_, getElem?_pos p (i + 1) hi⟩
  obtain ⟨z1, z2, z3, z4, z5⟩ := hr.at (by rw [Array.getElem?_toList]; exact e1) (by rw [Array.getElem?_toList]; exact e2)
  rw [e1, e2]
  have ep : ((p.setIfInBounds i (sa, na + nb, pw)).eraseIdxIfInBounds (i + 1)).toList = (p.toList.set i (sa, na + nb, pw)).eraseIdx (i + 1) := by
    rw [Array.eraseIdxIfInBounds_eq, dif_pos (by rw [Array.size_setIfInBounds]; exact hi), Array.toList_eraseIdx, Array.toList_setIfInBounds]
  refine wpS_bind (wpS_modify (f := fun _ => setPending st ((p.setIfInBounds i (sa, na + nb, pw)).eraseIdxIfInBounds (i + 1))) ?_)
  have hB' : SB a₀ ((p.setIfInBounds i (sa, na + nb, pw)).eraseIdxIfInBounds (i + 1)) (setPending st ((p.setIfInBounds i (sa, na + nb, pw)).eraseIdxIfInBounds (i + 1))) := ⟨hB.perm, hB.kind, hB.failed, rfl⟩
  exact p_ma2 hB' rfl h0 z1.symm z2 z3 (by rw [show (arrOf st).size = a₀.size from hB.perm.size_eq]; lia) fun st' h => q _ st' h (by rw [ep]; exact z5)
end
noncomputable def sr1 (pw : Nat) : StateT SortSt Sem (ForInStep (Option Unit × Unit)) := do
  let g ← get
  match (if (pendingOf g).size > 1 then (pendingOf g)[(pendingOf g).size - 2]? else none) with
  | some (_, _, older) =>
    if older ≤ pw then pure (ForInStep.done (none, ())) else do
      let t ← mergeAt' ((pendingOf g).size - 2)
      if (!t) = true then pure (ForInStep.done (some (), ())) else pure (ForInStep.yield (none, ()))
  | _ => pure (ForInStep.done (none, ()))
noncomputable def sr2 (size lo n : Nat) : StateT SortSt Sem (ForInStep (Option Unit × Nat)) := do
  let g ← get
  match (pendingOf g).back? with
  | some (s1, n1, _) => do
    let t ← forIn [:size] ((none, ()) : Option Unit × Unit) fun _ _ => sr1 (power' size (2 * s1 + n1) (2 * s1 + n1 + n1 + n) size)
    match t.1 with
    | some r => pure (ForInStep.done (some r, lo))
    | none => do
      modify fun s => setPending s ((pendingOf s).modify ((pendingOf s).size - 1) fun x => (x.1, x.2.1, power' size (2 * s1 + n1) (2 * s1 + n1 + n1 + n) size))
      modify fun s => setPending s ((pendingOf s).push (lo, n, 0))
      pure (ForInStep.yield (none, lo + n))
  | _ => do
    modify fun s => setPending s ((pendingOf s).push (lo, n, 0))
    pure (ForInStep.yield (none, lo + n))
noncomputable def sr3 (size lo : Nat) : StateT SortSt Sem (ForInStep (Option Unit × Nat)) :=
  if lo ≥ size then pure (ForInStep.done (none, lo)) else do
    let __x ← countRun' lo (size - lo)
    match __x with
    | some n =>
      if n < minRun' size size 0 then do
        liftM (rule "list.sort.binary-insertion")
        let t ← binarySort' lo (min (size - lo) (minRun' size size 0)) n
        if (!t) = true then pure (ForInStep.done (some (), lo)) else sr2 size lo (min (size - lo) (minRun' size size 0))
      else sr2 size lo n
    | _ => pure (ForInStep.done (some (), lo))
noncomputable def ati (p : Pn) : Nat :=
  if ((if p.size - 2 > 0 then p[p.size - 2 - 1]?.map (·.2.1) else none).any (· < (p[p.size - 2 + 1]?.elim 0 (·.2.1)))) = true then p.size - 2 - 1 else p.size - 2
noncomputable def sr4 : StateT SortSt Sem (ForInStep (Option Unit × Unit)) := do
  let g ← get
  if (pendingOf g).size ≤ 1 then pure (ForInStep.done (none, ())) else do
    let t ← mergeAt' (ati (pendingOf g))
    if (!t) = true then pure (ForInStep.done (some (), ())) else pure (ForInStep.yield (none, ()))
theorem sortRuns_eq2 : sortRuns' = (do
  let g ← get
  let t ← forIn [:(arrOf g).size] ((none, 0) : Option Unit × Nat) fun _ t => sr3 (arrOf g).size t.2
  match t.1 with
  | some r => pure r
  | none => do
    let t ← forIn [:(arrOf g).size] ((none, ()) : Option Unit × Unit) fun _ _ => sr4
    match t.1 with
    | some r => pure r
    | none => pure ()) := by kernel_rfl!
section
variable {prog : Program} {w : World} {A : Around} {E : Value → Shared → Prop} {s : Shared} {a₀ : Array Keyed} {p : Pn} {st : SortSt}
noncomputable def Sp (a₀ : AK) (e : Nat) (st : SortSt) : Prop := SB a₀ (pendingOf st) st ∧ Runs 0 (pendingOf st).toList e
noncomputable def Se (a₀ : AK) (st : SortSt) : Prop := SB a₀ (pendingOf st) st
theorem SB.self (h : SB a₀ p st) : SB a₀ (pendingOf st) st := ⟨h.perm, h.kind, h.failed, rfl⟩
theorem p_mat {i e : Nat} {Q : Bool → SortSt → Prop} (h : Sp a₀ e st) (h0 : IntKeys a₀) (he : e ≤ a₀.size) (hi : i + 1 < (pendingOf st).size) (q : ∀ st', Sp a₀ e st' → Q true st') : wpS (model prog w) A E s (mergeAt' i) Q st :=
  p_mergeAt h.1 h0 h.2 he hi fun p' st' hB hr => q st' ⟨hB.self, hB.pend ▸ hr⟩
theorem p_sr1 {e pw : Nat} (h : Sp a₀ e st) (h0 : IntKeys a₀) (he : e ≤ a₀.size) : wpS (model prog w) A E s (sr1 pw) (Rg (fun _ => Sp a₀ e) (fun _ => Sp a₀ e) fun _ => Se a₀) st := by
  unfold sr1
  refine wpS_bind (wpS_get ?_)
  by_cases hz : (pendingOf st).size > 1
  · rw [if_pos hz]
    obtain ⟨⟨x, y, z⟩, ec⟩ : ∃ c, (pendingOf st)[(pendingOf st).size - 2]? = some c := ⟨_, getElem?_pos _ _ (by lia)⟩
    rw [ec]
    dsimp only
    by_cases ho : z ≤ pw
    · rw [if_pos ho]; exact wpS_pure h
    · rw [if_neg ho]
      exact wpS_bind (p_mat h h0 he (by lia) fun st' h' => wpS_pure h')
  · rw [if_neg hz]; exact wpS_pure h
theorem Sp.push {lo n : Nat} (h : Sp a₀ lo st) (hn : 1 ≤ n) : Sp a₀ (lo + n) (setPending st ((pendingOf st).push (lo, n, 0))) :=
  ⟨⟨h.1.perm, h.1.kind, h.1.failed, rfl⟩, by show Runs 0 ((pendingOf st).push (lo, n, 0)).toList _; rw [Array.toList_push]; exact h.2.push hn⟩
theorem p_sr2 {lo n : Nat} (h : Sp a₀ lo st) (h0 : IntKeys a₀) (hn : 1 ≤ n) (he : lo + n ≤ a₀.size) : wpS (model prog w) A E s (sr2 a₀.size lo n) (Rg (fun lo st' => lo ≤ a₀.size ∧ Sp a₀ lo st') (fun lo st' => lo ≤ a₀.size ∧ Sp a₀ lo st') fun _ => Se a₀) st := by
  unfold sr2
  refine wpS_bind (wpS_get ?_)
  cases hb : (pendingOf st).back? with
  | none => exact wpS_bind (wpS_modify (wpS_pure ⟨he, h.push hn⟩))
  | some c =>
    obtain ⟨s1, n1, z⟩ := c
    dsimp only
    refine wpS_bind (p_rng (Nat.zero_le _) (fun _ _ => Sp a₀ lo) (fun _ => Sp a₀ lo) (fun _ => Se a₀) (fun i c st' _ hI => p_sr1 hI h0 (Nat.le_trans (Nat.le_add_right ..) he)) h (fun _ _ h => h) (fun c st' hI => ?_) fun g c st' h => wpS_pure h)
    dsimp only
    refine wpS_bind (wpS_modify (wpS_bind (wpS_modify (wpS_pure ⟨he, Sp.push ⟨⟨hI.1.perm, hI.1.kind, hI.1.failed, rfl⟩, ?_⟩ hn⟩))))
    show Runs 0 ((pendingOf st').modify _ _).toList lo
    rw [Array.toList_modify]
    exact Runs.mod (f := fun x => (x.1, x.2.1, power' a₀.size (2 * s1 + n1) (2 * s1 + n1 + n1 + n) a₀.size)) (fun x => ⟨rfl, rfl⟩) hI.2
theorem p_sr3 {lo : Nat} (h : Sp a₀ lo st) (hl : lo ≤ a₀.size) (h0 : IntKeys a₀) : wpS (model prog w) A E s (sr3 a₀.size lo) (Rg (fun lo st' => lo ≤ a₀.size ∧ Sp a₀ lo st') (fun lo st' => lo ≤ a₀.size ∧ Sp a₀ lo st') fun _ => Se a₀) st := by
  unfold sr3
  by_cases hge : lo ≥ a₀.size
  · rw [if_pos hge]; exact wpS_pure ⟨hl, h⟩
  · rw [if_neg hge]
    refine wpS_bind (p_count h0 (by lia) (by lia) h.1 fun n st1 hB hn1 hn2 => ?_)
    dsimp only
    by_cases hlt : n < minRun' a₀.size a₀.size 0
    · rw [if_pos hlt]
      refine wpS_bind (wpS_lift (wpAny_rule ⟨rfl, ?_⟩))
      refine wpS_bind (p_binary h0 (by lia) hB (by lia) fun st2 hB2 => ?_)
      exact p_sr2 ⟨hB2.self, hB2.pend ▸ h.2⟩ h0 (by lia) (by lia)
    · rw [if_neg hlt]; exact p_sr2 ⟨hB.self, hB.pend ▸ h.2⟩ h0 hn1 (by lia)
theorem ati_lt {p : Pn} (h : ¬p.size ≤ 1) : ati p + 1 < p.size := by
  have z : ∀ {c : Prop} [Decidable c] {x y : Nat}, x + 1 < p.size → y + 1 < p.size → (if c then x else y) + 1 < p.size := fun {c} _ {x y} hx hy => by by_cases hc : c <;> simp only [hc, if_true, if_false] <;> assumption
  exact z (by lia) (by lia)
theorem p_sr4 {e : Nat} (h : Sp a₀ e st) (he : e ≤ a₀.size) (h0 : IntKeys a₀) : wpS (model prog w) A E s sr4 (Rg (fun _ => Se a₀) (fun _ => Sp a₀ e) fun _ => Se a₀) st := by
  unfold sr4
  refine wpS_bind (wpS_get ?_)
  by_cases hz : (pendingOf st).size ≤ 1
  · rw [if_pos hz]; exact wpS_pure h.1
  · rw [if_neg hz]
    exact wpS_bind (p_mat h h0 he (ati_lt hz) fun st' h' => wpS_pure h')
theorem p_sortRuns {Q : Unit → SortSt → Prop} (h0 : IntKeys a₀) (hB : SB a₀ #[] st) (q : ∀ st', Se a₀ st' → Q () st') : wpS (model prog w) A E s sortRuns' Q st := by
  rw [sortRuns_eq2]
  refine wpS_bind (wpS_get ?_)
  rw [show (arrOf st).size = a₀.size from hB.perm.size_eq]
  refine wpS_bind (p_rng (Nat.zero_le _) (fun _ lo st' => lo ≤ a₀.size ∧ Sp a₀ lo st') (fun lo st' => lo ≤ a₀.size ∧ Sp a₀ lo st') (fun _ => Se a₀) (fun i lo st' _ hI => p_sr3 hI.2 hI.1 h0) ⟨Nat.zero_le _, hB.self, by rw [hB.pend]; rfl⟩ (fun lo st' h => h) (fun lo st' hI => ?_) fun g c st' h => wpS_pure (q _ h))
  exact wpS_bind (p_rng (Nat.zero_le _) (fun _ _ => Sp a₀ lo) (fun _ => Se a₀) (fun _ => Se a₀) (fun i c st2 _ h2 => p_sr4 h2 hI.1 h0) hI.2 (fun _ _ h => h.1) (fun c st2 h2 => wpS_pure (q _ h2)) fun g c st2 h2 => wpS_pure (q _ h2))
end
end Srt
end
section
set_option tactic.hygienic false
namespace Srt
theorem out_of {vs : List Value} {ns : List Int} (hI : IntsAre vs ns) {xs : Array Keyed} (hp : xs.Perm (pairsOf vs)) : ∃ ns', IntsAre (xs.map (·.2)).toList ns' ∧ ns'.Perm ns := by
  have hl : xs.toList.Perm (vs.zip vs) := by rw [← pairsOf_toList]; exact Array.perm_iff_toList_perm.mp hp
  have hmem : ∀ p, p ∈ xs.toList → p.1 = p.2 ∧ p.1 ∈ vs := fun p hp' => mem_zip_self (hl.mem_iff.mp hp')
  refine ⟨xs.toList.map (fun p => numOf p.1), ?_, ?_⟩
  · have e : (xs.map (·.2)).toList = xs.toList.map (·.1) := by
      rw [Array.toList_map]; exact List.map_congr_left fun p hp' => (hmem p hp').1.symm
    rw [e]
    have h1 := intsAre_map (xs.toList.map (·.1)) (by
      intro v hv
      obtain ⟨p, hp', rfl⟩ := List.mem_map.mp hv
      exact hI.all _ (hmem p hp').2)
    rwa [List.map_map] at h1
  · have h1 := hl.map (fun p => numOf p.1)
    have e2 : (vs.zip vs).map (fun p => numOf p.1) = ns := by
      have : (vs.zip vs).map (fun p => numOf p.1) = ((vs.zip vs).map Prod.fst).map numOf := by rw [List.map_map]; rfl
      rw [this, List.map_fst_zip (Nat.le_refl _), hI.nums]
    rwa [e2] at h1
section
variable {prog : Program} {w : World} {A : Around} {E : Value → Shared → Prop} {s : Shared}
theorem sort_tree {a : Addr} {vs : List Value} {ns : List Int} {n : Nat} {P : Fin → Shared → Prop} (ho : s.heap.get? a = some (seqObj "list" vs.toArray n))
    (hI : IntsAre vs ns) (hlen : vs.length ≤ sizeLine)
    (h : ∀ (out : Array Value) (ns' : List Int), IntsAre out.toList ns' → ns'.Perm ns → P (.done (.ret .none)) { s with heap := sortedHeap s.heap a vs out }) :
    wpAny (model prog w) A (Builtin.«list.sort» ⟨[.ref a], []⟩) P E s := by
  rw [list_sort_plain]
  have ha : a < s.heap.objs.size := Heap.lt_size ho
  refine wpAny_bind (listItems_at ho rfl ?_)
  refine wpAny_bind (listUpdate_at ho rfl ?_)
  obtain ⟨e1, ho1⟩ : ∃ e1, (s.heap.update a (Obj.mapSeq fun _ => #[])).get? a = some (seqObj "list" #[] e1) := ⟨_, get?_update_seq ho (fun _ => #[])⟩
  refine wpAny_bind (seqEpoch_at ho1 rfl ?_)
  refine wpAny_bind (wpAny_newTuple ?_)
  refine wpAny_bind (wpAny_newList ?_)
  refine wpAny_holding ?_
  have ho6 : (((s.heap.update a (Obj.mapSeq fun _ => #[])).push (seqObj "tuple" vs.toArray 0)).push (seqObj "list" #[] 0)).get? a = some (seqObj "list" #[] e1) := by
    rw [Heap.get?_push_ne _ _ _ (by rw [size_push', Heap.size_update]; exact Nat.ne_of_lt (Nat.lt_succ_of_lt ha)), Heap.get?_push_ne _ _ _ (by rw [Heap.size_update]; exact Nat.ne_of_lt ha)]
    exact ho1
  show wpAny (model prog w) A _ P E { s with heap := ((s.heap.update a (Obj.mapSeq fun _ => #[])).push (seqObj "tuple" vs.toArray 0)).push (seqObj "list" #[] 0) }
  dsimp only
  have fin : ∀ st' : SortSt, (arrOf st').Perm (pairsOf vs) → P (.done (.ret .none)) { s with heap := sortedHeap s.heap a vs ((arrOf st').map (·.2)) } := by
    intro st' hp
    obtain ⟨ns', h1, h2⟩ := out_of hI hp
    exact h _ ns' h1 h2
  have hz : ∀ st' : SortSt, (arrOf st').Perm (pairsOf vs) → ((arrOf st').map (·.2)).size ≤ sizeLine + 1 := fun st' hp => by
    rw [Array.size_map, hp.size_eq, pairsOf_size]; exact Nat.le_succ_of_le hlen
  by_cases h2 : vs.toArray.size < 2
  · rw [if_pos h2, if_pos h2]
    refine wpAny_bind (wpAny_pure ?_)
    rw [StateT.run_pure]
    refine wpAny_bind (wpAny_pure ?_)
    dsimp only
    refine wpAny_bind (seqEpoch_at ho6 rfl ?_)
    refine wpAny_bind (listUpdate_at ho6 rfl ?_ (hsz2 := hz (SortSt.mk' general' (vs.toArray.zip vs.toArray) #[] 7 none) (Array.Perm.refl _)))
    simp only [bne_self_eq_false, Bool.false_eq_true, if_false]
    exact wpAny_pure (fin (SortSt.mk' general' (vs.toArray.zip vs.toArray) #[] 7 none) (Array.Perm.refl _))
  · rw [if_neg h2, if_neg h2]
    obtain ⟨v₁, v₂, rest, rfl⟩ : ∃ v₁ v₂ rest, vs = v₁ :: v₂ :: rest := by
      match vs, h2 with
      | [], h2 => simp at h2
      | [_], h2 => simp at h2
      | v₁ :: v₂ :: rest, _ => exact ⟨v₁, v₂, rest, rfl⟩
    rw [keyKind_ints hI]
    refine wpAny_bind (wpAny_pure ?_)
    refine wpAny_bind (wpAny_mono (p_sortRuns (a₀ := pairsOf (v₁ :: v₂ :: rest)) (st := SortSt.mk' oneType' ((v₁ :: v₂ :: rest).toArray.zip (v₁ :: v₂ :: rest).toArray) #[] 7 none)
      (Q := fun _ st' => (arrOf st').Perm (pairsOf (v₁ :: v₂ :: rest)) ∧ failedOf st' = none)
      hI.intKeys ⟨Array.Perm.refl _, rfl, rfl, rfl⟩ fun st' hS => ⟨hS.perm, hS.failed⟩) ?_ fun _ _ e => e)
    rintro ⟨⟨⟩, st'⟩ s' ⟨rfl, hp, hf⟩
    dsimp only
    refine wpAny_bind (seqEpoch_at ho6 rfl ?_)
    refine wpAny_bind (listUpdate_at ho6 rfl ?_ (hsz2 := hz st' hp))
    rw [hf]
    simp only [bne_self_eq_false, Bool.false_eq_true, if_false]
    exact wpAny_pure (fin st' hp)
theorem sorted_any {l : Addr} {vs : List Value} {ns : List Int} {Q : Value → Shared → Prop} (hl : s.heap.IsList l vs.toArray) (hI : IntsAre vs ns) (hlen : vs.length ≤ sizeLine)
    (h : ∀ (out : Array Value) (ns' : List Int), IntsAre out.toList ns' → ns'.Perm ns → Q (.ref (s.heap.objs.size + 1)) { s with heap := sortedAll s.heap vs out }) :
    wpAny (model prog w) A (call (.builtin "sorted") [.ref l]) Q E s := by
  refine Calls.call_function_entry kind_sorted plain_sorted entry_sorted (args_sorted1 _) ?_
  unfold Builtin.«sorted»
  refine wpAny_bind (m := checkCount "sorted" 1 1 _) (wpAny_pure ?_)
  refine wpAny_bind (collect_list hl ?_ hlen)
  refine wpAny_bind (wpAny_newList ?_)
  have hsz : ((s.heap.push (seqObj "list" #[] 0)).update s.heap.objs.size (Obj.mapSeq (· ++ vs.toArray))).objs.size = s.heap.objs.size + 1 := by
    rw [Heap.size_update, size_push']
  have hoL : (((s.heap.push (seqObj "list" #[] 0)).update s.heap.objs.size (Obj.mapSeq (· ++ vs.toArray))).push (seqObj "list" vs.toArray 0)).get? (s.heap.objs.size + 1) = some (seqObj "list" vs.toArray 0) := by
    rw [← hsz]; exact Heap.get?_push_size _ rfl
  show wpAny _ _ _ _ _ { s with heap := ((s.heap.push (seqObj "list" #[] 0)).update s.heap.objs.size (Obj.mapSeq (· ++ vs.toArray))).push (seqObj "list" vs.toArray 0) }
  rw [hsz]
  refine wpAny_bind (wpAny_holding (wpAny_call_entry slot_list_sort ⟨_, hoL, rfl⟩ entry_list_sort (sort_tree hoL hI hlen fun out ns' a1 a2 => ⟨_, rfl, ?_⟩) (args_list_sort _)))
  exact wpAny_pure ⟨_, rfl, h out ns' a1 a2⟩
end
end Srt
end
section
set_option tactic.hygienic false
namespace Mine
theorem ints_of {ρ : RefMap} {h : Heap} : ∀ {ns : List Int} {ws : List Value}, RepL ρ h ws (ns.map fun k => AV.d (.int k)) → IntsAre ws ns
  | [], _, r => by cases r; exact .nil
  | k :: ns, _, r => by
    cases r with
    | cons a b =>
      cases a with
      | d a => cases a; exact .cons _ _ (ints_of b)
theorem sortOk : SortOk := by
  intro c A s ρ L T v a vs ns Q R S G Z e q
  subst e
  refine e2a2 Z.at_ fun ws n h4 h5 => ?_
  refine Srt.sorted_any (vs := ws) (ns := ns) h4.isList (ints_of h5) (by rw [h5.length]; exact lid_fits Z.len) fun out ns' a1 a2 => ?_
  refine e1a1 (sortedAll_at s.heap ws out) fun e he => ?_
  exact newL_elim (s' := { s with heap := sortedAll s.heap ws out }) (ws := out.toList) G (ints_rep a1) rfl rfl (fun _ _ => sortedAll_old) (Nat.le_succ _) he (q ns' a2)
theorem the_law : PySem.Challenge.rw_no0193_01.Holds := all_of sortOk
end Mine
end
theorem PySem.Challenge.cw_no0193_01_holds : PySem.Challenge.rw_no0193_01.Holds :=
  Mine.the_law
