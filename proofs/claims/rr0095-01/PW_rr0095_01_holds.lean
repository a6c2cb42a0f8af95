import PyProof.Rows.All
import Wide.All
import OpenK.AllK
import Wide.FinOn
import PySem.Challenge.RW_rr0095_01
open PySem PySem.W PyProof.Rows PySem.Calls
set_option Elab.async false
set_option maxRecDepth 100000
set_option genSizeOfSpec false
set_option compiler.extract_closed false
namespace Mine
theorem an1 {p r : Prop} (h : p ∧ r := by assumption) : p := h.1
theorem an2 {a1 p r : Prop} (h : a1 ∧ p ∧ r := by assumption) : p := h.2.1
theorem an3 {a1 a2 p r : Prop} (h : a1 ∧ a2 ∧ p ∧ r := by assumption) : p := h.2.2.1
theorem an4 {a1 a2 a3 p r : Prop} (h : a1 ∧ a2 ∧ a3 ∧ p ∧ r := by assumption) : p := h.2.2.2.1
theorem an5 {a1 a2 a3 a4 p r : Prop} (h : a1 ∧ a2 ∧ a3 ∧ a4 ∧ p ∧ r := by assumption) : p := h.2.2.2.2.1
theorem an6 {a1 a2 a3 a4 a5 p r : Prop} (h : a1 ∧ a2 ∧ a3 ∧ a4 ∧ a5 ∧ p ∧ r := by assumption) : p := h.2.2.2.2.2.1
theorem an7 {a1 a2 a3 a4 a5 a6 p r : Prop} (h : a1 ∧ a2 ∧ a3 ∧ a4 ∧ a5 ∧ a6 ∧ p ∧ r := by assumption) : p := h.2.2.2.2.2.2.1
theorem an8 {a1 a2 a3 a4 a5 a6 a7 p r : Prop} (h : a1 ∧ a2 ∧ a3 ∧ a4 ∧ a5 ∧ a6 ∧ a7 ∧ p ∧ r := by assumption) : p := h.2.2.2.2.2.2.2.1
theorem an9 {a1 a2 a3 a4 a5 a6 a7 a8 p r : Prop} (h : a1 ∧ a2 ∧ a3 ∧ a4 ∧ a5 ∧ a6 ∧ a7 ∧ a8 ∧ p ∧ r := by assumption) : p := h.2.2.2.2.2.2.2.2.1
theorem an10 {a1 a2 a3 a4 a5 a6 a7 a8 a9 p r : Prop} (h : a1 ∧ a2 ∧ a3 ∧ a4 ∧ a5 ∧ a6 ∧ a7 ∧ a8 ∧ a9 ∧ p ∧ r := by assumption) : p := h.2.2.2.2.2.2.2.2.2.1
theorem an11 {a1 a2 a3 a4 a5 a6 a7 a8 a9 a10 p r : Prop} (h : a1 ∧ a2 ∧ a3 ∧ a4 ∧ a5 ∧ a6 ∧ a7 ∧ a8 ∧ a9 ∧ a10 ∧ p ∧ r := by assumption) : p := h.2.2.2.2.2.2.2.2.2.2.1
theorem an12 {a1 a2 a3 a4 a5 a6 a7 a8 a9 a10 a11 p r : Prop} (h : a1 ∧ a2 ∧ a3 ∧ a4 ∧ a5 ∧ a6 ∧ a7 ∧ a8 ∧ a9 ∧ a10 ∧ a11 ∧ p ∧ r := by assumption) : p := h.2.2.2.2.2.2.2.2.2.2.2.1
theorem an13 {a1 a2 a3 a4 a5 a6 a7 a8 a9 a10 a11 a12 p r : Prop} (h : a1 ∧ a2 ∧ a3 ∧ a4 ∧ a5 ∧ a6 ∧ a7 ∧ a8 ∧ a9 ∧ a10 ∧ a11 ∧ a12 ∧ p ∧ r := by assumption) : p := h.2.2.2.2.2.2.2.2.2.2.2.2.1
theorem room1 {n a c N : Nat} (h : n + c < N := by with_reducible assumption) (e : a ≤ c := by decide) : n + a < N := Nat.lt_of_le_of_lt (Nat.add_le_add_left e n) h
theorem room2 {n a b c N : Nat} (h : n + c < N := by with_reducible assumption) (e : a + b ≤ c := by decide) : n + a + b < N := by rw [Nat.add_assoc]; exact room1 h e
theorem room3 {n a b d c N : Nat} (h : n + c < N := by with_reducible assumption) (e : a + b + d ≤ c := by decide) : n + a + b + d < N := by rw [Nat.add_assoc n a b, Nat.add_assoc]; exact room1 h e
theorem room0 {n c N : Nat} (h : n + c < N := by with_reducible assumption) : n < N := Nat.lt_of_le_of_lt (Nat.le_add_right n c) h
theorem le_big {n c N : Nat} (h : n ≤ c := by with_reducible assumption) (e : c ≤ N := by decide) : n ≤ N := Nat.le_trans h e
theorem ne_sy {a b : Nat} (h : @Ne Nat b a := by assumption) : @Ne Nat a b := h.symm
def bindFr (l : List (Str × Value)) (y : Str) : Option Value := List.lookup y l
theorem tok_gen {α : Type} {M : Model} {A : Around} {Q : α → Shared → Prop} {E : Value → Shared → Prop} {s : Shared} {t : Sem α} {h : Heap} {k : Nat} (H : ∀ k, wpAny M A t Q E { s with heap := h, toks := k }) : wpAny M A t Q E { s with heap := h, toks := k } := H k
theorem inv_gen {α : Sort _} (a : α) {P : Prop} (h : ∀ x, x = a → P) : P := h a rfl
theorem of_inv {α β γ : Type} {J K : α → β → γ → Prop} (h : J = K) {a : α} {b : β} {c : γ} (p : K a b c) : J a b c := h ▸ p
theorem to_inv {α β γ : Type} {J K : α → β → γ → Prop} (h : J = K) {a : α} {b : β} {c : γ} (p : J a b c) : K a b c := h ▸ p
theorem of_inv2 {α β : Type} {J K : α → β → Prop} (h : J = K) {a : α} {b : β} (p : K a b) : J a b := h ▸ p
theorem to_inv2 {α β : Type} {J K : α → β → Prop} (h : J = K) {a : α} {b : β} (p : J a b) : K a b := h ▸ p
theorem of_inv4 {α β γ δ : Type} {J K : α → β → γ → δ → Prop} (h : J = K) {a : α} {b : β} {c : γ} {d : δ} (p : K a b c d) : J a b c d := h ▸ p
theorem to_inv4 {α β γ δ : Type} {J K : α → β → γ → δ → Prop} (h : J = K) {a : α} {b : β} {c : γ} {d : δ} (p : J a b c d) : K a b c d := h ▸ p
theorem abs_both {α : Type} {M : Model} {A : Around} {E : Value → Shared → Prop} {s : Shared} {t : Sem α} {P : α → Shared → Prop} (h : ∀ (T : α → Shared → Prop) (E' : Value → Shared → Prop), (∀ f s', P f s' → T f s') → wpAny M A t T E' s) : wpAny M A t P E s := h P E fun _ _ p => p
theorem abs_post {α : Type} {M : Model} {A : Around} {E : Value → Shared → Prop} {s : Shared} {t : Sem α} {P : α → Shared → Prop} (h : ∀ T : α → Shared → Prop, (∀ f s', P f s' → T f s') → wpAny M A t T E s) : wpAny M A t P E s := h P fun _ _ p => p
local macro_rules | `(tactic| k_all) => `(tactic| kst_allNe)
local macro_rules | `(tactic| k_room) => `(tactic| ktr_room)
local macro_rules | `(tactic| k_units) => `(tactic| ktr_units)
local macro_rules | `(tactic| kd_ltNe) => `(tactic| with_reducible assumption)
local macro_rules | `(tactic| kpa_ne) => `(tactic| (with_reducible first | assumption | exact ne_sy | (refine Nat.ne_of_gt ?_; kd_ltNe) | (refine Nat.ne_of_lt ?_; kd_ltNe) | kd_ltNe | exact Nat.le_refl _ | exact le_big | exact room1 | exact room2))
local macro_rules | `(tactic| k_ne) => `(tactic| (refine neN ?_; (try dsimp only); kpa_ne))
local macro_rules | `(tactic| ktr_room) => `(tactic| ((try simp only [depth_under_make, depth_under_kw, depth_in1, depth_deeper, depth_caller]); (try dsimp only [ktrTop]); first | decide | exact room0 (N := recursionLimit) | exact room1 (N := recursionLimit) | exact room2 (N := recursionLimit) | exact room3 (N := recursionLimit)))
local macro_rules | `(tactic| ktr_units) => `(tactic| ((try simp only [units_under_make, units_in1, units_deeper, Around.mark_units, units_caller]); (try dsimp only [ktrTop]); first | decide | exact room1 (N := cLine) | exact room2 (N := cLine) | exact room3 (N := cLine)))
section
local macro_rules | `(tactic| kd_ltNe) => `(tactic| (with_reducible first | assumption | exact an1 | exact an2 | exact an3 | exact an4 | exact an5 | exact an6 | exact an7 | exact an8 | exact an9 | exact an10 | exact an11 | exact an12 | exact an13))
section
open PySem PySem.W PyProof.Rows
def noSt : Stmt := .Pass { line := 0, col := 0, endLine := 0, endCol := 0 }
def stAt (i : Nat) : Stmt := PySem.Challenge.pw_rr0095_01.main.body.getD i noSt
def inOf : Stmt → Nat → Stmt
  | .ClassDef _ _ _ body _ _ _ _ _ _ _, j => body.getD j noSt
  | .FunctionDef _ _ body _ _ _ _ _ _ _, j => body.getD j noSt
  | s, _ => s
def argsOf : Stmt → Arguments
  | .FunctionDef _ args _ _ _ _ _ _ _ _ => args
  | _ => { posonlyargs := [], args := [], vararg := none, kwonlyargs := [], kw_defaults := [], kwarg := none, defaults := [] }
def bodyOf : Stmt → FuncBody
  | .FunctionDef _ _ body _ _ _ _ _ _ _ => .stmts body
  | _ => .stmts []
def scopeOf : Stmt → Scope
  | .FunctionDef _ _ _ _ _ _ scope _ _ _ => scope
  | _ => { kind := .function, names := [], isGenerator := false, isCoroutine := false }
noncomputable def K39 : Params → Frag :=
fun P =>
 (nat_lit 2, { cls := Value.none, data := Data.dict #[{ hash := PyData.keyHash P (Str.ofString "type.__subclasses__.Exception.0"), key := Value.str (Str.ofString "type.__subclasses__.Exception.0") 230, val := Value.int 47 0 }, { hash := PyData.keyHash P (Str.ofString "type.__subclasses__.Exception.n"), key := Value.str (Str.ofString "type.__subclasses__.Exception.n") 231, val := Value.int 1 0 }] 2 }) ::
 (nat_lit 3, { cls := Value.type "dict", data := Data.dict #[{ hash := PyData.keyHash P (Str.ofString "__name__"), key := Value.str (Str.ofString "__name__") 165, val := Value.str (Str.ofString "law_rr0095_01") 840 }, { hash := PyData.keyHash P (Str.ofString "__doc__"), key := Value.str (Str.ofString "__doc__") 166, val := Value.none }, { hash := PyData.keyHash P (Str.ofString "__package__"), key := Value.str (Str.ofString "__package__") 167, val := Value.none }, { hash := PyData.keyHash P (Str.ofString "__loader__"), key := Value.str (Str.ofString "__loader__") 168, val := Value.builtin "__main__.__loader__#opaque" }, { hash := PyData.keyHash P (Str.ofString "__spec__"), key := Value.str (Str.ofString "__spec__") 169, val := Value.none }, { hash := PyData.keyHash P (Str.ofString "__annotations__"), key := Value.str (Str.ofString "__annotations__") 170, val := Value.ref 6 }, { hash := PyData.keyHash P (Str.ofString "__builtins__"), key := Value.str (Str.ofString "__builtins__") 171, val := Value.ref 4 }, { hash := PyData.keyHash P (Str.ofString "__file__"), key := Value.str (Str.ofString "__file__") 173, val := Value.str (Str.ofString "/claim/cut.py") 172 }, { hash := PyData.keyHash P (Str.ofString "__cached__"), key := Value.str (Str.ofString "__cached__") 174, val := Value.none }, { hash := PyData.keyHash P (Str.ofString "_wall"), key := Value.str (Str.ofString "_wall") 193, val := Value.ref 21 }, { hash := PyData.keyHash P (Str.ofString "FinderError"), key := Value.str (Str.ofString "FinderError") 233, val := Value.ref 47 }, { hash := PyData.keyHash P (Str.ofString "SpotFault"), key := Value.str (Str.ofString "SpotFault") 268, val := Value.ref 76 }, { hash := PyData.keyHash P (Str.ofString "KindFault"), key := Value.str (Str.ofString "KindFault") 284, val := Value.ref 88 }, { hash := PyData.keyHash P (Str.ofString "LimitFault"), key := Value.str (Str.ofString "LimitFault") 300, val := Value.ref 100 }, { hash := PyData.keyHash P (Str.ofString "ORDERING"), key := Value.str (Str.ofString "ORDERING") 304, val := Value.str (Str.ofString "util/ordering") 303 }, { hash := PyData.keyHash P (Str.ofString "Signatures"), key := Value.str (Str.ofString "Signatures") 529, val := Value.ref 269 }, { hash := PyData.keyHash P (Str.ofString "MOST_COLUMNS"), key := Value.str (Str.ofString "MOST_COLUMNS") 533, val := Value.int 300 532 }, { hash := PyData.keyHash P (Str.ofString "Columns"), key := Value.str (Str.ofString "Columns") 690, val := Value.ref 396 }, { hash := PyData.keyHash P (Str.ofString "NameKinds"), key := Value.str (Str.ofString "NameKinds") 839, val := Value.ref 513 }, { hash := PyData.keyHash P (Str.ofString "_law_aliases"), key := Value.str (Str.ofString "_law_aliases") 847, val := Value.ref 516 }, { hash := PyData.keyHash P (Str.ofString "_law_words"), key := Value.str (Str.ofString "_law_words") 859, val := Value.ref 517 }, { hash := PyData.keyHash P (Str.ofString "_law_draw"), key := Value.str (Str.ofString "_law_draw") 868, val := Value.ref 524 }, { hash := PyData.keyHash P (Str.ofString "_law_sigs"), key := Value.str (Str.ofString "_law_sigs") 877, val := Value.ref 531 }, { hash := PyData.keyHash P (Str.ofString "_law_open"), key := Value.str (Str.ofString "_law_open") 889, val := Value.ref 538 }, { hash := PyData.keyHash P (Str.ofString "_law_row"), key := Value.str (Str.ofString "_law_row") 896, val := Value.ref 545 }, { hash := PyData.keyHash P (Str.ofString "_law_is_taken"), key := Value.str (Str.ofString "_law_is_taken") 902, val := Value.ref 550 }, { hash := PyData.keyHash P (Str.ofString "_law_meant"), key := Value.str (Str.ofString "_law_meant") 908, val := Value.ref 555 }, { hash := PyData.keyHash P (Str.ofString "_law_heard"), key := Value.str (Str.ofString "_law_heard") 917, val := Value.ref 562 }, { hash := PyData.keyHash P (Str.ofString "_law_is_model_right"), key := Value.str (Str.ofString "_law_is_model_right") 934, val := Value.ref 569 }, { hash := PyData.keyHash P (Str.ofString "law"), key := Value.str (Str.ofString "law") 940, val := Value.ref 574 }] 30 }) ::
 (nat_lit 15, { cls := Value.type "tuple", data := Data.seq #[] }) ::
 (nat_lit 17, { cls := Value.type "tuple", data := Data.seq #[Value.str (Str.ofString "k") 190] }) ::
 (nat_lit 18, { cls := Value.type "tuple", data := Data.seq #[] }) ::
 (nat_lit 20, { cls := Value.type "code", data := Data.fields #[Value.str (Str.ofString "_wall") 187, Value.str (Str.ofString "_wall") 188, Value.str (Str.ofString "/claim/cut.py") 189, Value.int 1 0, Value.int 1 0, Value.int 0 0, Value.int 0 0, Value.int 3 0, Value.ref 15, Value.bool true, Value.int 181 0, Value.ref 16, Value.none, Value.ref 17, Value.ref 18, Value.ref 19, Value.int 191 0, Value.int 1 0, Value.str (Str.ofString "/claim/cut.py") 192] }) ::
 (nat_lit 21, { cls := Value.type "function", data := Data.func { name := Str.ofString "_wall", qualname := Str.ofString "_wall", params := argsOf (stAt 0), body := bodyOf (stAt 0), scope := scopeOf (stAt 0), globals := 3, closure := [], defaults := Value.none, kwdefaults := Value.none, pyModule := Value.str (Str.ofString "__main__") 164, code := Value.ref 20 } }) ::
 (nat_lit 22, { cls := Value.type "tuple", data := Data.seq #[Value.type "Exception"] }) ::
 (nat_lit 25, { cls := Value.type "cell", data := Data.cell (some (Value.ref 47)) }) ::
 (nat_lit 30, { cls := Value.type "tuple", data := Data.seq #[Value.ref 25] }) ::
 (nat_lit 31, { cls := Value.type "tuple", data := Data.seq #[Value.str (Str.ofString "__class__") 211] }) ::
 (nat_lit 33, { cls := Value.type "tuple", data := Data.seq #[Value.str (Str.ofString "self") 212, Value.str (Str.ofString "what") 213] }) ::
 (nat_lit 34, { cls := Value.type "tuple", data := Data.seq #[] }) ::
 (nat_lit 36, { cls := Value.type "code", data := Data.fields #[Value.str (Str.ofString "__init__") 208, Value.str (Str.ofString "FinderError.__init__") 209, Value.str (Str.ofString "/claim/cut.py") 210, Value.int 7 0, Value.int 2 0, Value.int 0 0, Value.int 0 0, Value.int 3 0, Value.ref 31, Value.bool true, Value.int 181 0, Value.ref 32, Value.none, Value.ref 33, Value.ref 34, Value.ref 35, Value.int 214 0, Value.int 7 0, Value.str (Str.ofString "/claim/cut.py") 215] }) ::
 (nat_lit 37, { cls := Value.type "function", data := Data.func { name := Str.ofString "__init__", qualname := Str.ofString "FinderError.__init__", params := argsOf (inOf (stAt 2) 0), body := bodyOf (inOf (stAt 2) 0), scope := scopeOf (inOf (stAt 2) 0), globals := 3, closure := [(Str.ofString "__class__", 25)], defaults := Value.none, kwdefaults := Value.none, pyModule := Value.str (Str.ofString "relfinder.errors") 194, code := Value.ref 36, closureTuple := Value.ref 30 } }) ::
 (nat_lit 38, { cls := Value.type "tuple", data := Data.seq #[] }) ::
 (nat_lit 40, { cls := Value.type "tuple", data := Data.seq #[Value.str (Str.ofString "self") 220] }) ::
 (nat_lit 41, { cls := Value.type "tuple", data := Data.seq #[] }) ::
 (nat_lit 43, { cls := Value.type "code", data := Data.fields #[Value.str (Str.ofString "told") 217, Value.str (Str.ofString "FinderError.told") 218, Value.str (Str.ofString "/claim/cut.py") 219, Value.int 11 0, Value.int 1 0, Value.int 0 0, Value.int 0 0, Value.int 3 0, Value.ref 38, Value.bool true, Value.int 181 0, Value.ref 39, Value.none, Value.ref 40, Value.ref 41, Value.ref 42, Value.int 221 0, Value.int 11 0, Value.str (Str.ofString "/claim/cut.py") 222] }) ::
 (nat_lit 44, { cls := Value.type "function", data := Data.func { name := Str.ofString "told", qualname := Str.ofString "FinderError.told", params := argsOf (inOf (stAt 2) 1), body := bodyOf (inOf (stAt 2) 1), scope := scopeOf (inOf (stAt 2) 1), globals := 3, closure := [], defaults := Value.none, kwdefaults := Value.none, pyModule := Value.str (Str.ofString "relfinder.errors") 194, code := Value.ref 43 } }) ::
 (nat_lit 45, { cls := Value.type "tuple", data := Data.seq #[Value.str (Str.ofString "what") 224] }) ::
 (nat_lit 46, { cls := Value.type "dict", data := Data.dict #[{ hash := PyData.keyHash P (Str.ofString "__module__"), key := Value.str (Str.ofString "__module__") 203, val := Value.str (Str.ofString "relfinder.errors") 194 }, { hash := PyData.keyHash P (Str.ofString "__firstlineno__"), key := Value.str (Str.ofString "__firstlineno__") 207, val := Value.int 5 206 }, { hash := PyData.keyHash P (Str.ofString "__init__"), key := Value.str (Str.ofString "__init__") 216, val := Value.ref 37 }, { hash := PyData.keyHash P (Str.ofString "told"), key := Value.str (Str.ofString "told") 223, val := Value.ref 44 }, { hash := PyData.keyHash P (Str.ofString "__static_attributes__"), key := Value.str (Str.ofString "__static_attributes__") 225, val := Value.ref 45 }, { hash := PyData.keyHash P (Str.ofString "__weakref__"), key := Value.str (Str.ofString "__weakref__") 228, val := Value.ref 48 }, { hash := PyData.keyHash P (Str.ofString "__doc__"), key := Value.str (Str.ofString "__doc__") 229, val := Value.none }] 4 }) ::
 (nat_lit 47, { cls := Value.type "type", data := Data.cls { name := Str.ofString "FinderError", bases := [Value.type "Exception"], mro := [Value.ref 47, Value.type "Exception", Value.type "BaseException", Value.type "object"], ns := 46, qualname := Str.ofString "FinderError", subclasses := [Value.ref 76, Value.ref 100] }, slots := #[some (Value.ref 22), none, some (Value.str (Str.ofString "FinderError") 196), some (Value.str (Str.ofString "FinderError") 204), some (Value.builtin "Exception.__new__"), some (Value.bool true)] }) ::
 (nat_lit 48, { cls := Value.type "getset_descriptor", data := Data.fields #[Value.str (Str.ofString "__weakref__") 227, Value.ref 47, Value.builtin "ExceptionGroup.__weakref__", Value.none] }) ::
 (nat_lit 51, { cls := Value.type "tuple", data := Data.seq #[Value.ref 47] }) ::
 (nat_lit 54, { cls := Value.type "cell", data := Data.cell (some (Value.ref 76)) }) ::
 (nat_lit 59, { cls := Value.type "tuple", data := Data.seq #[Value.ref 54] }) ::
 (nat_lit 60, { cls := Value.type "tuple", data := Data.seq #[Value.str (Str.ofString "__class__") 249] }) ::
 (nat_lit 62, { cls := Value.type "tuple", data := Data.seq #[Value.str (Str.ofString "self") 250, Value.str (Str.ofString "what") 251, Value.str (Str.ofString "spot") 252] }) ::
 (nat_lit 63, { cls := Value.type "tuple", data := Data.seq #[] }) ::
 (nat_lit 65, { cls := Value.type "code", data := Data.fields #[Value.str (Str.ofString "__init__") 246, Value.str (Str.ofString "SpotFault.__init__") 247, Value.str (Str.ofString "/claim/cut.py") 248, Value.int 15 0, Value.int 3 0, Value.int 0 0, Value.int 0 0, Value.int 3 0, Value.ref 60, Value.bool true, Value.int 181 0, Value.ref 61, Value.none, Value.ref 62, Value.ref 63, Value.ref 64, Value.int 253 0, Value.int 15 0, Value.str (Str.ofString "/claim/cut.py") 254] }) ::
 (nat_lit 66, { cls := Value.type "function", data := Data.func { name := Str.ofString "__init__", qualname := Str.ofString "SpotFault.__init__", params := argsOf (inOf (stAt 3) 0), body := bodyOf (inOf (stAt 3) 0), scope := scopeOf (inOf (stAt 3) 0), globals := 3, closure := [(Str.ofString "__class__", 54)], defaults := Value.none, kwdefaults := Value.none, pyModule := Value.str (Str.ofString "relfinder.errors") 194, code := Value.ref 65, closureTuple := Value.ref 59 } }) ::
 (nat_lit 67, { cls := Value.type "tuple", data := Data.seq #[] }) ::
 (nat_lit 69, { cls := Value.type "tuple", data := Data.seq #[Value.str (Str.ofString "self") 259] }) ::
 (nat_lit 70, { cls := Value.type "tuple", data := Data.seq #[] }) ::
 (nat_lit 72, { cls := Value.type "code", data := Data.fields #[Value.str (Str.ofString "told") 256, Value.str (Str.ofString "SpotFault.told") 257, Value.str (Str.ofString "/claim/cut.py") 258, Value.int 19 0, Value.int 1 0, Value.int 0 0, Value.int 0 0, Value.int 3 0, Value.ref 67, Value.bool true, Value.int 181 0, Value.ref 68, Value.none, Value.ref 69, Value.ref 70, Value.ref 71, Value.int 260 0, Value.int 19 0, Value.str (Str.ofString "/claim/cut.py") 261] }) ::
 (nat_lit 73, { cls := Value.type "function", data := Data.func { name := Str.ofString "told", qualname := Str.ofString "SpotFault.told", params := argsOf (inOf (stAt 3) 1), body := bodyOf (inOf (stAt 3) 1), scope := scopeOf (inOf (stAt 3) 1), globals := 3, closure := [], defaults := Value.none, kwdefaults := Value.none, pyModule := Value.str (Str.ofString "relfinder.errors") 194, code := Value.ref 72 } }) ::
 (nat_lit 74, { cls := Value.type "tuple", data := Data.seq #[Value.str (Str.ofString "spot") 263] }) ::
 (nat_lit 75, { cls := Value.type "dict", data := Data.dict #[{ hash := PyData.keyHash P (Str.ofString "__module__"), key := Value.str (Str.ofString "__module__") 241, val := Value.str (Str.ofString "relfinder.errors") 194 }, { hash := PyData.keyHash P (Str.ofString "__firstlineno__"), key := Value.str (Str.ofString "__firstlineno__") 245, val := Value.int 13 244 }, { hash := PyData.keyHash P (Str.ofString "__init__"), key := Value.str (Str.ofString "__init__") 255, val := Value.ref 66 }, { hash := PyData.keyHash P (Str.ofString "told"), key := Value.str (Str.ofString "told") 262, val := Value.ref 73 }, { hash := PyData.keyHash P (Str.ofString "__static_attributes__"), key := Value.str (Str.ofString "__static_attributes__") 264, val := Value.ref 74 }, { hash := PyData.keyHash P (Str.ofString "__doc__"), key := Value.str (Str.ofString "__doc__") 266, val := Value.none }] 3 }) ::
 (nat_lit 76, { cls := Value.type "type", data := Data.cls { name := Str.ofString "SpotFault", bases := [Value.ref 47], mro := [Value.ref 76, Value.ref 47, Value.type "Exception", Value.type "BaseException", Value.type "object"], ns := 75, qualname := Str.ofString "SpotFault", subclasses := [Value.ref 88] }, slots := #[some (Value.ref 51), none, some (Value.str (Str.ofString "SpotFault") 234), some (Value.str (Str.ofString "SpotFault") 242), some (Value.builtin "Exception.__new__"), some (Value.bool true)] }) ::
 (nat_lit 79, { cls := Value.type "tuple", data := Data.seq #[Value.ref 76] }) ::
 (nat_lit 86, { cls := Value.type "tuple", data := Data.seq #[] }) ::
 (nat_lit 87, { cls := Value.type "dict", data := Data.dict #[{ hash := PyData.keyHash P (Str.ofString "__module__"), key := Value.str (Str.ofString "__module__") 276, val := Value.str (Str.ofString "relfinder.errors") 194 }, { hash := PyData.keyHash P (Str.ofString "__firstlineno__"), key := Value.str (Str.ofString "__firstlineno__") 280, val := Value.int 21 279 }, { hash := PyData.keyHash P (Str.ofString "__static_attributes__"), key := Value.str (Str.ofString "__static_attributes__") 281, val := Value.ref 86 }, { hash := PyData.keyHash P (Str.ofString "__doc__"), key := Value.str (Str.ofString "__doc__") 282, val := Value.none }] 2 }) ::
 (nat_lit 88, { cls := Value.type "type", data := Data.cls { name := Str.ofString "KindFault", bases := [Value.ref 76], mro := [Value.ref 88, Value.ref 76, Value.ref 47, Value.type "Exception", Value.type "BaseException", Value.type "object"], ns := 87, qualname := Str.ofString "KindFault" }, slots := #[some (Value.ref 79), none, some (Value.str (Str.ofString "KindFault") 269), some (Value.str (Str.ofString "KindFault") 277), some (Value.builtin "Exception.__new__"), some (Value.bool true)] }) ::
 (nat_lit 91, { cls := Value.type "tuple", data := Data.seq #[Value.ref 47] }) ::
 (nat_lit 98, { cls := Value.type "tuple", data := Data.seq #[] }) ::
 (nat_lit 99, { cls := Value.type "dict", data := Data.dict #[{ hash := PyData.keyHash P (Str.ofString "__module__"), key := Value.str (Str.ofString "__module__") 292, val := Value.str (Str.ofString "relfinder.errors") 194 }, { hash := PyData.keyHash P (Str.ofString "__firstlineno__"), key := Value.str (Str.ofString "__firstlineno__") 296, val := Value.int 23 295 }, { hash := PyData.keyHash P (Str.ofString "__static_attributes__"), key := Value.str (Str.ofString "__static_attributes__") 297, val := Value.ref 98 }, { hash := PyData.keyHash P (Str.ofString "__doc__"), key := Value.str (Str.ofString "__doc__") 298, val := Value.none }] 2 }) ::
 (nat_lit 100, { cls := Value.type "type", data := Data.cls { name := Str.ofString "LimitFault", bases := [Value.ref 47], mro := [Value.ref 100, Value.ref 47, Value.type "Exception", Value.type "BaseException", Value.type "object"], ns := 99, qualname := Str.ofString "LimitFault" }, slots := #[some (Value.ref 91), none, some (Value.str (Str.ofString "LimitFault") 285), some (Value.str (Str.ofString "LimitFault") 293), some (Value.builtin "Exception.__new__"), some (Value.bool true)] }) ::
 (nat_lit 110, { cls := Value.type "tuple", data := Data.seq #[] }) ::
 (nat_lit 112, { cls := Value.type "tuple", data := Data.seq #[Value.str (Str.ofString "self") 320, Value.str (Str.ofString "items") 321, Value.str (Str.ofString "item") 322, Value.str (Str.ofString "name") 323] }) ::
 (nat_lit 113, { cls := Value.type "tuple", data := Data.seq #[] }) ::
 (nat_lit 115, { cls := Value.type "code", data := Data.fields #[Value.str (Str.ofString "__init__") 317, Value.str (Str.ofString "Signatures.__init__") 318, Value.str (Str.ofString "/claim/cut.py") 319, Value.int 29 0, Value.int 2 0, Value.int 0 0, Value.int 0 0, Value.int 3 0, Value.ref 110, Value.bool true, Value.int 181 0, Value.ref 111, Value.none, Value.ref 112, Value.ref 113, Value.ref 114, Value.int 324 0, Value.int 29 0, Value.str (Str.ofString "/claim/cut.py") 325] }) ::
 (nat_lit 116, { cls := Value.type "function", data := Data.func { name := Str.ofString "__init__", qualname := Str.ofString "Signatures.__init__", params := argsOf (inOf (stAt 8) 0), body := bodyOf (inOf (stAt 8) 0), scope := scopeOf (inOf (stAt 8) 0), globals := 3, closure := [], defaults := Value.none, kwdefaults := Value.none, pyModule := Value.str (Str.ofString "relfinder.sigs") 301, code := Value.ref 115 } }) ::
 (nat_lit 117, { cls := Value.type "tuple", data := Data.seq #[] }) ::
 (nat_lit 119, { cls := Value.type "tuple", data := Data.seq #[Value.str (Str.ofString "self") 330, Value.str (Str.ofString "item") 331, Value.str (Str.ofString "name") 332] }) ::
 (nat_lit 120, { cls := Value.type "tuple", data := Data.seq #[] }) ::
 (nat_lit 122, { cls := Value.type "code", data := Data.fields #[Value.str (Str.ofString "take_sig") 327, Value.str (Str.ofString "Signatures.take_sig") 328, Value.str (Str.ofString "/claim/cut.py") 329, Value.int 45 0, Value.int 2 0, Value.int 0 0, Value.int 0 0, Value.int 3 0, Value.ref 117, Value.bool true, Value.int 181 0, Value.ref 118, Value.none, Value.ref 119, Value.ref 120, Value.ref 121, Value.int 333 0, Value.int 45 0, Value.str (Str.ofString "/claim/cut.py") 334] }) ::
 (nat_lit 123, { cls := Value.type "function", data := Data.func { name := Str.ofString "take_sig", qualname := Str.ofString "Signatures.take_sig", params := argsOf (inOf (stAt 8) 1), body := bodyOf (inOf (stAt 8) 1), scope := scopeOf (inOf (stAt 8) 1), globals := 3, closure := [], defaults := Value.none, kwdefaults := Value.none, pyModule := Value.str (Str.ofString "relfinder.sigs") 301, code := Value.ref 122 } }) ::
 (nat_lit 124, { cls := Value.type "tuple", data := Data.seq #[] }) ::
 (nat_lit 126, { cls := Value.type "tuple", data := Data.seq #[Value.str (Str.ofString "self") 339, Value.str (Str.ofString "name") 340, Value.str (Str.ofString "other") 341] }) ::
 (nat_lit 127, { cls := Value.type "tuple", data := Data.seq #[] }) ::
 (nat_lit 129, { cls := Value.type "code", data := Data.fields #[Value.str (Str.ofString "look_above") 336, Value.str (Str.ofString "Signatures.look_above") 337, Value.str (Str.ofString "/claim/cut.py") 338, Value.int 54 0, Value.int 2 0, Value.int 0 0, Value.int 0 0, Value.int 3 0, Value.ref 124, Value.bool true, Value.int 181 0, Value.ref 125, Value.none, Value.ref 126, Value.ref 127, Value.ref 128, Value.int 342 0, Value.int 54 0, Value.str (Str.ofString "/claim/cut.py") 343] }) ::
 (nat_lit 130, { cls := Value.type "function", data := Data.func { name := Str.ofString "look_above", qualname := Str.ofString "Signatures.look_above", params := argsOf (inOf (stAt 8) 2), body := bodyOf (inOf (stAt 8) 2), scope := scopeOf (inOf (stAt 8) 2), globals := 3, closure := [], defaults := Value.none, kwdefaults := Value.none, pyModule := Value.str (Str.ofString "relfinder.sigs") 301, code := Value.ref 129 } }) ::
 (nat_lit 131, { cls := Value.type "tuple", data := Data.seq #[] }) ::
 (nat_lit 133, { cls := Value.type "tuple", data := Data.seq #[Value.str (Str.ofString "self") 348, Value.str (Str.ofString "name") 349] }) ::
 (nat_lit 134, { cls := Value.type "tuple", data := Data.seq #[] }) ::
 (nat_lit 136, { cls := Value.type "code", data := Data.fields #[Value.str (Str.ofString "direct") 345, Value.str (Str.ofString "Signatures.direct") 346, Value.str (Str.ofString "/claim/cut.py") 347, Value.int 61 0, Value.int 2 0, Value.int 0 0, Value.int 0 0, Value.int 3 0, Value.ref 131, Value.bool true, Value.int 181 0, Value.ref 132, Value.none, Value.ref 133, Value.ref 134, Value.ref 135, Value.int 350 0, Value.int 61 0, Value.str (Str.ofString "/claim/cut.py") 351] }) ::
 (nat_lit 137, { cls := Value.type "function", data := Data.func { name := Str.ofString "direct", qualname := Str.ofString "Signatures.direct", params := argsOf (inOf (stAt 8) 3), body := bodyOf (inOf (stAt 8) 3), scope := scopeOf (inOf (stAt 8) 3), globals := 3, closure := [], defaults := Value.none, kwdefaults := Value.none, pyModule := Value.str (Str.ofString "relfinder.sigs") 301, code := Value.ref 136 } }) ::
 (nat_lit 138, { cls := Value.type "tuple", data := Data.seq #[] }) ::
 (nat_lit 141, { cls := Value.type "code", data := Data.fields #[Value.str (Str.ofString "parents_first") 353, Value.str (Str.ofString "Signatures.parents_first") 354, Value.str (Str.ofString "/claim/cut.py") 355, Value.int 64 0, Value.int 1 0, Value.int 0 0, Value.int 0 0, Value.int 3 0, Value.ref 138, Value.bool true, Value.int 181 0, Value.ref 139, Value.none, Value.none, Value.none, Value.ref 140, Value.int 356 0, Value.int 64 0, Value.str (Str.ofString "/claim/cut.py") 357] }) ::
 (nat_lit 142, { cls := Value.type "function", data := Data.func { name := Str.ofString "parents_first", qualname := Str.ofString "Signatures.parents_first", params := argsOf (inOf (stAt 8) 4), body := bodyOf (inOf (stAt 8) 4), scope := scopeOf (inOf (stAt 8) 4), globals := 3, closure := [], defaults := Value.none, kwdefaults := Value.none, pyModule := Value.str (Str.ofString "relfinder.sigs") 301, code := Value.ref 141 } }) ::
 (nat_lit 143, { cls := Value.type "tuple", data := Data.seq #[] }) ::
 (nat_lit 145, { cls := Value.type "tuple", data := Data.seq #[Value.str (Str.ofString "self") 362, Value.str (Str.ofString "found") 363, Value.str (Str.ofString "group") 364, Value.str (Str.ofString "name") 365, Value.str (Str.ofString "spot") 366, Value.str (Str.ofString "is_disj") 367, Value.str (Str.ofString "fields") 368, Value.str (Str.ofString "mult") 369, Value.str (Str.ofString "node") 370, Value.str (Str.ofString "field") 371] }) ::
 (nat_lit 146, { cls := Value.type "tuple", data := Data.seq #[] }) ::
 (nat_lit 148, { cls := Value.type "code", data := Data.fields #[Value.str (Str.ofString "all_fields") 359, Value.str (Str.ofString "Signatures.all_fields") 360, Value.str (Str.ofString "/claim/cut.py") 361, Value.int 74 0, Value.int 1 0, Value.int 0 0, Value.int 0 0, Value.int 3 0, Value.ref 143, Value.bool true, Value.int 181 0, Value.ref 144, Value.none, Value.ref 145, Value.ref 146, Value.ref 147, Value.int 372 0, Value.int 74 0, Value.str (Str.ofString "/claim/cut.py") 373] }) ::
 (nat_lit 149, { cls := Value.type "function", data := Data.func { name := Str.ofString "all_fields", qualname := Str.ofString "Signatures.all_fields", params := argsOf (inOf (stAt 8) 5), body := bodyOf (inOf (stAt 8) 5), scope := scopeOf (inOf (stAt 8) 5), globals := 3, closure := [], defaults := Value.none, kwdefaults := Value.none, pyModule := Value.str (Str.ofString "relfinder.sigs") 301, code := Value.ref 148 } }) ::
 (nat_lit 150, { cls := Value.type "tuple", data := Data.seq #[] }) ::
 (nat_lit 152, { cls := Value.type "tuple", data := Data.seq #[Value.str (Str.ofString "self") 378, Value.str (Str.ofString "seen") 379, Value.str (Str.ofString "field") 380, Value.str (Str.ofString "name") 381, Value.str (Str.ofString "mult") 382, Value.str (Str.ofString "node") 383, Value.str (Str.ofString "spot") 384, Value.str (Str.ofString "group") 385, Value.str (Str.ofString "other") 386] }) ::
 (nat_lit 153, { cls := Value.type "tuple", data := Data.seq #[] }) ::
 (nat_lit 155, { cls := Value.type "code", data := Data.fields #[Value.str (Str.ofString "look_fields") 375, Value.str (Str.ofString "Signatures.look_fields") 376, Value.str (Str.ofString "/claim/cut.py") 377, Value.int 83 0, Value.int 1 0, Value.int 0 0, Value.int 0 0, Value.int 3 0, Value.ref 150, Value.bool true, Value.int 181 0, Value.ref 151, Value.none, Value.ref 152, Value.ref 153, Value.ref 154, Value.int 387 0, Value.int 83 0, Value.str (Str.ofString "/claim/cut.py") 388] }) ::
 (nat_lit 156, { cls := Value.type "function", data := Data.func { name := Str.ofString "look_fields", qualname := Str.ofString "Signatures.look_fields", params := argsOf (inOf (stAt 8) 6), body := bodyOf (inOf (stAt 8) 6), scope := scopeOf (inOf (stAt 8) 6), globals := 3, closure := [], defaults := Value.none, kwdefaults := Value.none, pyModule := Value.str (Str.ofString "relfinder.sigs") 301, code := Value.ref 155 } }) ::
 (nat_lit 157, { cls := Value.type "tuple", data := Data.seq #[] }) ::
 (nat_lit 160, { cls := Value.type "code", data := Data.fields #[Value.str (Str.ofString "take_order") 390, Value.str (Str.ofString "Signatures.take_order") 391, Value.str (Str.ofString "/claim/cut.py") 392, Value.int 93 0, Value.int 2 0, Value.int 0 0, Value.int 0 0, Value.int 3 0, Value.ref 157, Value.bool true, Value.int 181 0, Value.ref 158, Value.none, Value.none, Value.none, Value.ref 159, Value.int 393 0, Value.int 93 0, Value.str (Str.ofString "/claim/cut.py") 394] }) ::
 (nat_lit 161, { cls := Value.type "function", data := Data.func { name := Str.ofString "take_order", qualname := Str.ofString "Signatures.take_order", params := argsOf (inOf (stAt 8) 7), body := bodyOf (inOf (stAt 8) 7), scope := scopeOf (inOf (stAt 8) 7), globals := 3, closure := [], defaults := Value.none, kwdefaults := Value.none, pyModule := Value.str (Str.ofString "relfinder.sigs") 301, code := Value.ref 160 } }) ::
 (nat_lit 162, { cls := Value.type "tuple", data := Data.seq #[] }) ::
 (nat_lit 164, { cls := Value.type "tuple", data := Data.seq #[Value.str (Str.ofString "self") 399] }) ::
 (nat_lit 165, { cls := Value.type "tuple", data := Data.seq #[] }) ::
 (nat_lit 167, { cls := Value.type "code", data := Data.fields #[Value.str (Str.ofString "names") 396, Value.str (Str.ofString "Signatures.names") 397, Value.str (Str.ofString "/claim/cut.py") 398, Value.int 104 0, Value.int 1 0, Value.int 0 0, Value.int 0 0, Value.int 3 0, Value.ref 162, Value.bool true, Value.int 181 0, Value.ref 163, Value.none, Value.ref 164, Value.ref 165, Value.ref 166, Value.int 400 0, Value.int 104 0, Value.str (Str.ofString "/claim/cut.py") 401] }) ::
 (nat_lit 168, { cls := Value.type "function", data := Data.func { name := Str.ofString "names", qualname := Str.ofString "Signatures.names", params := argsOf (inOf (stAt 8) 8), body := bodyOf (inOf (stAt 8) 8), scope := scopeOf (inOf (stAt 8) 8), globals := 3, closure := [], defaults := Value.none, kwdefaults := Value.none, pyModule := Value.str (Str.ofString "relfinder.sigs") 301, code := Value.ref 167 } }) ::
 (nat_lit 169, { cls := Value.type "tuple", data := Data.seq #[] }) ::
 (nat_lit 171, { cls := Value.type "tuple", data := Data.seq #[Value.str (Str.ofString "self") 406, Value.str (Str.ofString "name") 407] }) ::
 (nat_lit 172, { cls := Value.type "tuple", data := Data.seq #[] }) ::
 (nat_lit 174, { cls := Value.type "code", data := Data.fields #[Value.str (Str.ofString "has") 403, Value.str (Str.ofString "Signatures.has") 404, Value.str (Str.ofString "/claim/cut.py") 405, Value.int 107 0, Value.int 2 0, Value.int 0 0, Value.int 0 0, Value.int 3 0, Value.ref 169, Value.bool true, Value.int 181 0, Value.ref 170, Value.none, Value.ref 171, Value.ref 172, Value.ref 173, Value.int 408 0, Value.int 107 0, Value.str (Str.ofString "/claim/cut.py") 409] }) ::
 (nat_lit 175, { cls := Value.type "function", data := Data.func { name := Str.ofString "has", qualname := Str.ofString "Signatures.has", params := argsOf (inOf (stAt 8) 9), body := bodyOf (inOf (stAt 8) 9), scope := scopeOf (inOf (stAt 8) 9), globals := 3, closure := [], defaults := Value.none, kwdefaults := Value.none, pyModule := Value.str (Str.ofString "relfinder.sigs") 301, code := Value.ref 174 } }) ::
 (nat_lit 176, { cls := Value.type "tuple", data := Data.seq #[] }) ::
 (nat_lit 178, { cls := Value.type "tuple", data := Data.seq #[Value.str (Str.ofString "self") 414, Value.str (Str.ofString "name") 415] }) ::
 (nat_lit 179, { cls := Value.type "tuple", data := Data.seq #[] }) ::
 (nat_lit 181, { cls := Value.type "code", data := Data.fields #[Value.str (Str.ofString "spot") 411, Value.str (Str.ofString "Signatures.spot") 412, Value.str (Str.ofString "/claim/cut.py") 413, Value.int 110 0, Value.int 2 0, Value.int 0 0, Value.int 0 0, Value.int 3 0, Value.ref 176, Value.bool true, Value.int 181 0, Value.ref 177, Value.none, Value.ref 178, Value.ref 179, Value.ref 180, Value.int 416 0, Value.int 110 0, Value.str (Str.ofString "/claim/cut.py") 417] }) ::
 (nat_lit 182, { cls := Value.type "function", data := Data.func { name := Str.ofString "spot", qualname := Str.ofString "Signatures.spot", params := argsOf (inOf (stAt 8) 10), body := bodyOf (inOf (stAt 8) 10), scope := scopeOf (inOf (stAt 8) 10), globals := 3, closure := [], defaults := Value.none, kwdefaults := Value.none, pyModule := Value.str (Str.ofString "relfinder.sigs") 301, code := Value.ref 181 } }) ::
 (nat_lit 183, { cls := Value.type "tuple", data := Data.seq #[] }) ::
 (nat_lit 185, { cls := Value.type "tuple", data := Data.seq #[Value.str (Str.ofString "self") 422, Value.str (Str.ofString "name") 423] }) ::
 (nat_lit 186, { cls := Value.type "tuple", data := Data.seq #[] }) ::
 (nat_lit 188, { cls := Value.type "code", data := Data.fields #[Value.str (Str.ofString "parent") 419, Value.str (Str.ofString "Signatures.parent") 420, Value.str (Str.ofString "/claim/cut.py") 421, Value.int 113 0, Value.int 2 0, Value.int 0 0, Value.int 0 0, Value.int 3 0, Value.ref 183, Value.bool true, Value.int 181 0, Value.ref 184, Value.none, Value.ref 185, Value.ref 186, Value.ref 187, Value.int 424 0, Value.int 113 0, Value.str (Str.ofString "/claim/cut.py") 425] }) ::
 (nat_lit 189, { cls := Value.type "function", data := Data.func { name := Str.ofString "parent", qualname := Str.ofString "Signatures.parent", params := argsOf (inOf (stAt 8) 11), body := bodyOf (inOf (stAt 8) 11), scope := scopeOf (inOf (stAt 8) 11), globals := 3, closure := [], defaults := Value.none, kwdefaults := Value.none, pyModule := Value.str (Str.ofString "relfinder.sigs") 301, code := Value.ref 188 } }) ::
 (nat_lit 190, { cls := Value.type "tuple", data := Data.seq #[] }) ::
 (nat_lit 192, { cls := Value.type "tuple", data := Data.seq #[Value.str (Str.ofString "self") 430, Value.str (Str.ofString "name") 431] }) ::
 (nat_lit 193, { cls := Value.type "tuple", data := Data.seq #[] }) ::
 (nat_lit 195, { cls := Value.type "code", data := Data.fields #[Value.str (Str.ofString "supers") 427, Value.str (Str.ofString "Signatures.supers") 428, Value.str (Str.ofString "/claim/cut.py") 429, Value.int 116 0, Value.int 2 0, Value.int 0 0, Value.int 0 0, Value.int 3 0, Value.ref 190, Value.bool true, Value.int 181 0, Value.ref 191, Value.none, Value.ref 192, Value.ref 193, Value.ref 194, Value.int 432 0, Value.int 116 0, Value.str (Str.ofString "/claim/cut.py") 433] }) ::
 (nat_lit 196, { cls := Value.type "function", data := Data.func { name := Str.ofString "supers", qualname := Str.ofString "Signatures.supers", params := argsOf (inOf (stAt 8) 12), body := bodyOf (inOf (stAt 8) 12), scope := scopeOf (inOf (stAt 8) 12), globals := 3, closure := [], defaults := Value.none, kwdefaults := Value.none, pyModule := Value.str (Str.ofString "relfinder.sigs") 301, code := Value.ref 195 } }) ::
 (nat_lit 197, { cls := Value.type "tuple", data := Data.seq #[] }) ::
 (nat_lit 199, { cls := Value.type "tuple", data := Data.seq #[Value.str (Str.ofString "self") 438, Value.str (Str.ofString "name") 439] }) ::
 (nat_lit 200, { cls := Value.type "tuple", data := Data.seq #[] }) ::
 (nat_lit 202, { cls := Value.type "code", data := Data.fields #[Value.str (Str.ofString "is_subset") 435, Value.str (Str.ofString "Signatures.is_subset") 436, Value.str (Str.ofString "/claim/cut.py") 437, Value.int 119 0, Value.int 2 0, Value.int 0 0, Value.int 0 0, Value.int 3 0, Value.ref 197, Value.bool true, Value.int 181 0, Value.ref 198, Value.none, Value.ref 199, Value.ref 200, Value.ref 201, Value.int 440 0, Value.int 119 0, Value.str (Str.ofString "/claim/cut.py") 441] }) ::
 (nat_lit 203, { cls := Value.type "function", data := Data.func { name := Str.ofString "is_subset", qualname := Str.ofString "Signatures.is_subset", params := argsOf (inOf (stAt 8) 13), body := bodyOf (inOf (stAt 8) 13), scope := scopeOf (inOf (stAt 8) 13), globals := 3, closure := [], defaults := Value.none, kwdefaults := Value.none, pyModule := Value.str (Str.ofString "relfinder.sigs") 301, code := Value.ref 202 } }) ::
 (nat_lit 204, { cls := Value.type "tuple", data := Data.seq #[] }) ::
 (nat_lit 206, { cls := Value.type "tuple", data := Data.seq #[Value.str (Str.ofString "self") 446, Value.str (Str.ofString "name") 447] }) ::
 (nat_lit 207, { cls := Value.type "tuple", data := Data.seq #[] }) ::
 (nat_lit 209, { cls := Value.type "code", data := Data.fields #[Value.str (Str.ofString "children") 443, Value.str (Str.ofString "Signatures.children") 444, Value.str (Str.ofString "/claim/cut.py") 445, Value.int 122 0, Value.int 2 0, Value.int 0 0, Value.int 0 0, Value.int 3 0, Value.ref 204, Value.bool true, Value.int 181 0, Value.ref 205, Value.none, Value.ref 206, Value.ref 207, Value.ref 208, Value.int 448 0, Value.int 122 0, Value.str (Str.ofString "/claim/cut.py") 449] }) ::
 (nat_lit 210, { cls := Value.type "function", data := Data.func { name := Str.ofString "children", qualname := Str.ofString "Signatures.children", params := argsOf (inOf (stAt 8) 14), body := bodyOf (inOf (stAt 8) 14), scope := scopeOf (inOf (stAt 8) 14), globals := 3, closure := [], defaults := Value.none, kwdefaults := Value.none, pyModule := Value.str (Str.ofString "relfinder.sigs") 301, code := Value.ref 209 } }) ::
 (nat_lit 211, { cls := Value.type "tuple", data := Data.seq #[] }) ::
 (nat_lit 213, { cls := Value.type "tuple", data := Data.seq #[Value.str (Str.ofString "self") 454, Value.str (Str.ofString "name") 455, Value.str (Str.ofString "found") 456] }) ::
 (nat_lit 214, { cls := Value.type "tuple", data := Data.seq #[] }) ::
 (nat_lit 216, { cls := Value.type "code", data := Data.fields #[Value.str (Str.ofString "above") 451, Value.str (Str.ofString "Signatures.above") 452, Value.str (Str.ofString "/claim/cut.py") 453, Value.int 125 0, Value.int 2 0, Value.int 0 0, Value.int 0 0, Value.int 3 0, Value.ref 211, Value.bool true, Value.int 181 0, Value.ref 212, Value.none, Value.ref 213, Value.ref 214, Value.ref 215, Value.int 457 0, Value.int 125 0, Value.str (Str.ofString "/claim/cut.py") 458] }) ::
 (nat_lit 217, { cls := Value.type "function", data := Data.func { name := Str.ofString "above", qualname := Str.ofString "Signatures.above", params := argsOf (inOf (stAt 8) 15), body := bodyOf (inOf (stAt 8) 15), scope := scopeOf (inOf (stAt 8) 15), globals := 3, closure := [], defaults := Value.none, kwdefaults := Value.none, pyModule := Value.str (Str.ofString "relfinder.sigs") 301, code := Value.ref 216 } }) ::
 (nat_lit 218, { cls := Value.type "tuple", data := Data.seq #[] }) ::
 (nat_lit 220, { cls := Value.type "tuple", data := Data.seq #[Value.str (Str.ofString "self") 463, Value.str (Str.ofString "name") 464] }) ::
 (nat_lit 221, { cls := Value.type "tuple", data := Data.seq #[] }) ::
 (nat_lit 223, { cls := Value.type "code", data := Data.fields #[Value.str (Str.ofString "top") 460, Value.str (Str.ofString "Signatures.top") 461, Value.str (Str.ofString "/claim/cut.py") 462, Value.int 132 0, Value.int 2 0, Value.int 0 0, Value.int 0 0, Value.int 3 0, Value.ref 218, Value.bool true, Value.int 181 0, Value.ref 219, Value.none, Value.ref 220, Value.ref 221, Value.ref 222, Value.int 465 0, Value.int 132 0, Value.str (Str.ofString "/claim/cut.py") 466] }) ::
 (nat_lit 224, { cls := Value.type "function", data := Data.func { name := Str.ofString "top", qualname := Str.ofString "Signatures.top", params := argsOf (inOf (stAt 8) 16), body := bodyOf (inOf (stAt 8) 16), scope := scopeOf (inOf (stAt 8) 16), globals := 3, closure := [], defaults := Value.none, kwdefaults := Value.none, pyModule := Value.str (Str.ofString "relfinder.sigs") 301, code := Value.ref 223 } }) ::
 (nat_lit 225, { cls := Value.type "tuple", data := Data.seq #[] }) ::
 (nat_lit 227, { cls := Value.type "tuple", data := Data.seq #[Value.str (Str.ofString "self") 471, Value.str (Str.ofString "name") 472, Value.str (Str.ofString "found") 473, Value.str (Str.ofString "waiting") 474, Value.str (Str.ofString "other") 475] }) ::
 (nat_lit 228, { cls := Value.type "tuple", data := Data.seq #[] }) ::
 (nat_lit 230, { cls := Value.type "code", data := Data.fields #[Value.str (Str.ofString "all_above") 468, Value.str (Str.ofString "Signatures.all_above") 469, Value.str (Str.ofString "/claim/cut.py") 470, Value.int 135 0, Value.int 2 0, Value.int 0 0, Value.int 0 0, Value.int 3 0, Value.ref 225, Value.bool true, Value.int 181 0, Value.ref 226, Value.none, Value.ref 227, Value.ref 228, Value.ref 229, Value.int 476 0, Value.int 135 0, Value.str (Str.ofString "/claim/cut.py") 477] }) ::
 (nat_lit 231, { cls := Value.type "function", data := Data.func { name := Str.ofString "all_above", qualname := Str.ofString "Signatures.all_above", params := argsOf (inOf (stAt 8) 17), body := bodyOf (inOf (stAt 8) 17), scope := scopeOf (inOf (stAt 8) 17), globals := 3, closure := [], defaults := Value.none, kwdefaults := Value.none, pyModule := Value.str (Str.ofString "relfinder.sigs") 301, code := Value.ref 230 } }) ::
 (nat_lit 232, { cls := Value.type "tuple", data := Data.seq #[] }) ::
 (nat_lit 234, { cls := Value.type "tuple", data := Data.seq #[Value.str (Str.ofString "self") 482, Value.str (Str.ofString "name") 483] }) ::
 (nat_lit 235, { cls := Value.type "tuple", data := Data.seq #[] }) ::
 (nat_lit 237, { cls := Value.type "code", data := Data.fields #[Value.str (Str.ofString "is_abstract") 479, Value.str (Str.ofString "Signatures.is_abstract") 480, Value.str (Str.ofString "/claim/cut.py") 481, Value.int 144 0, Value.int 2 0, Value.int 0 0, Value.int 0 0, Value.int 3 0, Value.ref 232, Value.bool true, Value.int 181 0, Value.ref 233, Value.none, Value.ref 234, Value.ref 235, Value.ref 236, Value.int 484 0, Value.int 144 0, Value.str (Str.ofString "/claim/cut.py") 485] }) ::
 (nat_lit 238, { cls := Value.type "function", data := Data.func { name := Str.ofString "is_abstract", qualname := Str.ofString "Signatures.is_abstract", params := argsOf (inOf (stAt 8) 18), body := bodyOf (inOf (stAt 8) 18), scope := scopeOf (inOf (stAt 8) 18), globals := 3, closure := [], defaults := Value.none, kwdefaults := Value.none, pyModule := Value.str (Str.ofString "relfinder.sigs") 301, code := Value.ref 237 } }) ::
 (nat_lit 239, { cls := Value.type "tuple", data := Data.seq #[] }) ::
 (nat_lit 241, { cls := Value.type "tuple", data := Data.seq #[Value.str (Str.ofString "self") 490, Value.str (Str.ofString "name") 491] }) ::
 (nat_lit 242, { cls := Value.type "tuple", data := Data.seq #[] }) ::
 (nat_lit 244, { cls := Value.type "code", data := Data.fields #[Value.str (Str.ofString "mult") 487, Value.str (Str.ofString "Signatures.mult") 488, Value.str (Str.ofString "/claim/cut.py") 489, Value.int 147 0, Value.int 2 0, Value.int 0 0, Value.int 0 0, Value.int 3 0, Value.ref 239, Value.bool true, Value.int 181 0, Value.ref 240, Value.none, Value.ref 241, Value.ref 242, Value.ref 243, Value.int 492 0, Value.int 147 0, Value.str (Str.ofString "/claim/cut.py") 493] }) ::
 (nat_lit 245, { cls := Value.type "function", data := Data.func { name := Str.ofString "mult", qualname := Str.ofString "Signatures.mult", params := argsOf (inOf (stAt 8) 19), body := bodyOf (inOf (stAt 8) 19), scope := scopeOf (inOf (stAt 8) 19), globals := 3, closure := [], defaults := Value.none, kwdefaults := Value.none, pyModule := Value.str (Str.ofString "relfinder.sigs") 301, code := Value.ref 244 } }) ::
 (nat_lit 246, { cls := Value.type "tuple", data := Data.seq #[] }) ::
 (nat_lit 248, { cls := Value.type "tuple", data := Data.seq #[Value.str (Str.ofString "self") 498] }) ::
 (nat_lit 249, { cls := Value.type "tuple", data := Data.seq #[] }) ::
 (nat_lit 251, { cls := Value.type "code", data := Data.fields #[Value.str (Str.ofString "fields") 495, Value.str (Str.ofString "Signatures.fields") 496, Value.str (Str.ofString "/claim/cut.py") 497, Value.int 150 0, Value.int 1 0, Value.int 0 0, Value.int 0 0, Value.int 3 0, Value.ref 246, Value.bool true, Value.int 181 0, Value.ref 247, Value.none, Value.ref 248, Value.ref 249, Value.ref 250, Value.int 499 0, Value.int 150 0, Value.str (Str.ofString "/claim/cut.py") 500] }) ::
 (nat_lit 252, { cls := Value.type "function", data := Data.func { name := Str.ofString "fields", qualname := Str.ofString "Signatures.fields", params := argsOf (inOf (stAt 8) 20), body := bodyOf (inOf (stAt 8) 20), scope := scopeOf (inOf (stAt 8) 20), globals := 3, closure := [], defaults := Value.none, kwdefaults := Value.none, pyModule := Value.str (Str.ofString "relfinder.sigs") 301, code := Value.ref 251 } }) ::
 (nat_lit 253, { cls := Value.type "tuple", data := Data.seq #[] }) ::
 (nat_lit 255, { cls := Value.type "tuple", data := Data.seq #[Value.str (Str.ofString "self") 505, Value.str (Str.ofString "name") 506] }) ::
 (nat_lit 256, { cls := Value.type "tuple", data := Data.seq #[] }) ::
 (nat_lit 258, { cls := Value.type "code", data := Data.fields #[Value.str (Str.ofString "facts") 502, Value.str (Str.ofString "Signatures.facts") 503, Value.str (Str.ofString "/claim/cut.py") 504, Value.int 153 0, Value.int 2 0, Value.int 0 0, Value.int 0 0, Value.int 3 0, Value.ref 253, Value.bool true, Value.int 181 0, Value.ref 254, Value.none, Value.ref 255, Value.ref 256, Value.ref 257, Value.int 507 0, Value.int 153 0, Value.str (Str.ofString "/claim/cut.py") 508] }) ::
 (nat_lit 259, { cls := Value.type "function", data := Data.func { name := Str.ofString "facts", qualname := Str.ofString "Signatures.facts", params := argsOf (inOf (stAt 8) 21), body := bodyOf (inOf (stAt 8) 21), scope := scopeOf (inOf (stAt 8) 21), globals := 3, closure := [], defaults := Value.none, kwdefaults := Value.none, pyModule := Value.str (Str.ofString "relfinder.sigs") 301, code := Value.ref 258 } }) ::
 (nat_lit 260, { cls := Value.type "tuple", data := Data.seq #[] }) ::
 (nat_lit 262, { cls := Value.type "tuple", data := Data.seq #[Value.str (Str.ofString "self") 513] }) ::
 (nat_lit 263, { cls := Value.type "tuple", data := Data.seq #[] }) ::
 (nat_lit 265, { cls := Value.type "code", data := Data.fields #[Value.str (Str.ofString "orders") 510, Value.str (Str.ofString "Signatures.orders") 511, Value.str (Str.ofString "/claim/cut.py") 512, Value.int 156 0, Value.int 1 0, Value.int 0 0, Value.int 0 0, Value.int 3 0, Value.ref 260, Value.bool true, Value.int 181 0, Value.ref 261, Value.none, Value.ref 262, Value.ref 263, Value.ref 264, Value.int 514 0, Value.int 156 0, Value.str (Str.ofString "/claim/cut.py") 515] }) ::
 (nat_lit 266, { cls := Value.type "function", data := Data.func { name := Str.ofString "orders", qualname := Str.ofString "Signatures.orders", params := argsOf (inOf (stAt 8) 22), body := bodyOf (inOf (stAt 8) 22), scope := scopeOf (inOf (stAt 8) 22), globals := 3, closure := [], defaults := Value.none, kwdefaults := Value.none, pyModule := Value.str (Str.ofString "relfinder.sigs") 301, code := Value.ref 265 } }) ::
 (nat_lit 267, { cls := Value.type "tuple", data := Data.seq #[Value.str (Str.ofString "entries") 517, Value.str (Str.ofString "opened") 518, Value.str (Str.ofString "ordered") 519, Value.str (Str.ofString "own_fields") 520, Value.str (Str.ofString "stands") 521] }) ::
 (nat_lit 268, { cls := Value.type "dict", data := Data.dict #[{ hash := PyData.keyHash P (Str.ofString "__module__"), key := Value.str (Str.ofString "__module__") 312, val := Value.str (Str.ofString "relfinder.sigs") 301 }, { hash := PyData.keyHash P (Str.ofString "__firstlineno__"), key := Value.str (Str.ofString "__firstlineno__") 316, val := Value.int 27 315 }, { hash := PyData.keyHash P (Str.ofString "__init__"), key := Value.str (Str.ofString "__init__") 326, val := Value.ref 116 }, { hash := PyData.keyHash P (Str.ofString "take_sig"), key := Value.str (Str.ofString "take_sig") 335, val := Value.ref 123 }, { hash := PyData.keyHash P (Str.ofString "look_above"), key := Value.str (Str.ofString "look_above") 344, val := Value.ref 130 }, { hash := PyData.keyHash P (Str.ofString "direct"), key := Value.str (Str.ofString "direct") 352, val := Value.ref 137 }, { hash := PyData.keyHash P (Str.ofString "parents_first"), key := Value.str (Str.ofString "parents_first") 358, val := Value.ref 142 }, { hash := PyData.keyHash P (Str.ofString "all_fields"), key := Value.str (Str.ofString "all_fields") 374, val := Value.ref 149 }, { hash := PyData.keyHash P (Str.ofString "look_fields"), key := Value.str (Str.ofString "look_fields") 389, val := Value.ref 156 }, { hash := PyData.keyHash P (Str.ofString "take_order"), key := Value.str (Str.ofString "take_order") 395, val := Value.ref 161 }, { hash := PyData.keyHash P (Str.ofString "names"), key := Value.str (Str.ofString "names") 402, val := Value.ref 168 }, { hash := PyData.keyHash P (Str.ofString "has"), key := Value.str (Str.ofString "has") 410, val := Value.ref 175 }, { hash := PyData.keyHash P (Str.ofString "spot"), key := Value.str (Str.ofString "spot") 418, val := Value.ref 182 }, { hash := PyData.keyHash P (Str.ofString "parent"), key := Value.str (Str.ofString "parent") 426, val := Value.ref 189 }, { hash := PyData.keyHash P (Str.ofString "supers"), key := Value.str (Str.ofString "supers") 434, val := Value.ref 196 }, { hash := PyData.keyHash P (Str.ofString "is_subset"), key := Value.str (Str.ofString "is_subset") 442, val := Value.ref 203 }, { hash := PyData.keyHash P (Str.ofString "children"), key := Value.str (Str.ofString "children") 450, val := Value.ref 210 }, { hash := PyData.keyHash P (Str.ofString "above"), key := Value.str (Str.ofString "above") 459, val := Value.ref 217 }, { hash := PyData.keyHash P (Str.ofString "top"), key := Value.str (Str.ofString "top") 467, val := Value.ref 224 }, { hash := PyData.keyHash P (Str.ofString "all_above"), key := Value.str (Str.ofString "all_above") 478, val := Value.ref 231 }, { hash := PyData.keyHash P (Str.ofString "is_abstract"), key := Value.str (Str.ofString "is_abstract") 486, val := Value.ref 238 }, { hash := PyData.keyHash P (Str.ofString "mult"), key := Value.str (Str.ofString "mult") 494, val := Value.ref 245 }, { hash := PyData.keyHash P (Str.ofString "fields"), key := Value.str (Str.ofString "fields") 501, val := Value.ref 252 }, { hash := PyData.keyHash P (Str.ofString "facts"), key := Value.str (Str.ofString "facts") 509, val := Value.ref 259 }, { hash := PyData.keyHash P (Str.ofString "orders"), key := Value.str (Str.ofString "orders") 516, val := Value.ref 266 }, { hash := PyData.keyHash P (Str.ofString "__static_attributes__"), key := Value.str (Str.ofString "__static_attributes__") 522, val := Value.ref 267 }, { hash := PyData.keyHash P (Str.ofString "__dict__"), key := Value.str (Str.ofString "__dict__") 524, val := Value.ref 270 }, { hash := PyData.keyHash P (Str.ofString "__weakref__"), key := Value.str (Str.ofString "__weakref__") 526, val := Value.ref 271 }, { hash := PyData.keyHash P (Str.ofString "__doc__"), key := Value.str (Str.ofString "__doc__") 527, val := Value.none }] 4 }) ::
 (nat_lit 269, { cls := Value.type "type", data := Data.cls { name := Str.ofString "Signatures", bases := [Value.type "object"], mro := [Value.ref 269, Value.type "object"], ns := 268, qualname := Str.ofString "Signatures" }, slots := #[none, none, some (Value.str (Str.ofString "Signatures") 305), some (Value.str (Str.ofString "Signatures") 313), some (Value.builtin "object.__new__"), some (Value.bool true)] }) ::
 (nat_lit 270, { cls := Value.type "getset_descriptor", data := Data.fields #[Value.str (Str.ofString "__dict__") 523, Value.ref 269, Value.builtin "function.__dict__", Value.builtin "function.__dict__#set"] }) ::
 (nat_lit 271, { cls := Value.type "getset_descriptor", data := Data.fields #[Value.str (Str.ofString "__weakref__") 525, Value.ref 269, Value.builtin "ExceptionGroup.__weakref__", Value.none] }) ::
 (nat_lit 281, { cls := Value.type "tuple", data := Data.seq #[] }) ::
 (nat_lit 283, { cls := Value.type "tuple", data := Data.seq #[Value.str (Str.ofString "self") 549, Value.str (Str.ofString "signatures") 550] }) ::
 (nat_lit 284, { cls := Value.type "tuple", data := Data.seq #[] }) ::
 (nat_lit 286, { cls := Value.type "code", data := Data.fields #[Value.str (Str.ofString "__init__") 546, Value.str (Str.ofString "Columns.__init__") 547, Value.str (Str.ofString "/claim/cut.py") 548, Value.int 162 0, Value.int 2 0, Value.int 0 0, Value.int 0 0, Value.int 3 0, Value.ref 281, Value.bool true, Value.int 181 0, Value.ref 282, Value.none, Value.ref 283, Value.ref 284, Value.ref 285, Value.int 551 0, Value.int 162 0, Value.str (Str.ofString "/claim/cut.py") 552] }) ::
 (nat_lit 287, { cls := Value.type "function", data := Data.func { name := Str.ofString "__init__", qualname := Str.ofString "Columns.__init__", params := argsOf (inOf (stAt 11) 0), body := bodyOf (inOf (stAt 11) 0), scope := scopeOf (inOf (stAt 11) 0), globals := 3, closure := [], defaults := Value.none, kwdefaults := Value.none, pyModule := Value.str (Str.ofString "relfinder.kinds") 530, code := Value.ref 286 } }) ::
 (nat_lit 288, { cls := Value.type "tuple", data := Data.seq #[] }) ::
 (nat_lit 290, { cls := Value.type "tuple", data := Data.seq #[Value.str (Str.ofString "self") 557, Value.str (Str.ofString "one") 558, Value.str (Str.ofString "other") 559] }) ::
 (nat_lit 291, { cls := Value.type "tuple", data := Data.seq #[] }) ::
 (nat_lit 293, { cls := Value.type "code", data := Data.fields #[Value.str (Str.ofString "is_under") 554, Value.str (Str.ofString "Columns.is_under") 555, Value.str (Str.ofString "/claim/cut.py") 556, Value.int 166 0, Value.int 3 0, Value.int 0 0, Value.int 0 0, Value.int 3 0, Value.ref 288, Value.bool true, Value.int 181 0, Value.ref 289, Value.none, Value.ref 290, Value.ref 291, Value.ref 292, Value.int 560 0, Value.int 166 0, Value.str (Str.ofString "/claim/cut.py") 561] }) ::
 (nat_lit 294, { cls := Value.type "function", data := Data.func { name := Str.ofString "is_under", qualname := Str.ofString "Columns.is_under", params := argsOf (inOf (stAt 11) 1), body := bodyOf (inOf (stAt 11) 1), scope := scopeOf (inOf (stAt 11) 1), globals := 3, closure := [], defaults := Value.none, kwdefaults := Value.none, pyModule := Value.str (Str.ofString "relfinder.kinds") 530, code := Value.ref 293 } }) ::
 (nat_lit 295, { cls := Value.type "tuple", data := Data.seq #[] }) ::
 (nat_lit 297, { cls := Value.type "tuple", data := Data.seq #[Value.str (Str.ofString "self") 566, Value.str (Str.ofString "one") 567, Value.str (Str.ofString "other") 568] }) ::
 (nat_lit 298, { cls := Value.type "tuple", data := Data.seq #[] }) ::
 (nat_lit 300, { cls := Value.type "code", data := Data.fields #[Value.str (Str.ofString "narrower") 563, Value.str (Str.ofString "Columns.narrower") 564, Value.str (Str.ofString "/claim/cut.py") 565, Value.int 169 0, Value.int 3 0, Value.int 0 0, Value.int 0 0, Value.int 3 0, Value.ref 295, Value.bool true, Value.int 181 0, Value.ref 296, Value.none, Value.ref 297, Value.ref 298, Value.ref 299, Value.int 569 0, Value.int 169 0, Value.str (Str.ofString "/claim/cut.py") 570] }) ::
 (nat_lit 301, { cls := Value.type "function", data := Data.func { name := Str.ofString "narrower", qualname := Str.ofString "Columns.narrower", params := argsOf (inOf (stAt 11) 2), body := bodyOf (inOf (stAt 11) 2), scope := scopeOf (inOf (stAt 11) 2), globals := 3, closure := [], defaults := Value.none, kwdefaults := Value.none, pyModule := Value.str (Str.ofString "relfinder.kinds") 530, code := Value.ref 300 } }) ::
 (nat_lit 302, { cls := Value.type "tuple", data := Data.seq #[] }) ::
 (nat_lit 305, { cls := Value.type "code", data := Data.fields #[Value.str (Str.ofString "common") 572, Value.str (Str.ofString "Columns.common") 573, Value.str (Str.ofString "/claim/cut.py") 574, Value.int 174 0, Value.int 3 0, Value.int 0 0, Value.int 0 0, Value.int 3 0, Value.ref 302, Value.bool true, Value.int 181 0, Value.ref 303, Value.none, Value.none, Value.none, Value.ref 304, Value.int 575 0, Value.int 174 0, Value.str (Str.ofString "/claim/cut.py") 576] }) ::
 (nat_lit 306, { cls := Value.type "function", data := Data.func { name := Str.ofString "common", qualname := Str.ofString "Columns.common", params := argsOf (inOf (stAt 11) 3), body := bodyOf (inOf (stAt 11) 3), scope := scopeOf (inOf (stAt 11) 3), globals := 3, closure := [], defaults := Value.none, kwdefaults := Value.none, pyModule := Value.str (Str.ofString "relfinder.kinds") 530, code := Value.ref 305 } }) ::
 (nat_lit 307, { cls := Value.type "tuple", data := Data.seq #[] }) ::
 (nat_lit 309, { cls := Value.type "tuple", data := Data.seq #[Value.str (Str.ofString "self") 581, Value.str (Str.ofString "many") 582] }) ::
 (nat_lit 310, { cls := Value.type "tuple", data := Data.seq #[] }) ::
 (nat_lit 312, { cls := Value.type "code", data := Data.fields #[Value.str (Str.ofString "want_few") 578, Value.str (Str.ofString "Columns.want_few") 579, Value.str (Str.ofString "/claim/cut.py") 580, Value.int 178 0, Value.int 2 0, Value.int 0 0, Value.int 0 0, Value.int 3 0, Value.ref 307, Value.bool true, Value.int 181 0, Value.ref 308, Value.none, Value.ref 309, Value.ref 310, Value.ref 311, Value.int 583 0, Value.int 178 0, Value.str (Str.ofString "/claim/cut.py") 584] }) ::
 (nat_lit 313, { cls := Value.type "function", data := Data.func { name := Str.ofString "want_few", qualname := Str.ofString "Columns.want_few", params := argsOf (inOf (stAt 11) 4), body := bodyOf (inOf (stAt 11) 4), scope := scopeOf (inOf (stAt 11) 4), globals := 3, closure := [], defaults := Value.none, kwdefaults := Value.none, pyModule := Value.str (Str.ofString "relfinder.kinds") 530, code := Value.ref 312 } }) ::
 (nat_lit 314, { cls := Value.type "tuple", data := Data.seq #[] }) ::
 (nat_lit 316, { cls := Value.type "tuple", data := Data.seq #[Value.str (Str.ofString "self") 589, Value.str (Str.ofString "arity") 590] }) ::
 (nat_lit 317, { cls := Value.type "tuple", data := Data.seq #[] }) ::
 (nat_lit 319, { cls := Value.type "code", data := Data.fields #[Value.str (Str.ofString "want_arity") 586, Value.str (Str.ofString "Columns.want_arity") 587, Value.str (Str.ofString "/claim/cut.py") 588, Value.int 182 0, Value.int 2 0, Value.int 0 0, Value.int 0 0, Value.int 3 0, Value.ref 314, Value.bool true, Value.int 181 0, Value.ref 315, Value.none, Value.ref 316, Value.ref 317, Value.ref 318, Value.int 591 0, Value.int 182 0, Value.str (Str.ofString "/claim/cut.py") 592] }) ::
 (nat_lit 320, { cls := Value.type "function", data := Data.func { name := Str.ofString "want_arity", qualname := Str.ofString "Columns.want_arity", params := argsOf (inOf (stAt 11) 5), body := bodyOf (inOf (stAt 11) 5), scope := scopeOf (inOf (stAt 11) 5), globals := 3, closure := [], defaults := Value.none, kwdefaults := Value.none, pyModule := Value.str (Str.ofString "relfinder.kinds") 530, code := Value.ref 319 } }) ::
 (nat_lit 321, { cls := Value.type "tuple", data := Data.seq #[] }) ::
 (nat_lit 324, { cls := Value.type "code", data := Data.fields #[Value.str (Str.ofString "plain") 594, Value.str (Str.ofString "Columns.plain") 595, Value.str (Str.ofString "/claim/cut.py") 596, Value.int 185 0, Value.int 2 0, Value.int 0 0, Value.int 0 0, Value.int 3 0, Value.ref 321, Value.bool true, Value.int 181 0, Value.ref 322, Value.none, Value.none, Value.none, Value.ref 323, Value.int 597 0, Value.int 185 0, Value.str (Str.ofString "/claim/cut.py") 598] }) ::
 (nat_lit 325, { cls := Value.type "function", data := Data.func { name := Str.ofString "plain", qualname := Str.ofString "Columns.plain", params := argsOf (inOf (stAt 11) 6), body := bodyOf (inOf (stAt 11) 6), scope := scopeOf (inOf (stAt 11) 6), globals := 3, closure := [], defaults := Value.none, kwdefaults := Value.none, pyModule := Value.str (Str.ofString "relfinder.kinds") 530, code := Value.ref 324 } }) ::
 (nat_lit 326, { cls := Value.type "tuple", data := Data.seq #[] }) ::
 (nat_lit 328, { cls := Value.type "tuple", data := Data.seq #[Value.str (Str.ofString "self") 603, Value.str (Str.ofString "name") 604] }) ::
 (nat_lit 329, { cls := Value.type "tuple", data := Data.seq #[] }) ::
 (nat_lit 331, { cls := Value.type "code", data := Data.fields #[Value.str (Str.ofString "sig_columns") 600, Value.str (Str.ofString "Columns.sig_columns") 601, Value.str (Str.ofString "/claim/cut.py") 602, Value.int 190 0, Value.int 2 0, Value.int 0 0, Value.int 0 0, Value.int 3 0, Value.ref 326, Value.bool true, Value.int 181 0, Value.ref 327, Value.none, Value.ref 328, Value.ref 329, Value.ref 330, Value.int 605 0, Value.int 190 0, Value.str (Str.ofString "/claim/cut.py") 606] }) ::
 (nat_lit 332, { cls := Value.type "function", data := Data.func { name := Str.ofString "sig_columns", qualname := Str.ofString "Columns.sig_columns", params := argsOf (inOf (stAt 11) 7), body := bodyOf (inOf (stAt 11) 7), scope := scopeOf (inOf (stAt 11) 7), globals := 3, closure := [], defaults := Value.none, kwdefaults := Value.none, pyModule := Value.str (Str.ofString "relfinder.kinds") 530, code := Value.ref 331 } }) ::
 (nat_lit 333, { cls := Value.type "tuple", data := Data.seq #[] }) ::
 (nat_lit 335, { cls := Value.type "tuple", data := Data.seq #[Value.str (Str.ofString "self") 611] }) ::
 (nat_lit 336, { cls := Value.type "tuple", data := Data.seq #[] }) ::
 (nat_lit 338, { cls := Value.type "code", data := Data.fields #[Value.str (Str.ofString "tops") 608, Value.str (Str.ofString "Columns.tops") 609, Value.str (Str.ofString "/claim/cut.py") 610, Value.int 193 0, Value.int 1 0, Value.int 0 0, Value.int 0 0, Value.int 3 0, Value.ref 333, Value.bool true, Value.int 181 0, Value.ref 334, Value.none, Value.ref 335, Value.ref 336, Value.ref 337, Value.int 612 0, Value.int 193 0, Value.str (Str.ofString "/claim/cut.py") 613] }) ::
 (nat_lit 339, { cls := Value.type "function", data := Data.func { name := Str.ofString "tops", qualname := Str.ofString "Columns.tops", params := argsOf (inOf (stAt 11) 8), body := bodyOf (inOf (stAt 11) 8), scope := scopeOf (inOf (stAt 11) 8), globals := 3, closure := [], defaults := Value.none, kwdefaults := Value.none, pyModule := Value.str (Str.ofString "relfinder.kinds") 530, code := Value.ref 338 } }) ::
 (nat_lit 340, { cls := Value.type "tuple", data := Data.seq #[] }) ::
 (nat_lit 342, { cls := Value.type "tuple", data := Data.seq #[Value.str (Str.ofString "self") 618] }) ::
 (nat_lit 343, { cls := Value.type "tuple", data := Data.seq #[] }) ::
 (nat_lit 345, { cls := Value.type "code", data := Data.fields #[Value.str (Str.ofString "pairs") 615, Value.str (Str.ofString "Columns.pairs") 616, Value.str (Str.ofString "/claim/cut.py") 617, Value.int 196 0, Value.int 1 0, Value.int 0 0, Value.int 0 0, Value.int 3 0, Value.ref 340, Value.bool true, Value.int 181 0, Value.ref 341, Value.none, Value.ref 342, Value.ref 343, Value.ref 344, Value.int 619 0, Value.int 196 0, Value.str (Str.ofString "/claim/cut.py") 620] }) ::
 (nat_lit 346, { cls := Value.type "function", data := Data.func { name := Str.ofString "pairs", qualname := Str.ofString "Columns.pairs", params := argsOf (inOf (stAt 11) 9), body := bodyOf (inOf (stAt 11) 9), scope := scopeOf (inOf (stAt 11) 9), globals := 3, closure := [], defaults := Value.none, kwdefaults := Value.none, pyModule := Value.str (Str.ofString "relfinder.kinds") 530, code := Value.ref 345 } }) ::
 (nat_lit 347, { cls := Value.type "tuple", data := Data.seq #[] }) ::
 (nat_lit 349, { cls := Value.type "tuple", data := Data.seq #[Value.str (Str.ofString "self") 625, Value.str (Str.ofString "some") 626, Value.str (Str.ofString "others") 627] }) ::
 (nat_lit 350, { cls := Value.type "tuple", data := Data.seq #[] }) ::
 (nat_lit 352, { cls := Value.type "code", data := Data.fields #[Value.str (Str.ofString "meet") 622, Value.str (Str.ofString "Columns.meet") 623, Value.str (Str.ofString "/claim/cut.py") 624, Value.int 199 0, Value.int 3 0, Value.int 0 0, Value.int 0 0, Value.int 3 0, Value.ref 347, Value.bool true, Value.int 181 0, Value.ref 348, Value.none, Value.ref 349, Value.ref 350, Value.ref 351, Value.int 628 0, Value.int 199 0, Value.str (Str.ofString "/claim/cut.py") 629] }) ::
 (nat_lit 353, { cls := Value.type "function", data := Data.func { name := Str.ofString "meet", qualname := Str.ofString "Columns.meet", params := argsOf (inOf (stAt 11) 10), body := bodyOf (inOf (stAt 11) 10), scope := scopeOf (inOf (stAt 11) 10), globals := 3, closure := [], defaults := Value.none, kwdefaults := Value.none, pyModule := Value.str (Str.ofString "relfinder.kinds") 530, code := Value.ref 352 } }) ::
 (nat_lit 354, { cls := Value.type "tuple", data := Data.seq #[] }) ::
 (nat_lit 356, { cls := Value.type "tuple", data := Data.seq #[Value.str (Str.ofString "self") 634, Value.str (Str.ofString "some") 635, Value.str (Str.ofString "others") 636] }) ::
 (nat_lit 357, { cls := Value.type "tuple", data := Data.seq #[] }) ::
 (nat_lit 359, { cls := Value.type "code", data := Data.fields #[Value.str (Str.ofString "shares") 631, Value.str (Str.ofString "Columns.shares") 632, Value.str (Str.ofString "/claim/cut.py") 633, Value.int 202 0, Value.int 3 0, Value.int 0 0, Value.int 0 0, Value.int 3 0, Value.ref 354, Value.bool true, Value.int 181 0, Value.ref 355, Value.none, Value.ref 356, Value.ref 357, Value.ref 358, Value.int 637 0, Value.int 202 0, Value.str (Str.ofString "/claim/cut.py") 638] }) ::
 (nat_lit 360, { cls := Value.type "function", data := Data.func { name := Str.ofString "shares", qualname := Str.ofString "Columns.shares", params := argsOf (inOf (stAt 11) 11), body := bodyOf (inOf (stAt 11) 11), scope := scopeOf (inOf (stAt 11) 11), globals := 3, closure := [], defaults := Value.none, kwdefaults := Value.none, pyModule := Value.str (Str.ofString "relfinder.kinds") 530, code := Value.ref 359 } }) ::
 (nat_lit 361, { cls := Value.type "tuple", data := Data.seq #[] }) ::
 (nat_lit 363, { cls := Value.type "tuple", data := Data.seq #[Value.str (Str.ofString "self") 643, Value.str (Str.ofString "some") 644, Value.str (Str.ofString "others") 645] }) ::
 (nat_lit 364, { cls := Value.type "tuple", data := Data.seq #[] }) ::
 (nat_lit 366, { cls := Value.type "code", data := Data.fields #[Value.str (Str.ofString "join") 640, Value.str (Str.ofString "Columns.join") 641, Value.str (Str.ofString "/claim/cut.py") 642, Value.int 205 0, Value.int 3 0, Value.int 0 0, Value.int 0 0, Value.int 3 0, Value.ref 361, Value.bool true, Value.int 181 0, Value.ref 362, Value.none, Value.ref 363, Value.ref 364, Value.ref 365, Value.int 646 0, Value.int 205 0, Value.str (Str.ofString "/claim/cut.py") 647] }) ::
 (nat_lit 367, { cls := Value.type "function", data := Data.func { name := Str.ofString "join", qualname := Str.ofString "Columns.join", params := argsOf (inOf (stAt 11) 12), body := bodyOf (inOf (stAt 11) 12), scope := scopeOf (inOf (stAt 11) 12), globals := 3, closure := [], defaults := Value.none, kwdefaults := Value.none, pyModule := Value.str (Str.ofString "relfinder.kinds") 530, code := Value.ref 366 } }) ::
 (nat_lit 368, { cls := Value.type "tuple", data := Data.seq #[] }) ::
 (nat_lit 370, { cls := Value.type "tuple", data := Data.seq #[Value.str (Str.ofString "self") 652, Value.str (Str.ofString "some") 653, Value.str (Str.ofString "others") 654] }) ::
 (nat_lit 371, { cls := Value.type "tuple", data := Data.seq #[] }) ::
 (nat_lit 373, { cls := Value.type "code", data := Data.fields #[Value.str (Str.ofString "product") 649, Value.str (Str.ofString "Columns.product") 650, Value.str (Str.ofString "/claim/cut.py") 651, Value.int 208 0, Value.int 3 0, Value.int 0 0, Value.int 0 0, Value.int 3 0, Value.ref 368, Value.bool true, Value.int 181 0, Value.ref 369, Value.none, Value.ref 370, Value.ref 371, Value.ref 372, Value.int 655 0, Value.int 208 0, Value.str (Str.ofString "/claim/cut.py") 656] }) ::
 (nat_lit 374, { cls := Value.type "function", data := Data.func { name := Str.ofString "product", qualname := Str.ofString "Columns.product", params := argsOf (inOf (stAt 11) 13), body := bodyOf (inOf (stAt 11) 13), scope := scopeOf (inOf (stAt 11) 13), globals := 3, closure := [], defaults := Value.none, kwdefaults := Value.none, pyModule := Value.str (Str.ofString "relfinder.kinds") 530, code := Value.ref 373 } }) ::
 (nat_lit 375, { cls := Value.type "tuple", data := Data.seq #[] }) ::
 (nat_lit 377, { cls := Value.type "tuple", data := Data.seq #[Value.str (Str.ofString "self") 661, Value.str (Str.ofString "some") 662, Value.str (Str.ofString "ends") 663] }) ::
 (nat_lit 378, { cls := Value.type "tuple", data := Data.seq #[] }) ::
 (nat_lit 380, { cls := Value.type "code", data := Data.fields #[Value.str (Str.ofString "behind") 658, Value.str (Str.ofString "Columns.behind") 659, Value.str (Str.ofString "/claim/cut.py") 660, Value.int 211 0, Value.int 3 0, Value.int 0 0, Value.int 0 0, Value.int 3 0, Value.ref 375, Value.bool true, Value.int 181 0, Value.ref 376, Value.none, Value.ref 377, Value.ref 378, Value.ref 379, Value.int 664 0, Value.int 211 0, Value.str (Str.ofString "/claim/cut.py") 665] }) ::
 (nat_lit 381, { cls := Value.type "function", data := Data.func { name := Str.ofString "behind", qualname := Str.ofString "Columns.behind", params := argsOf (inOf (stAt 11) 14), body := bodyOf (inOf (stAt 11) 14), scope := scopeOf (inOf (stAt 11) 14), globals := 3, closure := [], defaults := Value.none, kwdefaults := Value.none, pyModule := Value.str (Str.ofString "relfinder.kinds") 530, code := Value.ref 380 } }) ::
 (nat_lit 382, { cls := Value.type "tuple", data := Data.seq #[] }) ::
 (nat_lit 385, { cls := Value.type "code", data := Data.fields #[Value.str (Str.ofString "ahead") 667, Value.str (Str.ofString "Columns.ahead") 668, Value.str (Str.ofString "/claim/cut.py") 669, Value.int 214 0, Value.int 3 0, Value.int 0 0, Value.int 0 0, Value.int 3 0, Value.ref 382, Value.bool true, Value.int 181 0, Value.ref 383, Value.none, Value.none, Value.none, Value.ref 384, Value.int 670 0, Value.int 214 0, Value.str (Str.ofString "/claim/cut.py") 671] }) ::
 (nat_lit 386, { cls := Value.type "function", data := Data.func { name := Str.ofString "ahead", qualname := Str.ofString "Columns.ahead", params := argsOf (inOf (stAt 11) 15), body := bodyOf (inOf (stAt 11) 15), scope := scopeOf (inOf (stAt 11) 15), globals := 3, closure := [], defaults := Value.none, kwdefaults := Value.none, pyModule := Value.str (Str.ofString "relfinder.kinds") 530, code := Value.ref 385 } }) ::
 (nat_lit 387, { cls := Value.type "tuple", data := Data.seq #[] }) ::
 (nat_lit 389, { cls := Value.type "tuple", data := Data.seq #[Value.str (Str.ofString "self") 676, Value.str (Str.ofString "some") 677] }) ::
 (nat_lit 390, { cls := Value.type "tuple", data := Data.seq #[] }) ::
 (nat_lit 392, { cls := Value.type "code", data := Data.fields #[Value.str (Str.ofString "closure") 673, Value.str (Str.ofString "Columns.closure") 674, Value.str (Str.ofString "/claim/cut.py") 675, Value.int 218 0, Value.int 2 0, Value.int 0 0, Value.int 0 0, Value.int 3 0, Value.ref 387, Value.bool true, Value.int 181 0, Value.ref 388, Value.none, Value.ref 389, Value.ref 390, Value.ref 391, Value.int 678 0, Value.int 218 0, Value.str (Str.ofString "/claim/cut.py") 679] }) ::
 (nat_lit 393, { cls := Value.type "function", data := Data.func { name := Str.ofString "closure", qualname := Str.ofString "Columns.closure", params := argsOf (inOf (stAt 11) 16), body := bodyOf (inOf (stAt 11) 16), scope := scopeOf (inOf (stAt 11) 16), globals := 3, closure := [], defaults := Value.none, kwdefaults := Value.none, pyModule := Value.str (Str.ofString "relfinder.kinds") 530, code := Value.ref 392 } }) ::
 (nat_lit 394, { cls := Value.type "tuple", data := Data.seq #[Value.str (Str.ofString "known_columns") 681, Value.str (Str.ofString "signatures") 682] }) ::
 (nat_lit 395, { cls := Value.type "dict", data := Data.dict #[{ hash := PyData.keyHash P (Str.ofString "__module__"), key := Value.str (Str.ofString "__module__") 541, val := Value.str (Str.ofString "relfinder.kinds") 530 }, { hash := PyData.keyHash P (Str.ofString "__firstlineno__"), key := Value.str (Str.ofString "__firstlineno__") 545, val := Value.int 160 544 }, { hash := PyData.keyHash P (Str.ofString "__init__"), key := Value.str (Str.ofString "__init__") 553, val := Value.ref 287 }, { hash := PyData.keyHash P (Str.ofString "is_under"), key := Value.str (Str.ofString "is_under") 562, val := Value.ref 294 }, { hash := PyData.keyHash P (Str.ofString "narrower"), key := Value.str (Str.ofString "narrower") 571, val := Value.ref 301 }, { hash := PyData.keyHash P (Str.ofString "common"), key := Value.str (Str.ofString "common") 577, val := Value.ref 306 }, { hash := PyData.keyHash P (Str.ofString "want_few"), key := Value.str (Str.ofString "want_few") 585, val := Value.ref 313 }, { hash := PyData.keyHash P (Str.ofString "want_arity"), key := Value.str (Str.ofString "want_arity") 593, val := Value.ref 320 }, { hash := PyData.keyHash P (Str.ofString "plain"), key := Value.str (Str.ofString "plain") 599, val := Value.ref 325 }, { hash := PyData.keyHash P (Str.ofString "sig_columns"), key := Value.str (Str.ofString "sig_columns") 607, val := Value.ref 332 }, { hash := PyData.keyHash P (Str.ofString "tops"), key := Value.str (Str.ofString "tops") 614, val := Value.ref 339 }, { hash := PyData.keyHash P (Str.ofString "pairs"), key := Value.str (Str.ofString "pairs") 621, val := Value.ref 346 }, { hash := PyData.keyHash P (Str.ofString "meet"), key := Value.str (Str.ofString "meet") 630, val := Value.ref 353 }, { hash := PyData.keyHash P (Str.ofString "shares"), key := Value.str (Str.ofString "shares") 639, val := Value.ref 360 }, { hash := PyData.keyHash P (Str.ofString "join"), key := Value.str (Str.ofString "join") 648, val := Value.ref 367 }, { hash := PyData.keyHash P (Str.ofString "product"), key := Value.str (Str.ofString "product") 657, val := Value.ref 374 }, { hash := PyData.keyHash P (Str.ofString "behind"), key := Value.str (Str.ofString "behind") 666, val := Value.ref 381 }, { hash := PyData.keyHash P (Str.ofString "ahead"), key := Value.str (Str.ofString "ahead") 672, val := Value.ref 386 }, { hash := PyData.keyHash P (Str.ofString "closure"), key := Value.str (Str.ofString "closure") 680, val := Value.ref 393 }, { hash := PyData.keyHash P (Str.ofString "__static_attributes__"), key := Value.str (Str.ofString "__static_attributes__") 683, val := Value.ref 394 }, { hash := PyData.keyHash P (Str.ofString "__dict__"), key := Value.str (Str.ofString "__dict__") 685, val := Value.ref 397 }, { hash := PyData.keyHash P (Str.ofString "__weakref__"), key := Value.str (Str.ofString "__weakref__") 687, val := Value.ref 398 }, { hash := PyData.keyHash P (Str.ofString "__doc__"), key := Value.str (Str.ofString "__doc__") 688, val := Value.none }] 4 }) ::
 (nat_lit 396, { cls := Value.type "type", data := Data.cls { name := Str.ofString "Columns", bases := [Value.type "object"], mro := [Value.ref 396, Value.type "object"], ns := 395, qualname := Str.ofString "Columns", subclasses := [Value.ref 513] }, slots := #[none, none, some (Value.str (Str.ofString "Columns") 534), some (Value.str (Str.ofString "Columns") 542), some (Value.builtin "object.__new__"), some (Value.bool true)] }) ::
 (nat_lit 397, { cls := Value.type "getset_descriptor", data := Data.fields #[Value.str (Str.ofString "__dict__") 684, Value.ref 396, Value.builtin "function.__dict__", Value.builtin "function.__dict__#set"] }) ::
 (nat_lit 398, { cls := Value.type "getset_descriptor", data := Data.fields #[Value.str (Str.ofString "__weakref__") 686, Value.ref 396, Value.builtin "ExceptionGroup.__weakref__", Value.none] }) ::
 (nat_lit 401, { cls := Value.type "tuple", data := Data.seq #[Value.ref 396] }) ::
 (nat_lit 404, { cls := Value.type "cell", data := Data.cell (some (Value.ref 513)) }) ::
 (nat_lit 409, { cls := Value.type "tuple", data := Data.seq #[Value.ref 404] }) ::
 (nat_lit 410, { cls := Value.type "tuple", data := Data.seq #[Value.str (Str.ofString "__class__") 706] }) ::
 (nat_lit 412, { cls := Value.type "tuple", data := Data.seq #[Value.str (Str.ofString "self") 707, Value.str (Str.ofString "signatures") 708] }) ::
 (nat_lit 413, { cls := Value.type "tuple", data := Data.seq #[] }) ::
 (nat_lit 415, { cls := Value.type "code", data := Data.fields #[Value.str (Str.ofString "__init__") 703, Value.str (Str.ofString "NameKinds.__init__") 704, Value.str (Str.ofString "/claim/cut.py") 705, Value.int 222 0, Value.int 2 0, Value.int 0 0, Value.int 0 0, Value.int 3 0, Value.ref 410, Value.bool true, Value.int 181 0, Value.ref 411, Value.none, Value.ref 412, Value.ref 413, Value.ref 414, Value.int 709 0, Value.int 222 0, Value.str (Str.ofString "/claim/cut.py") 710] }) ::
 (nat_lit 416, { cls := Value.type "function", data := Data.func { name := Str.ofString "__init__", qualname := Str.ofString "NameKinds.__init__", params := argsOf (inOf (stAt 12) 0), body := bodyOf (inOf (stAt 12) 0), scope := scopeOf (inOf (stAt 12) 0), globals := 3, closure := [(Str.ofString "__class__", 404)], defaults := Value.none, kwdefaults := Value.none, pyModule := Value.str (Str.ofString "relfinder.kinds") 530, code := Value.ref 415, closureTuple := Value.ref 409 } }) ::
 (nat_lit 417, { cls := Value.type "tuple", data := Data.seq #[] }) ::
 (nat_lit 419, { cls := Value.type "tuple", data := Data.seq #[Value.str (Str.ofString "self") 715] }) ::
 (nat_lit 420, { cls := Value.type "tuple", data := Data.seq #[] }) ::
 (nat_lit 422, { cls := Value.type "code", data := Data.fields #[Value.str (Str.ofString "deeper") 712, Value.str (Str.ofString "NameKinds.deeper") 713, Value.str (Str.ofString "/claim/cut.py") 714, Value.int 229 0, Value.int 1 0, Value.int 0 0, Value.int 0 0, Value.int 3 0, Value.ref 417, Value.bool true, Value.int 181 0, Value.ref 418, Value.none, Value.ref 419, Value.ref 420, Value.ref 421, Value.int 716 0, Value.int 229 0, Value.str (Str.ofString "/claim/cut.py") 717] }) ::
 (nat_lit 423, { cls := Value.type "function", data := Data.func { name := Str.ofString "deeper", qualname := Str.ofString "NameKinds.deeper", params := argsOf (inOf (stAt 12) 1), body := bodyOf (inOf (stAt 12) 1), scope := scopeOf (inOf (stAt 12) 1), globals := 3, closure := [], defaults := Value.none, kwdefaults := Value.none, pyModule := Value.str (Str.ofString "relfinder.kinds") 530, code := Value.ref 422 } }) ::
 (nat_lit 424, { cls := Value.type "tuple", data := Data.seq #[] }) ::
 (nat_lit 426, { cls := Value.type "tuple", data := Data.seq #[Value.str (Str.ofString "self") 722, Value.str (Str.ofString "spot") 723, Value.str (Str.ofString "text") 724] }) ::
 (nat_lit 427, { cls := Value.type "tuple", data := Data.seq #[] }) ::
 (nat_lit 429, { cls := Value.type "code", data := Data.fields #[Value.str (Str.ofString "warn") 719, Value.str (Str.ofString "NameKinds.warn") 720, Value.str (Str.ofString "/claim/cut.py") 721, Value.int 232 0, Value.int 3 0, Value.int 0 0, Value.int 0 0, Value.int 3 0, Value.ref 424, Value.bool true, Value.int 181 0, Value.ref 425, Value.none, Value.ref 426, Value.ref 427, Value.ref 428, Value.int 725 0, Value.int 232 0, Value.str (Str.ofString "/claim/cut.py") 726] }) ::
 (nat_lit 430, { cls := Value.type "function", data := Data.func { name := Str.ofString "warn", qualname := Str.ofString "NameKinds.warn", params := argsOf (inOf (stAt 12) 2), body := bodyOf (inOf (stAt 12) 2), scope := scopeOf (inOf (stAt 12) 2), globals := 3, closure := [], defaults := Value.none, kwdefaults := Value.none, pyModule := Value.str (Str.ofString "relfinder.kinds") 530, code := Value.ref 429 } }) ::
 (nat_lit 431, { cls := Value.type "tuple", data := Data.seq #[] }) ::
 (nat_lit 433, { cls := Value.type "tuple", data := Data.seq #[Value.str (Str.ofString "self") 731, Value.str (Str.ofString "name") 732] }) ::
 (nat_lit 434, { cls := Value.type "tuple", data := Data.seq #[] }) ::
 (nat_lit 436, { cls := Value.type "code", data := Data.fields #[Value.str (Str.ofString "sig_kind") 728, Value.str (Str.ofString "NameKinds.sig_kind") 729, Value.str (Str.ofString "/claim/cut.py") 730, Value.int 235 0, Value.int 2 0, Value.int 0 0, Value.int 0 0, Value.int 3 0, Value.ref 431, Value.bool true, Value.int 181 0, Value.ref 432, Value.none, Value.ref 433, Value.ref 434, Value.ref 435, Value.int 733 0, Value.int 235 0, Value.str (Str.ofString "/claim/cut.py") 734] }) ::
 (nat_lit 437, { cls := Value.type "function", data := Data.func { name := Str.ofString "sig_kind", qualname := Str.ofString "NameKinds.sig_kind", params := argsOf (inOf (stAt 12) 3), body := bodyOf (inOf (stAt 12) 3), scope := scopeOf (inOf (stAt 12) 3), globals := 3, closure := [], defaults := Value.none, kwdefaults := Value.none, pyModule := Value.str (Str.ofString "relfinder.kinds") 530, code := Value.ref 436 } }) ::
 (nat_lit 438, { cls := Value.type "tuple", data := Data.seq #[] }) ::
 (nat_lit 440, { cls := Value.type "tuple", data := Data.seq #[Value.str (Str.ofString "self") 739, Value.str (Str.ofString "sig") 740] }) ::
 (nat_lit 441, { cls := Value.type "tuple", data := Data.seq #[] }) ::
 (nat_lit 443, { cls := Value.type "code", data := Data.fields #[Value.str (Str.ofString "own_names") 736, Value.str (Str.ofString "NameKinds.own_names") 737, Value.str (Str.ofString "/claim/cut.py") 738, Value.int 238 0, Value.int 2 0, Value.int 0 0, Value.int 0 0, Value.int 3 0, Value.ref 438, Value.bool true, Value.int 181 0, Value.ref 439, Value.none, Value.ref 440, Value.ref 441, Value.ref 442, Value.int 741 0, Value.int 238 0, Value.str (Str.ofString "/claim/cut.py") 742] }) ::
 (nat_lit 444, { cls := Value.type "function", data := Data.func { name := Str.ofString "own_names", qualname := Str.ofString "NameKinds.own_names", params := argsOf (inOf (stAt 12) 4), body := bodyOf (inOf (stAt 12) 4), scope := scopeOf (inOf (stAt 12) 4), globals := 3, closure := [], defaults := Value.none, kwdefaults := Value.none, pyModule := Value.str (Str.ofString "relfinder.kinds") 530, code := Value.ref 443 } }) ::
 (nat_lit 445, { cls := Value.type "tuple", data := Data.seq #[] }) ::
 (nat_lit 448, { cls := Value.type "code", data := Data.fields #[Value.str (Str.ofString "entries") 744, Value.str (Str.ofString "NameKinds.entries") 745, Value.str (Str.ofString "/claim/cut.py") 746, Value.int 241 0, Value.int 2 0, Value.int 0 0, Value.int 0 0, Value.int 3 0, Value.ref 445, Value.bool true, Value.int 181 0, Value.ref 446, Value.none, Value.none, Value.none, Value.ref 447, Value.int 747 0, Value.int 241 0, Value.str (Str.ofString "/claim/cut.py") 748] }) ::
 (nat_lit 449, { cls := Value.type "function", data := Data.func { name := Str.ofString "entries", qualname := Str.ofString "NameKinds.entries", params := argsOf (inOf (stAt 12) 5), body := bodyOf (inOf (stAt 12) 5), scope := scopeOf (inOf (stAt 12) 5), globals := 3, closure := [], defaults := Value.none, kwdefaults := Value.none, pyModule := Value.str (Str.ofString "relfinder.kinds") 530, code := Value.ref 448 } }) ::
 (nat_lit 450, { cls := Value.type "tuple", data := Data.seq #[] }) ::
 (nat_lit 452, { cls := Value.type "tuple", data := Data.seq #[Value.str (Str.ofString "self") 753, Value.str (Str.ofString "sig") 754, Value.str (Str.ofString "field") 755] }) ::
 (nat_lit 453, { cls := Value.type "tuple", data := Data.seq #[] }) ::
 (nat_lit 455, { cls := Value.type "code", data := Data.fields #[Value.str (Str.ofString "field_kind") 750, Value.str (Str.ofString "NameKinds.field_kind") 751, Value.str (Str.ofString "/claim/cut.py") 752, Value.int 244 0, Value.int 3 0, Value.int 0 0, Value.int 0 0, Value.int 3 0, Value.ref 450, Value.bool true, Value.int 181 0, Value.ref 451, Value.none, Value.ref 452, Value.ref 453, Value.ref 454, Value.int 756 0, Value.int 244 0, Value.str (Str.ofString "/claim/cut.py") 757] }) ::
 (nat_lit 456, { cls := Value.type "function", data := Data.func { name := Str.ofString "field_kind", qualname := Str.ofString "NameKinds.field_kind", params := argsOf (inOf (stAt 12) 6), body := bodyOf (inOf (stAt 12) 6), scope := scopeOf (inOf (stAt 12) 6), globals := 3, closure := [], defaults := Value.none, kwdefaults := Value.none, pyModule := Value.str (Str.ofString "relfinder.kinds") 530, code := Value.ref 455 } }) ::
 (nat_lit 457, { cls := Value.type "tuple", data := Data.seq #[] }) ::
 (nat_lit 459, { cls := Value.type "tuple", data := Data.seq #[Value.str (Str.ofString "self") 762, Value.str (Str.ofString "field") 763, Value.str (Str.ofString "sigs") 764, Value.str (Str.ofString "spot") 765] }) ::
 (nat_lit 460, { cls := Value.type "tuple", data := Data.seq #[] }) ::
 (nat_lit 462, { cls := Value.type "code", data := Data.fields #[Value.str (Str.ofString "fields_kind") 759, Value.str (Str.ofString "NameKinds.fields_kind") 760, Value.str (Str.ofString "/claim/cut.py") 761, Value.int 247 0, Value.int 4 0, Value.int 0 0, Value.int 0 0, Value.int 3 0, Value.ref 457, Value.bool true, Value.int 181 0, Value.ref 458, Value.none, Value.ref 459, Value.ref 460, Value.ref 461, Value.int 766 0, Value.int 247 0, Value.str (Str.ofString "/claim/cut.py") 767] }) ::
 (nat_lit 463, { cls := Value.type "function", data := Data.func { name := Str.ofString "fields_kind", qualname := Str.ofString "NameKinds.fields_kind", params := argsOf (inOf (stAt 12) 7), body := bodyOf (inOf (stAt 12) 7), scope := scopeOf (inOf (stAt 12) 7), globals := 3, closure := [], defaults := Value.none, kwdefaults := Value.none, pyModule := Value.str (Str.ofString "relfinder.kinds") 530, code := Value.ref 462 } }) ::
 (nat_lit 464, { cls := Value.type "tuple", data := Data.seq #[] }) ::
 (nat_lit 466, { cls := Value.type "tuple", data := Data.seq #[Value.str (Str.ofString "self") 772, Value.str (Str.ofString "field") 773, Value.str (Str.ofString "names") 774] }) ::
 (nat_lit 467, { cls := Value.type "tuple", data := Data.seq #[] }) ::
 (nat_lit 469, { cls := Value.type "code", data := Data.fields #[Value.str (Str.ofString "own_sigs") 769, Value.str (Str.ofString "NameKinds.own_sigs") 770, Value.str (Str.ofString "/claim/cut.py") 771, Value.int 250 0, Value.int 3 0, Value.int 0 0, Value.int 0 0, Value.int 3 0, Value.ref 464, Value.bool true, Value.int 181 0, Value.ref 465, Value.none, Value.ref 466, Value.ref 467, Value.ref 468, Value.int 775 0, Value.int 250 0, Value.str (Str.ofString "/claim/cut.py") 776] }) ::
 (nat_lit 470, { cls := Value.type "function", data := Data.func { name := Str.ofString "own_sigs", qualname := Str.ofString "NameKinds.own_sigs", params := argsOf (inOf (stAt 12) 8), body := bodyOf (inOf (stAt 12) 8), scope := scopeOf (inOf (stAt 12) 8), globals := 3, closure := [], defaults := Value.none, kwdefaults := Value.none, pyModule := Value.str (Str.ofString "relfinder.kinds") 530, code := Value.ref 469 } }) ::
 (nat_lit 471, { cls := Value.type "tuple", data := Data.seq #[] }) ::
 (nat_lit 474, { cls := Value.type "code", data := Data.fields #[Value.str (Str.ofString "order_of") 778, Value.str (Str.ofString "NameKinds.order_of") 779, Value.str (Str.ofString "/claim/cut.py") 780, Value.int 253 0, Value.int 2 0, Value.int 0 0, Value.int 0 0, Value.int 3 0, Value.ref 471, Value.bool true, Value.int 181 0, Value.ref 472, Value.none, Value.none, Value.none, Value.ref 473, Value.int 781 0, Value.int 253 0, Value.str (Str.ofString "/claim/cut.py") 782] }) ::
 (nat_lit 475, { cls := Value.type "function", data := Data.func { name := Str.ofString "order_of", qualname := Str.ofString "NameKinds.order_of", params := argsOf (inOf (stAt 12) 9), body := bodyOf (inOf (stAt 12) 9), scope := scopeOf (inOf (stAt 12) 9), globals := 3, closure := [], defaults := Value.none, kwdefaults := Value.none, pyModule := Value.str (Str.ofString "relfinder.kinds") 530, code := Value.ref 474 } }) ::
 (nat_lit 476, { cls := Value.type "tuple", data := Data.seq #[] }) ::
 (nat_lit 478, { cls := Value.type "tuple", data := Data.seq #[Value.str (Str.ofString "self") 787, Value.str (Str.ofString "sigs") 788, Value.str (Str.ofString "many") 789] }) ::
 (nat_lit 479, { cls := Value.type "tuple", data := Data.seq #[] }) ::
 (nat_lit 481, { cls := Value.type "code", data := Data.fields #[Value.str (Str.ofString "order_columns") 784, Value.str (Str.ofString "NameKinds.order_columns") 785, Value.str (Str.ofString "/claim/cut.py") 786, Value.int 260 0, Value.int 3 0, Value.int 0 0, Value.int 0 0, Value.int 3 0, Value.ref 476, Value.bool true, Value.int 181 0, Value.ref 477, Value.none, Value.ref 478, Value.ref 479, Value.ref 480, Value.int 790 0, Value.int 260 0, Value.str (Str.ofString "/claim/cut.py") 791] }) ::
 (nat_lit 482, { cls := Value.type "function", data := Data.func { name := Str.ofString "order_columns", qualname := Str.ofString "NameKinds.order_columns", params := argsOf (inOf (stAt 12) 10), body := bodyOf (inOf (stAt 12) 10), scope := scopeOf (inOf (stAt 12) 10), globals := 3, closure := [], defaults := Value.none, kwdefaults := Value.none, pyModule := Value.str (Str.ofString "relfinder.kinds") 530, code := Value.ref 481 } }) ::
 (nat_lit 483, { cls := Value.type "tuple", data := Data.seq #[] }) ::
 (nat_lit 485, { cls := Value.type "tuple", data := Data.seq #[Value.str (Str.ofString "self") 796, Value.str (Str.ofString "order") 797, Value.str (Str.ofString "text") 798, Value.str (Str.ofString "spot") 799] }) ::
 (nat_lit 486, { cls := Value.type "tuple", data := Data.seq #[] }) ::
 (nat_lit 488, { cls := Value.type "code", data := Data.fields #[Value.str (Str.ofString "order_kind") 793, Value.str (Str.ofString "NameKinds.order_kind") 794, Value.str (Str.ofString "/claim/cut.py") 795, Value.int 263 0, Value.int 4 0, Value.int 0 0, Value.int 0 0, Value.int 3 0, Value.ref 483, Value.bool true, Value.int 181 0, Value.ref 484, Value.none, Value.ref 485, Value.ref 486, Value.ref 487, Value.int 800 0, Value.int 263 0, Value.str (Str.ofString "/claim/cut.py") 801] }) ::
 (nat_lit 489, { cls := Value.type "function", data := Data.func { name := Str.ofString "order_kind", qualname := Str.ofString "NameKinds.order_kind", params := argsOf (inOf (stAt 12) 11), body := bodyOf (inOf (stAt 12) 11), scope := scopeOf (inOf (stAt 12) 11), globals := 3, closure := [], defaults := Value.none, kwdefaults := Value.none, pyModule := Value.str (Str.ofString "relfinder.kinds") 530, code := Value.ref 488 } }) ::
 (nat_lit 490, { cls := Value.type "tuple", data := Data.seq #[] }) ::
 (nat_lit 492, { cls := Value.type "tuple", data := Data.seq #[Value.str (Str.ofString "self") 806, Value.str (Str.ofString "node") 807, Value.str (Str.ofString "names") 808, Value.str (Str.ofString "is_bound") 809] }) ::
 (nat_lit 493, { cls := Value.type "tuple", data := Data.seq #[] }) ::
 (nat_lit 495, { cls := Value.type "code", data := Data.fields #[Value.str (Str.ofString "wanted_set") 803, Value.str (Str.ofString "NameKinds.wanted_set") 804, Value.str (Str.ofString "/claim/cut.py") 805, Value.int 266 0, Value.int 4 0, Value.int 0 0, Value.int 0 0, Value.int 3 0, Value.ref 490, Value.bool true, Value.int 181 0, Value.ref 491, Value.none, Value.ref 492, Value.ref 493, Value.ref 494, Value.int 810 0, Value.int 266 0, Value.str (Str.ofString "/claim/cut.py") 811] }) ::
 (nat_lit 496, { cls := Value.type "function", data := Data.func { name := Str.ofString "wanted_set", qualname := Str.ofString "NameKinds.wanted_set", params := argsOf (inOf (stAt 12) 12), body := bodyOf (inOf (stAt 12) 12), scope := scopeOf (inOf (stAt 12) 12), globals := 3, closure := [], defaults := Value.none, kwdefaults := Value.none, pyModule := Value.str (Str.ofString "relfinder.kinds") 530, code := Value.ref 495 } }) ::
 (nat_lit 497, { cls := Value.type "tuple", data := Data.seq #[] }) ::
 (nat_lit 499, { cls := Value.type "tuple", data := Data.seq #[Value.str (Str.ofString "self") 816, Value.str (Str.ofString "node") 817, Value.str (Str.ofString "names") 818] }) ::
 (nat_lit 500, { cls := Value.type "tuple", data := Data.seq #[] }) ::
 (nat_lit 502, { cls := Value.type "code", data := Data.fields #[Value.str (Str.ofString "bound_kind") 813, Value.str (Str.ofString "NameKinds.bound_kind") 814, Value.str (Str.ofString "/claim/cut.py") 815, Value.int 269 0, Value.int 3 0, Value.int 0 0, Value.int 0 0, Value.int 3 0, Value.ref 497, Value.bool true, Value.int 181 0, Value.ref 498, Value.none, Value.ref 499, Value.ref 500, Value.ref 501, Value.int 819 0, Value.int 269 0, Value.str (Str.ofString "/claim/cut.py") 820] }) ::
 (nat_lit 503, { cls := Value.type "function", data := Data.func { name := Str.ofString "bound_kind", qualname := Str.ofString "NameKinds.bound_kind", params := argsOf (inOf (stAt 12) 13), body := bodyOf (inOf (stAt 12) 13), scope := scopeOf (inOf (stAt 12) 13), globals := 3, closure := [], defaults := Value.none, kwdefaults := Value.none, pyModule := Value.str (Str.ofString "relfinder.kinds") 530, code := Value.ref 502 } }) ::
 (nat_lit 504, { cls := Value.type "tuple", data := Data.seq #[] }) ::
 (nat_lit 506, { cls := Value.type "tuple", data := Data.seq #[Value.str (Str.ofString "self") 825, Value.str (Str.ofString "node") 826, Value.str (Str.ofString "names") 827] }) ::
 (nat_lit 507, { cls := Value.type "tuple", data := Data.seq #[] }) ::
 (nat_lit 509, { cls := Value.type "code", data := Data.fields #[Value.str (Str.ofString "kind_of") 822, Value.str (Str.ofString "NameKinds.kind_of") 823, Value.str (Str.ofString "/claim/cut.py") 824, Value.int 272 0, Value.int 3 0, Value.int 0 0, Value.int 0 0, Value.int 3 0, Value.ref 504, Value.bool true, Value.int 181 0, Value.ref 505, Value.none, Value.ref 506, Value.ref 507, Value.ref 508, Value.int 828 0, Value.int 272 0, Value.str (Str.ofString "/claim/cut.py") 829] }) ::
 (nat_lit 510, { cls := Value.type "function", data := Data.func { name := Str.ofString "kind_of", qualname := Str.ofString "NameKinds.kind_of", params := argsOf (inOf (stAt 12) 14), body := bodyOf (inOf (stAt 12) 14), scope := scopeOf (inOf (stAt 12) 14), globals := 3, closure := [], defaults := Value.none, kwdefaults := Value.none, pyModule := Value.str (Str.ofString "relfinder.kinds") 530, code := Value.ref 509 } }) ::
 (nat_lit 511, { cls := Value.type "tuple", data := Data.seq #[Value.str (Str.ofString "begun_fields") 831, Value.str (Str.ofString "height") 832, Value.str (Str.ofString "known_fields") 833, Value.str (Str.ofString "warnings") 834] }) ::
 (nat_lit 512, { cls := Value.type "dict", data := Data.dict #[{ hash := PyData.keyHash P (Str.ofString "__module__"), key := Value.str (Str.ofString "__module__") 698, val := Value.str (Str.ofString "relfinder.kinds") 530 }, { hash := PyData.keyHash P (Str.ofString "__firstlineno__"), key := Value.str (Str.ofString "__firstlineno__") 702, val := Value.int 220 701 }, { hash := PyData.keyHash P (Str.ofString "__init__"), key := Value.str (Str.ofString "__init__") 711, val := Value.ref 416 }, { hash := PyData.keyHash P (Str.ofString "deeper"), key := Value.str (Str.ofString "deeper") 718, val := Value.ref 423 }, { hash := PyData.keyHash P (Str.ofString "warn"), key := Value.str (Str.ofString "warn") 727, val := Value.ref 430 }, { hash := PyData.keyHash P (Str.ofString "sig_kind"), key := Value.str (Str.ofString "sig_kind") 735, val := Value.ref 437 }, { hash := PyData.keyHash P (Str.ofString "own_names"), key := Value.str (Str.ofString "own_names") 743, val := Value.ref 444 }, { hash := PyData.keyHash P (Str.ofString "entries"), key := Value.str (Str.ofString "entries") 749, val := Value.ref 449 }, { hash := PyData.keyHash P (Str.ofString "field_kind"), key := Value.str (Str.ofString "field_kind") 758, val := Value.ref 456 }, { hash := PyData.keyHash P (Str.ofString "fields_kind"), key := Value.str (Str.ofString "fields_kind") 768, val := Value.ref 463 }, { hash := PyData.keyHash P (Str.ofString "own_sigs"), key := Value.str (Str.ofString "own_sigs") 777, val := Value.ref 470 }, { hash := PyData.keyHash P (Str.ofString "order_of"), key := Value.str (Str.ofString "order_of") 783, val := Value.ref 475 }, { hash := PyData.keyHash P (Str.ofString "order_columns"), key := Value.str (Str.ofString "order_columns") 792, val := Value.ref 482 }, { hash := PyData.keyHash P (Str.ofString "order_kind"), key := Value.str (Str.ofString "order_kind") 802, val := Value.ref 489 }, { hash := PyData.keyHash P (Str.ofString "wanted_set"), key := Value.str (Str.ofString "wanted_set") 812, val := Value.ref 496 }, { hash := PyData.keyHash P (Str.ofString "bound_kind"), key := Value.str (Str.ofString "bound_kind") 821, val := Value.ref 503 }, { hash := PyData.keyHash P (Str.ofString "kind_of"), key := Value.str (Str.ofString "kind_of") 830, val := Value.ref 510 }, { hash := PyData.keyHash P (Str.ofString "__static_attributes__"), key := Value.str (Str.ofString "__static_attributes__") 835, val := Value.ref 511 }, { hash := PyData.keyHash P (Str.ofString "__doc__"), key := Value.str (Str.ofString "__doc__") 837, val := Value.none }] 3 }) ::
 (nat_lit 513, { cls := Value.type "type", data := Data.cls { name := Str.ofString "NameKinds", bases := [Value.ref 396], mro := [Value.ref 513, Value.ref 396, Value.type "object"], ns := 512, qualname := Str.ofString "NameKinds" }, slots := #[some (Value.ref 401), none, some (Value.str (Str.ofString "NameKinds") 691), some (Value.str (Str.ofString "NameKinds") 699), some (Value.builtin "object.__new__"), some (Value.bool true)] }) ::
 (nat_lit 516, { cls := Value.type "tuple", data := Data.seq #[Value.str (Str.ofString "") 842, Value.str (Str.ofString "o") 843, Value.str (Str.ofString "p") 844, Value.str (Str.ofString "ordering") 845, Value.str (Str.ofString "A") 846] }) ::
 (nat_lit 517, { cls := Value.type "tuple", data := Data.seq #[Value.str (Str.ofString "first") 848, Value.str (Str.ofString "last") 849, Value.str (Str.ofString "next") 850, Value.str (Str.ofString "prev") 851, Value.str (Str.ofString "nexts") 852, Value.str (Str.ofString "prevs") 853, Value.str (Str.ofString "lt") 854, Value.str (Str.ofString "lte") 855, Value.str (Str.ofString "gt") 856, Value.str (Str.ofString "gte") 857, Value.str (Str.ofString "after") 858] }) ::
 (nat_lit 518, { cls := Value.type "tuple", data := Data.seq #[] }) ::
 (nat_lit 520, { cls := Value.type "tuple", data := Data.seq #[Value.str (Str.ofString "bell") 863, Value.str (Str.ofString "wide") 864, Value.str (Str.ofString "at") 865] }) ::
 (nat_lit 521, { cls := Value.type "tuple", data := Data.seq #[] }) ::
 (nat_lit 523, { cls := Value.type "code", data := Data.fields #[Value.str (Str.ofString "_law_draw") 860, Value.str (Str.ofString "_law_draw") 861, Value.str (Str.ofString "/claim/cut.py") 862, Value.int 277 0, Value.int 2 0, Value.int 0 0, Value.int 0 0, Value.int 3 0, Value.ref 518, Value.bool true, Value.int 181 0, Value.ref 519, Value.none, Value.ref 520, Value.ref 521, Value.ref 522, Value.int 866 0, Value.int 277 0, Value.str (Str.ofString "/claim/cut.py") 867] }) ::
 (nat_lit 524, { cls := Value.type "function", data := Data.func { name := Str.ofString "_law_draw", qualname := Str.ofString "_law_draw", params := argsOf (stAt 16), body := bodyOf (stAt 16), scope := scopeOf (stAt 16), globals := 3, closure := [], defaults := Value.none, kwdefaults := Value.none, pyModule := Value.str (Str.ofString "law_rr0095_01") 840, code := Value.ref 523 } }) ::
 (nat_lit 525, { cls := Value.type "tuple", data := Data.seq #[] }) ::
 (nat_lit 527, { cls := Value.type "tuple", data := Data.seq #[Value.str (Str.ofString "bell") 872, Value.str (Str.ofString "found") 873, Value.str (Str.ofString "turn") 874] }) ::
 (nat_lit 528, { cls := Value.type "tuple", data := Data.seq #[] }) ::
 (nat_lit 530, { cls := Value.type "code", data := Data.fields #[Value.str (Str.ofString "_law_sigs") 869, Value.str (Str.ofString "_law_sigs") 870, Value.str (Str.ofString "/claim/cut.py") 871, Value.int 283 0, Value.int 1 0, Value.int 0 0, Value.int 0 0, Value.int 3 0, Value.ref 525, Value.bool true, Value.int 181 0, Value.ref 526, Value.none, Value.ref 527, Value.ref 528, Value.ref 529, Value.int 875 0, Value.int 283 0, Value.str (Str.ofString "/claim/cut.py") 876] }) ::
 (nat_lit 531, { cls := Value.type "function", data := Data.func { name := Str.ofString "_law_sigs", qualname := Str.ofString "_law_sigs", params := argsOf (stAt 17), body := bodyOf (stAt 17), scope := scopeOf (stAt 17), globals := 3, closure := [], defaults := Value.none, kwdefaults := Value.none, pyModule := Value.str (Str.ofString "law_rr0095_01") 840, code := Value.ref 530 } }) ::
 (nat_lit 532, { cls := Value.type "tuple", data := Data.seq #[] }) ::
 (nat_lit 534, { cls := Value.type "tuple", data := Data.seq #[Value.str (Str.ofString "bell") 881, Value.str (Str.ofString "spot") 882, Value.str (Str.ofString "module") 883, Value.str (Str.ofString "way") 884, Value.str (Str.ofString "sig") 885, Value.str (Str.ofString "args") 886] }) ::
 (nat_lit 535, { cls := Value.type "tuple", data := Data.seq #[] }) ::
 (nat_lit 537, { cls := Value.type "code", data := Data.fields #[Value.str (Str.ofString "_law_open") 878, Value.str (Str.ofString "_law_open") 879, Value.str (Str.ofString "/claim/cut.py") 880, Value.int 289 0, Value.int 2 0, Value.int 0 0, Value.int 0 0, Value.int 3 0, Value.ref 532, Value.bool true, Value.int 181 0, Value.ref 533, Value.none, Value.ref 534, Value.ref 535, Value.ref 536, Value.int 887 0, Value.int 289 0, Value.str (Str.ofString "/claim/cut.py") 888] }) ::
 (nat_lit 538, { cls := Value.type "function", data := Data.func { name := Str.ofString "_law_open", qualname := Str.ofString "_law_open", params := argsOf (stAt 18), body := bodyOf (stAt 18), scope := scopeOf (stAt 18), globals := 3, closure := [], defaults := Value.none, kwdefaults := Value.none, pyModule := Value.str (Str.ofString "law_rr0095_01") 840, code := Value.ref 537 } }) ::
 (nat_lit 539, { cls := Value.type "tuple", data := Data.seq #[] }) ::
 (nat_lit 541, { cls := Value.type "tuple", data := Data.seq #[Value.str (Str.ofString "item") 893] }) ::
 (nat_lit 542, { cls := Value.type "tuple", data := Data.seq #[] }) ::
 (nat_lit 544, { cls := Value.type "code", data := Data.fields #[Value.str (Str.ofString "_law_row") 890, Value.str (Str.ofString "_law_row") 891, Value.str (Str.ofString "/claim/cut.py") 892, Value.int 294 0, Value.int 1 0, Value.int 0 0, Value.int 0 0, Value.int 3 0, Value.ref 539, Value.bool true, Value.int 181 0, Value.ref 540, Value.none, Value.ref 541, Value.ref 542, Value.ref 543, Value.int 894 0, Value.int 294 0, Value.str (Str.ofString "/claim/cut.py") 895] }) ::
 (nat_lit 545, { cls := Value.type "function", data := Data.func { name := Str.ofString "_law_row", qualname := Str.ofString "_law_row", params := argsOf (stAt 19), body := bodyOf (stAt 19), scope := scopeOf (stAt 19), globals := 3, closure := [], defaults := Value.none, kwdefaults := Value.none, pyModule := Value.str (Str.ofString "law_rr0095_01") 840, code := Value.ref 544 } }) ::
 (nat_lit 546, { cls := Value.type "tuple", data := Data.seq #[] }) ::
 (nat_lit 549, { cls := Value.type "code", data := Data.fields #[Value.str (Str.ofString "_law_is_taken") 897, Value.str (Str.ofString "_law_is_taken") 898, Value.str (Str.ofString "/claim/cut.py") 899, Value.int 296 0, Value.int 2 0, Value.int 0 0, Value.int 0 0, Value.int 3 0, Value.ref 546, Value.bool true, Value.int 181 0, Value.ref 547, Value.none, Value.none, Value.none, Value.ref 548, Value.int 900 0, Value.int 296 0, Value.str (Str.ofString "/claim/cut.py") 901] }) ::
 (nat_lit 550, { cls := Value.type "function", data := Data.func { name := Str.ofString "_law_is_taken", qualname := Str.ofString "_law_is_taken", params := argsOf (stAt 20), body := bodyOf (stAt 20), scope := scopeOf (stAt 20), globals := 3, closure := [], defaults := Value.none, kwdefaults := Value.none, pyModule := Value.str (Str.ofString "law_rr0095_01") 840, code := Value.ref 549 } }) ::
 (nat_lit 551, { cls := Value.type "tuple", data := Data.seq #[] }) ::
 (nat_lit 554, { cls := Value.type "code", data := Data.fields #[Value.str (Str.ofString "_law_meant") 903, Value.str (Str.ofString "_law_meant") 904, Value.str (Str.ofString "/claim/cut.py") 905, Value.int 300 0, Value.int 3 0, Value.int 0 0, Value.int 0 0, Value.int 3 0, Value.ref 551, Value.bool true, Value.int 181 0, Value.ref 552, Value.none, Value.none, Value.none, Value.ref 553, Value.int 906 0, Value.int 300 0, Value.str (Str.ofString "/claim/cut.py") 907] }) ::
 (nat_lit 555, { cls := Value.type "function", data := Data.func { name := Str.ofString "_law_meant", qualname := Str.ofString "_law_meant", params := argsOf (stAt 21), body := bodyOf (stAt 21), scope := scopeOf (stAt 21), globals := 3, closure := [], defaults := Value.none, kwdefaults := Value.none, pyModule := Value.str (Str.ofString "law_rr0095_01") 840, code := Value.ref 554 } }) ::
 (nat_lit 556, { cls := Value.type "tuple", data := Data.seq #[] }) ::
 (nat_lit 558, { cls := Value.type "tuple", data := Data.seq #[Value.str (Str.ofString "signatures") 912, Value.str (Str.ofString "item") 913, Value.str (Str.ofString "fault") 914] }) ::
 (nat_lit 559, { cls := Value.type "tuple", data := Data.seq #[] }) ::
 (nat_lit 561, { cls := Value.type "code", data := Data.fields #[Value.str (Str.ofString "_law_heard") 909, Value.str (Str.ofString "_law_heard") 910, Value.str (Str.ofString "/claim/cut.py") 911, Value.int 303 0, Value.int 2 0, Value.int 0 0, Value.int 0 0, Value.int 3 0, Value.ref 556, Value.bool true, Value.int 181 0, Value.ref 557, Value.none, Value.ref 558, Value.ref 559, Value.ref 560, Value.int 915 0, Value.int 303 0, Value.str (Str.ofString "/claim/cut.py") 916] }) ::
 (nat_lit 562, { cls := Value.type "function", data := Data.func { name := Str.ofString "_law_heard", qualname := Str.ofString "_law_heard", params := argsOf (stAt 22), body := bodyOf (stAt 22), scope := scopeOf (stAt 22), globals := 3, closure := [], defaults := Value.none, kwdefaults := Value.none, pyModule := Value.str (Str.ofString "law_rr0095_01") 840, code := Value.ref 561 } }) ::
 (nat_lit 563, { cls := Value.type "tuple", data := Data.seq #[] }) ::
 (nat_lit 565, { cls := Value.type "tuple", data := Data.seq #[Value.str (Str.ofString "bell") 921, Value.str (Str.ofString "sigs") 922, Value.str (Str.ofString "opens") 923, Value.str (Str.ofString "items") 924, Value.str (Str.ofString "left") 925, Value.str (Str.ofString "taken") 926, Value.str (Str.ofString "bad") 927, Value.str (Str.ofString "item") 928, Value.str (Str.ofString "lap") 929, Value.str (Str.ofString "told") 930, Value.str (Str.ofString "fault") 931] }) ::
 (nat_lit 566, { cls := Value.type "tuple", data := Data.seq #[] }) ::
 (nat_lit 568, { cls := Value.type "code", data := Data.fields #[Value.str (Str.ofString "_law_is_model_right") 918, Value.str (Str.ofString "_law_is_model_right") 919, Value.str (Str.ofString "/claim/cut.py") 920, Value.int 309 0, Value.int 3 0, Value.int 0 0, Value.int 0 0, Value.int 3 0, Value.ref 563, Value.bool true, Value.int 181 0, Value.ref 564, Value.none, Value.ref 565, Value.ref 566, Value.ref 567, Value.int 932 0, Value.int 309 0, Value.str (Str.ofString "/claim/cut.py") 933] }) ::
 (nat_lit 569, { cls := Value.type "function", data := Data.func { name := Str.ofString "_law_is_model_right", qualname := Str.ofString "_law_is_model_right", params := argsOf (stAt 23), body := bodyOf (stAt 23), scope := scopeOf (stAt 23), globals := 3, closure := [], defaults := Value.none, kwdefaults := Value.none, pyModule := Value.str (Str.ofString "law_rr0095_01") 840, code := Value.ref 568 } }) ::
 (nat_lit 570, { cls := Value.type "tuple", data := Data.seq #[] }) ::
 (nat_lit 573, { cls := Value.type "code", data := Data.fields #[Value.str (Str.ofString "law") 935, Value.str (Str.ofString "law") 936, Value.str (Str.ofString "/claim/cut.py") 937, Value.int 325 0, Value.int 1 0, Value.int 0 0, Value.int 0 0, Value.int 3 0, Value.ref 570, Value.bool true, Value.int 181 0, Value.ref 571, Value.none, Value.none, Value.none, Value.ref 572, Value.int 938 0, Value.int 325 0, Value.str (Str.ofString "/claim/cut.py") 939] }) ::
 (nat_lit 574, { cls := Value.type "function", data := Data.func { name := Str.ofString "law", qualname := Str.ofString "law", params := argsOf (stAt 24), body := bodyOf (stAt 24), scope := scopeOf (stAt 24), globals := 3, closure := [], defaults := Value.none, kwdefaults := Value.none, pyModule := Value.str (Str.ofString "law_rr0095_01") 840, code := Value.ref 573 } }) :: []
theorem fillK : K39 = K39 → PySem.Challenge.rw_rr0095_01 = PySem.Challenge.rw_rr0095_01 → True := by
  k_fill
  intros; trivial
end
section
section
variable {prog : Program} {w : World} {A : Around} {E : Value → Shared → Prop} {s : Shared} {h₀ : Heap} {L : Addr} {m : Str → Option Value} {news : List (Addr × Obj)}
abbrev tupO (vs : List Value) : Obj := { cls := .type "tuple", data := .seq vs.toArray }

theorem slice15 {sl : Addr} {u1 u2 : Tok} {Q : Int × Int × Nat → Shared → Prop} (hs : s.heap.IsSliceOf sl (.int 1 u1) (.int 5 u2) .none) (h : Q (1, 1, 4) s) :
    wpAny (model prog w) A (Builtin.Slice.sliceApplied (.ref sl) (pure (5 : Int))) Q E s := by
  obtain ⟨os, hos, hcs, hds⟩ := id hs
  unfold Builtin.Slice.sliceApplied Builtin.Slice.sliceFields
  refine wpAny_bind (wpAny_bind (wpAny_field hos hds (x := .int 1 u1) rfl (wpAny_bind (wpAny_field hos hds (x := .int 5 u2) rfl (wpAny_bind (wpAny_field hos hds (x := .none) rfl (wpAny_pure ?_)))))))
  refine wpAny_bind (slicePart_none ?_)
  show wpAny _ _ (if ((1 : Int) == 0) = true then _ else _) _ _ s
  rw [if_neg (by decide)]
  refine wpAny_bind (slicePart_int (wpAny_bind (slicePart_int (wpAny_bind (wpAny_pure ?_)))))
  exact wpAny_pure h

theorem getItem15 {t sl : Addr} {v0 v1 v2 v3 v4 : Value} {u1 u2 : Tok} {Q : Value → Shared → Prop} (ht : IsTup s.heap t [v0, v1, v2, v3, v4].toArray) (hs : s.heap.IsSliceOf sl (.int 1 u1) (.int 5 u2) .none)
    (h : Q (.ref s.heap.objs.size) { s with heap := s.heap.push (tupO [v1, v2, v3, v4]) }) : wpAny (model prog w) A (getItem (.ref t) (.ref sl)) Q E s := by
  obtain ⟨os, hos, hcs, hds⟩ := id hs
  have hTs : s.TypeIs (.ref sl) "slice" := ⟨os, hos, hcs⟩
  have hdrop : sizeOk (.seq [v1, v2, v3, v4].toArray) := by
    show [v1, v2, v3, v4].toArray.size ≤ sizeLine
    exact Nat.le_of_ble_eq_true rfl
  unfold getItem
  try with_reducible refine wpAny_holding ?_
  refine wpAny_bind (wpAny_sequenceKey ht.typeIs (by decide) ?_)
  refine wpAny_bind (wpAny_callSpecial?_slot (name := Str.ofString "__getitem__") ht.typeIs slot_tuple_getitem
    (wpAny_call_entry slot_tuple_getitem ht.typeIs entry_tuple_getitem ?_ (args_tuple_getitem _ _)))
  show wpAny _ _ (Builtin.Tuple.tupleItemsOf (.ref t) >>= _) _ _ s
  refine wpAny_bind (tupleItemsOf_ ht ?_)
  refine wpAny_bind (wpAny_typeOf hTs ?_)
  rw [if_pos (by decide)]
  refine wpAny_bind (slice15 (u1 := u1) (u2 := u2) hs ?_)
  show wpAny _ _ (if ((1 : Int) == 0 && (1 : Int) == 1 && (4 == 5)) = true then _ else _) _ _ s
  rw [if_neg (by decide)]
  first
    | exact wpAny_bind (m := Builtin.Tuple.tupleExact _) (wpAny_newObj_type (wpAny_pure ⟨_, rfl, wpAny_pure h⟩) hdrop)
    | exact wpAny_bind (m := Builtin.Tuple.tupleExact _) (wpAny_newObj_type (wpAny_bind (wpAny_pure (wpAny_pure ⟨_, rfl, wpAny_pure h⟩))) hdrop)
    | exact wpAny_bind (wpAny_bind (m := Builtin.Tuple.tupleExact _) (wpAny_newObj_type (wpAny_pure (wpAny_pure ⟨_, rfl, wpAny_pure h⟩)) hdrop))
    | exact wpAny_bind (wpAny_bind (m := Builtin.Tuple.tupleExact _) (wpAny_newObj_type (wpAny_pure ⟨_, rfl, wpAny_pure h⟩) hdrop))

theorem cut15 {value slice : Expr} {t : Addr} {v0 v1 v2 v3 v4 : Value} {u1 u2 : Tok} {Q : Value → Shared → Prop}
    (F : Fr h₀ L s.heap m) (N : News h₀ L s.heap news) (ht : (t, tupO [v0, v1, v2, v3, v4]) ∈ news)
    (h : ∀ D h', Fr h₀ L h' m → News h₀ L h' ((D, tupO [v1, v2, v3, v4]) :: news) → (∀ p ∈ news, p.1 < D) → Q (.ref D) { s with heap := h' })
    (hs : subscripted slice false (.ref t) (.ref s.heap.objs.size) = operate [.ref s.heap.objs.size, .ref t] (getItem (.ref t) (.ref s.heap.objs.size)) := by with_unfolding_all rfl)
    (hg : ∀ r, letTemporaryGo value (.ref t) r = pure () := by intro _; with_unfolding_all rfl) :
    wpAny (model prog w) A (subscriptTail value slice (.ref t) (.ref s.heap.objs.size)) Q E { s with heap := s.heap.push { cls := .type "slice", data := .fields #[.int 1 u1, .int 5 u2, .none] } } := by
  have ht0 : IsTup s.heap t [v0, v1, v2, v3, v4].toArray := ⟨_, (N _ ht).1, rfl, _, rfl⟩
  have ht' : IsTup (s.heap.push { cls := .type "slice", data := .fields #[.int 1 u1, .int 5 u2, .none] }) t [v0, v1, v2, v3, v4].toArray := ht0.keeps fun _ _ e => Heap.get?_push_of_some _ e
  refine subscriptTail_ops (s := { s with heap := s.heap.push { cls := .type "slice", data := .fields #[.int 1 u1, .int 5 u2, .none] } }) ht'.typeIs slot_tuple_getitem.lookup
    (getItem15 ht' (Heap.IsSliceOf.new ..) ?_) hs hg
  have N1 := News.push (F.push { cls := .type "slice", data := .fields #[.int 1 u1, .int 5 u2, .none] }) (N.grown fun _ _ e => Heap.get?_push_of_some _ e) (tupO [v1, v2, v3, v4])
  rw [Heap.size_push] at N1
  show Q (.ref (s.heap.push _).objs.size) _
  rw [Heap.size_push]
  exact h _ _ ((F.push _).push _) N1 fun p hp => Nat.lt_succ_of_lt (Heap.lt_size (N p hp).1)

theorem tupN {t : Addr} {vs : List Value} {h : Heap} (N : News h₀ L h news) (ht : (t, tupO vs) ∈ news) : IsTup h t vs.toArray := ⟨_, (N _ ht).1, rfl, _, rfl⟩
theorem len_tupN {t : Addr} {vs : List Value} {xs : List Str} {Q : Value → Shared → Prop} (N : News h₀ L s.heap news) (ht : (t, tupO vs) ∈ news) (hs : StrsAre vs xs) (hb : xs.length ≤ 1000)
    (h : Q (.int (xs.length : Int) (s.toks + 1)) { s with toks := s.toks + 1 + 1 }) : wpAny (model prog w) A (call (.builtin "len") [.ref t]) Q E s := by
  have e := hs.len_eq
  refine len_tuple (tupN N ht) (by rw [List.size_toArray]; kpa_ne) ?_
  rw [List.size_toArray, e]
  exact h
theorem item0N {value slice : Expr} {t : Addr} {vs : List Value} {xs : List Str} {u : Tok} {Q : Value → Shared → Prop} (N : News h₀ L s.heap news) (ht : (t, tupO vs) ∈ news) (hs : StrsAre vs xs) (hb : 0 < xs.length)
    (h : ∀ x r tk, xs = x :: r → Q (.str x tk) s)
    (hsub : subscripted slice false (.ref t) (.int 0 u) = operate [.ref t, .int 0 u] (getItem (.ref t) (.int 0 u)) := by with_unfolding_all rfl) :
    wpAny (model prog w) A (subscriptTail value slice (.ref t) (.int 0 u)) Q E s := by
  cases xs with
  | nil => exact absurd hb (Nat.lt_irrefl _)
  | cons x r =>
    obtain ⟨tk, hx⟩ := hs.at (j := 0) (y := x) rfl
    cases vs with
    | nil => cases hx
    | cons v vr =>
      cases hx
      exact item_tupleT (j := 0) (tupN N ht) (by decide) (by decide) (by unfold seqIndex?; simp) rfl (h x r tk rfl) hsub
end
section
variable {M : Model} {A : Around} {E : Value → Shared → Prop} {s : Shared} {env : Env}
/-- a text's growth, of which only the length is kept -/
def Grow (out y : Str) (k : Str → Prop) : Prop := (out.length ≤ 2000 ∧ y.length ≤ 100) ∧ ∀ z : Str, z.length ≤ out.length + y.length → k z
theorem Grow.of {out y : Str} {k : Str → Prop} (h1 : out.length ≤ 2000) (h2 : y.length ≤ 100) (h : ∀ z : Str, z.length ≤ out.length + 100 → k z) : Grow out y k :=
  ⟨⟨h1, h2⟩, fun z hz => h z (by kpa_ne)⟩
theorem joinF_nil {out : Str} {Q : Value → Shared → Prop} (hz : out.length ≤ 2000) (h : ∀ (z : Str) (t : Tok), z.length ≤ 2000 → Q (.str z t) { s with toks := s.toks + 1 }) : wpAny M A (joinParts out []) Q E s :=
  joinParts_nil (h _ _ hz) (by rw [sizeLine_eq]; kpa_ne)
theorem joinF_cons {out : Str} {x : Sem Value} {rest : List (Sem Value)} {Q : Value → Shared → Prop}
    (h : wpAny M A x (fun v s₁ => match v with | .str y _ => Grow out y (fun z => wpAny M A (joinParts z rest) Q E s₁) | _ => False) E s) : wpAny M A (joinParts out (x :: rest)) Q E s := by
  refine joinParts_cons (wpAny_mono h (fun v s₁ h₁ => ?_) fun _ _ e => e)
  cases v <;> first
    | exact h₁.elim
    | exact ⟨by rw [strLen_append, sizeLine_eq]; have := h₁.1; kpa_ne, h₁.2 _ (by rw [strLen_append]; exact Nat.le_refl _)⟩
theorem joinF_nilE {out : Str} {Q : Value → Shared → Prop} (hz : out.length ≤ 2000) (h : ∀ (z : Str) (t : Tok), z.length ≤ 2000 → Q (.str z t) { s with toks := s.toks + 1 }) : wpAny M A (joinParts out (evalEach [] env)) Q E s := joinF_nil hz h
theorem joinF_consE {out : Str} {e : Expr} {es : List Expr} {Q : Value → Shared → Prop}
    (h : wpAny M A (eval e env) (fun v s₁ => match v with | .str y _ => Grow out y (fun z => wpAny M A (joinParts z (evalEach es env)) Q E s₁) | _ => False) E s) : wpAny M A (joinParts out (evalEach (e :: es) env)) Q E s := joinF_cons h
theorem short_nat {n : Nat} (h : n ≤ 1000) : (Str.ofString (toString (n : Int))).length ≤ 100 := by
  rw [PySem.ofString_length]
  have := int_text_length_le10 (a := (n : Int)) (k := 5) (by decide) (by kpa_ne)
  kpa_ne
end
end
section
abbrev excO (C t : Addr) (dx : Option Addr) : Obj := { cls := .ref C, dict := dx, data := .fields #[.ref t, .none, .none, .none, .bool false, .none] }
section
variable {w : World} {A : Around} {E : Value → Shared → Prop} {h : Heap} {g : Array GenState} {d : Drawn} {t : Nat} {os : OsState} {R : Result → Shared → Prop}
theorem kf_init (X : (K39 w.params).In h) : Looks (model PySem.Challenge.rw_rr0095_01.row.prog w) h (typeLookup (.ref 88) "__init__") (some (.ref 66)) := looks_findIn X (by k_is)
theorem kf_check (X : (K39 w.params).In h) (x : Str) (tx : Tok) (i : Int) (u : Tok) : Looks (model PySem.Challenge.rw_rr0095_01.row.prog w) h (checkBuiltinCall "Exception.__new__" ⟨[.ref 88, .str x tx, .int i u], []⟩) () := Looks.of_peek X (by kernel_rfl)
theorem kf_madeHere (X : (K39 w.params).In h) : Looks (model PySem.Challenge.rw_rr0095_01.row.prog w) h (Bind.madeHere "BaseException.__new__" (.ref 88)) () := Looks.of_peek X (by kernel_rfl)
theorem kf_madeBy (X : (K39 w.params).In h) : Looks (model PySem.Challenge.rw_rr0095_01.row.prog w) h (Bind.madeBy (.ref 88)) (some "Exception.__new__") := Looks.of_peek X (by kernel_rfl)
theorem kf_isExc (X : (K39 w.params).In h) : Looks (model PySem.Challenge.rw_rr0095_01.row.prog w) h (isSubtype (.ref 88) (.type "Exception")) true := Looks.of_peek X (by kernel_rfl)
theorem kf_isAttr (X : (K39 w.params).In h) : Looks (model PySem.Challenge.rw_rr0095_01.row.prog w) h (isSubtype (.ref 88) (.type "AttributeError")) false := Looks.of_peek X (by kernel_rfl)
theorem kf_isName (X : (K39 w.params).In h) : Looks (model PySem.Challenge.rw_rr0095_01.row.prog w) h (isSubtype (.ref 88) (.type "NameError")) false := Looks.of_peek X (by kernel_rfl)
theorem kf_isSelf (X : (K39 w.params).In h) : Looks (model PySem.Challenge.rw_rr0095_01.row.prog w) h (isSubtype (.ref 88) (.ref 88)) true := Looks.of_peek X (by kernel_rfl)
theorem kf_isType (X : (K39 w.params).In h) : Looks (model PySem.Challenge.rw_rr0095_01.row.prog w) h (isType (.ref 88)) true := Looks.of_peek X (by kernel_rfl)
theorem kf_call (X : (K39 w.params).In h) : Looks (model PySem.Challenge.rw_rr0095_01.row.prog w) h (specialOf (.ref 88) "__call__") (some (.builtin "type.__call__")) := looks_specialIn X (by k_is)
theorem kf_isMeta (X : (K39 w.params).In h) : Looks (model PySem.Challenge.rw_rr0095_01.row.prog w) h (isInstance (.ref 88) (.type "type")) true := looks_instIn X (by k_is)
theorem kf_mro (X : (K39 w.params).In h) : Looks (model PySem.Challenge.rw_rr0095_01.row.prog w) h (mroOf (.ref 88)) [.ref 88, .ref 76, .ref 47, .type "Exception", .type "BaseException", .type "object"] := Looks.of_peek X (by kernel_rfl)
theorem kf_obj (X : (K39 w.params).In h) : ∃ oc od cd sl, h.get? 88 = some ⟨oc, od, .cls cd, sl⟩ ∧ cd.hasDel = false ∧ cd.abstract = false ∧ cd.mro.isEmpty = false := by
  refine ⟨_, _, _, _, X 88 _ (by k_is), rfl, rfl, rfl⟩

theorem exc_new {x : Str} {tx u : Tok} {i : Int} (X : (K39 w.params).In h)
    (hq : R (.ok (.ret (.ref (h.objs.size + 1)))) ⟨(h.push (tupO [.str x tx, .int i u])).push (excO 88 h.objs.size none), g, d, t, os⟩) :
    codeAny (model PySem.Challenge.rw_rr0095_01.row.prog w) A (.call (.builtin "Exception.__new__") ⟨[.ref 88, .str x tx, .int i u], []⟩) R ⟨h, g, d, t, os⟩ := by
  have F := PySem.F.excBase_Exception
  have hends := F.ends
  refine codeAny_call_builtin_code (Code.quiet_builtin _ F.quiet) (Looks.at (kf_check X x tx i u) ?_)
  refine codeAny_builtinAt F.entry ?_
  unfold Builtin.«BaseException.__new__»
  refine _root_.PySem.wpAt_bind ?_
  show _root_.PySem.wpAt _ _ _ (stack >>= _) _ _ _
  refine _root_.PySem.wpAt_bind (_root_.PySem.wpAt_stack fun p below => _root_.PySem.wpAt_of_wpAny ?_)
  wp_walk
  refine _root_.PySem.wpAt_of_wpAny ?_
  rw [F.owner]
  have X1 : (K39 w.params).In (h.push (tupO [.str x tx, .int i u])) := fun a o e => Heap.get?_push_of_some _ (X a o e)
  obtain ⟨oc, od, cd, sl, hC, e1, e2, e3⟩ := kf_obj X1
  have hC2 := Heap.get?_push_of_some (excO 88 h.objs.size none) hC
  repeat (first | (with_reducible refine Looks.at (kf_isType X) ?_) | (with_reducible refine Looks.at (kf_isExc X) ?_) | (with_reducible refine Looks.at (kf_isAttr X) ?_) | (with_reducible refine Looks.at (kf_isName X) ?_) | (with_reducible refine Looks.at (kf_madeHere X) ?_) | (with_reducible refine wpAny_loadPart_at hC2 ?_) | wp_step)
  show R _ _
  rw [Heap.size_push]
  exact hq

theorem make_exc {x : Str} {tx u : Tok} {i : Int} (X : (K39 w.params).In h)
    (hq : codeAny (model PySem.Challenge.rw_rr0095_01.row.prog w) (A.under (.builtin "type.__call__" ⟨[.ref 88, .str x tx, .int i u], []⟩)) (.call (.ref 66) ⟨[.ref (h.objs.size + 1), .str x tx, .int i u], []⟩) (InitBack (h.objs.size + 1) R)
      ⟨(h.push (tupO [.str x tx, .int i u])).push (excO 88 h.objs.size none), g, d, t, os⟩) :
    codeAny (model PySem.Challenge.rw_rr0095_01.row.prog w) A (.call (.ref 88) ⟨[.str x tx, .int i u], []⟩) R ⟨h, g, d, t, os⟩ := by
  obtain ⟨oc, od, cd, sl, hC, e1, e2, e4⟩ := kf_obj X
  have call := kf_call X
  have made := kf_madeBy X
  have hi := kf_init X
  have self := kf_isSelf X
  have hm : Looks (model PySem.Challenge.rw_rr0095_01.row.prog w) h (mroOf (.ref 88)) cd.mro := ((Looks.ld (part := none) hC).andThen .now).andThen .now
  refine codeAny_of_tree ?_
  show wpAny _ _ (callAny (.ref 88) _) _ _ _
  refine nd_load hC ?_
  show wpAny _ _ (callAny.viaDunder (.ref 88) _) _ _ _
  unfold callAny.viaDunder
  refine wpAny_bind (call.at ?_)
  dsimp only
  rw [tc_bind]
  refine wpAny_bind (wpAny_pure (wpAny_bind (wpAny_pure ?_)))
  refine wpAny_pure (a := Fin.again (.call (.builtin "type.__call__") ⟨[.ref 88, .str x tx, .int i u], []⟩)) (And.intro rfl ?_)
  refine codeAny_call_builtin_at (Code.quiet_builtin _ (by decide +kernel)) entry_typeCall (check_slot tc_kind tc_split (kf_isMeta X) (tc_args _ _ _) ?_)
  unfold Builtin.«type.__call__»
  repeat (first | simp only [e4, Bool.false_eq_true, if_false] | with_reducible refine wpAny_call ?_ | lk)
  refine exc_new X ?_
  have k : ∀ b o, h.get? b = some o → ((h.push (tupO [.str x tx, .int i u])).push (excO 88 h.objs.size none)).get? b = some o := fun b o e => Heap.get?_push_of_some _ (Heap.get?_push_of_some _ e)
  have hx : ((h.push (tupO [.str x tx, .int i u])).push (excO 88 h.objs.size none)).get? (h.objs.size + 1) = some (excO 88 h.objs.size none) := by heap_get
  have t1 : Looks (model PySem.Challenge.rw_rr0095_01.row.prog w) ((h.push (tupO [.str x tx, .int i u])).push (excO 88 h.objs.size none)) (typeOf (.ref (h.objs.size + 1))) (.ref 88) := (Looks.ld hx).andThen .now
  have s1 := self.keeps k
  have i1 := hi.keeps k
  have b1 := (bind_fn (M := model PySem.Challenge.rw_rr0095_01.row.prog w) X (.ref (h.objs.size + 1)) (show typeIn (K39 w.params) (.ref 66) = some (.type "function") by k_is)).keeps k
  unfold isInstance callSpecial? specialOf
  repeat (first | with_reducible refine wpAny_call ?_ | lk)
  refine codeAny_mono hq fun r s' z => ?_
  rcases r with e | (v | _ | _ | _) <;> first | exact z | exact z.elim | skip
  obtain ⟨rfl, z⟩ := z
  exact wpAny_pure (wpAny_pure z)
end
end
section
section
variable {w : World} {A : Around} {E : Value → Shared → Prop} {h : Heap} {g : Array GenState} {d : Drawn} {t : Nat} {os : OsState} {R : Result → Shared → Prop}
theorem kf_opaque (X : (K39 w.params).In h) : Looks (model PySem.Challenge.rw_rr0095_01.row.prog w) h (opaqueClassAbove (.ref 88)) none := Looks.of_peek X (by kernel_rfl)
theorem own_init : classOwn (.type "Exception") "__init__" = pure (some (.builtin "Exception.__init__")) := by kernel_rfl
theorem ty_init : builtinType "Exception.__init__" = pure (.type "wrapper_descriptor") := by kernel_rfl
theorem lk_wd : typeLookup (.type "wrapper_descriptor") "__get__" = pure (some (.builtin "wrapper_descriptor.__get__")) := by rw [typeLookup_type, builtinLookup_eq_fast]; kernel_rfl
theorem slot_wd : Slot "wrapper_descriptor" "__get__" "wrapper_descriptor.__get__" := .of (owner := "wrapper_descriptor") (n := "__get__") (by rw [typeLookup_type, builtinLookup_eq_fast]; kernel_rfl) (by decide +kernel) (by decide +kernel) (by decide +kernel)
  (by first | exact .inl (by decide +kernel) | exact .inr (by decide +kernel)) (by rw [isSubtype_type]; kernel_rfl)
theorem entry_wd : entryFor table "wrapper_descriptor.__get__" = some Builtin.«wrapper_descriptor.__get__» := entryFor_of_tree (by kernel_rfl)
theorem args_wd (a b c : Value) : argsOk "wrapper_descriptor.__get__" ⟨[a, b, c], []⟩ := by unfold argsOk; kernel_rfl
theorem along_init {w : World} : alongIn (K39 w.params) "__init__" [.type "Exception", .type "BaseException", .type "object"] = some (some (.builtin "Exception.__init__")) := by kernel_rfl
theorem drop47 : ([Value.ref 88, .ref 76, .ref 47, .type "Exception", .type "BaseException", .type "object"].dropWhile (· != .ref 47)).drop 1 = [.type "Exception", .type "BaseException", .type "object"] := by decide +kernel

abbrev mwO (e : Addr) : Obj := { cls := .type "method-wrapper", data := .fields #[.builtin "Exception.__init__", .ref e] }
set_option maxHeartbeats 0 in
theorem super_gaB {so D e C : Addr} {tk : Tok} {l₀ l : List Value} {K : Frag} {name : Str} {id : String} {Q : PySem.Fin → Shared → Prop} (X : K.In h)
    (hso : h.get? so = some { cls := .type "super", dict := none, data := .fields #[.ref D, .ref e, .ref C], slots := #[] }) (hno : Looks (model PySem.Challenge.rw_rr0095_01.row.prog w) h (opaqueClassAbove (.ref C)) none)
    (hC : Looks (model PySem.Challenge.rw_rr0095_01.row.prog w) h (mroOf (.ref C)) l₀) (hl : (l₀.dropWhile (· != .ref D)).drop 1 = l)
    (hf : alongIn K name l = some (some (.builtin id))) (hty : builtinType id = pure (.type "wrapper_descriptor"))
    (hxC : e ≠ C) (hn : (name == ("__class__" : Str)) = false)
    (hget : wpAny (model PySem.Challenge.rw_rr0095_01.row.prog w) A.in1 (Builtin.«wrapper_descriptor.__get__» ⟨[.builtin id, .ref e, .ref C], []⟩) (fun fin s' => fin = .done (.ret (.ref h.objs.size)) ∧ s' = ⟨h.push { cls := .type "method-wrapper", data := .fields #[.builtin id, .ref e] }, g, d, t, os⟩) (fun _ _ => False) ⟨h, g, d, t, os⟩)
    (hq : Q (.done (.ret (.ref h.objs.size))) ⟨h.push { cls := .type "method-wrapper", data := .fields #[.builtin id, .ref e] }, g, d, t, os⟩) :
    wpAny (model PySem.Challenge.rw_rr0095_01.row.prog w) A (Builtin.«super.__getattribute__» ⟨[.ref so, .str name tk], []⟩) Q E ⟨h, g, d, t, os⟩ := by
  have hlk := slot_wd.lookup
  have hne : (Value.ref e == Value.ref C) = false := by simp [hxC]
  have hTf : (⟨h, g, d, t, os⟩ : Shared).TypeIs (.builtin id) "wrapper_descriptor" := hty
  have hdt : ({ cls := .type "super", dict := none, data := .fields #[.ref D, .ref e, .ref C], slots := #[] } : Obj).data = .fields #[.ref D, .ref e, .ref C] := rfl
  have f0 : (#[.ref D, .ref e, .ref C] : Array Value)[0]? = some (.ref D) := rfl
  have f1 : (#[.ref D, .ref e, .ref C] : Array Value)[1]? = some (.ref e) := rfl
  have f2 : (#[.ref D, .ref e, .ref C] : Array Value)[2]? = some (.ref C) := rfl
  unfold Builtin.«super.__getattribute__»
  iterate 30 (first
    | (with_reducible refine wpAny_field hso hdt f0 ?_) | (with_reducible refine wpAny_field hso hdt f1 ?_) | (with_reducible refine wpAny_field hso hdt f2 ?_)
    | (with_reducible refine ks_wpAny_notOpaque hno ?_)
    | (with_reducible refine Looks.at hC ?_; rw [hl])
    | (refine ks_forIn_along X (fun _ _ => rfl) rfl ?_ hf)
    | (with_reducible refine wpAny_typeOf hTf ?_)
    | (simp only [hn, hne, Bool.or_false, Bool.false_eq_true, if_false])
    | wp_step
    | dsimp only)
  refine wpAny_bind (wpAny_holding (wpAny_call_entry slot_wd hTf entry_wd ?_ (args_wd _ _ _)))
  refine wpAny_mono hget (fun fin s' z => ?_) fun _ _ z => z.elim
  obtain ⟨rfl, rfl⟩ := z
  exact ⟨_, rfl, wpAny_bind (wpAny_pure (wpAny_pure (wpAny_pure hq)))⟩
theorem get_mw {e : Addr} {oe : Obj} {Q : PySem.Fin → Shared → Prop} (X : (K39 w.params).In h) (he : h.get? e = some oe) (hec : oe.cls = .ref 88)
    (hq : Q (.done (.ret (.ref h.objs.size))) ⟨h.push (mwO e), g, d, t, os⟩) :
    wpAny (model PySem.Challenge.rw_rr0095_01.row.prog w) A (Builtin.«wrapper_descriptor.__get__» ⟨[.builtin "Exception.__init__", .ref e, .ref 88], []⟩) Q E ⟨h, g, d, t, os⟩ := by
  have hto : Looks (model PySem.Challenge.rw_rr0095_01.row.prog w) h (typeOf (.ref e)) (.ref 88) := hec ▸ (Looks.ld he).andThen .now
  have hin : Looks (model PySem.Challenge.rw_rr0095_01.row.prog w) h (isInstance (.ref e) (.type "Exception")) true := hto.andThen (kf_isExc X)
  unfold Builtin.«wrapper_descriptor.__get__»
  iterate 12 (first | (with_reducible refine Looks.at hin ?_) | wp_step)
  refine wpAny_of_eq (a := (("__init__" : Str), Value.type "Exception")) (by kernel_rfl) ?_
  dsimp only
  refine wpAny_bind (Looks.at hin ?_)
  repeat (first | (with_reducible refine wpAny_newObj_type ?_ (by size_fits)) | wp_step)
  exact hq

theorem getMethod_mw {so e : Addr} {oe : Obj} {pl : Sem Bool} {Q : Value × List Value → Shared → Prop} (X : (K39 w.params).In h)
    (hso : h.get? so = some { cls := .type "super", dict := none, data := .fields #[.ref 47, .ref e, .ref 88], slots := #[] }) (he : h.get? e = some oe) (hec : oe.cls = .ref 88) (hne : e ≠ 88)
    (hq : Q (.ref h.objs.size, []) ⟨h.push (mwO e), g, d, t + 1, os⟩) :
    wpAny (model PySem.Challenge.rw_rr0095_01.row.prog w) A (getMethod (.ref so) "__init__" pl) Q E ⟨h, g, d, t, os⟩ := by
  have hlk := F.ks_slot_super_ga.lookup
  have hcan := F.ks_canon_super_ga
  have hT : ∀ t', (⟨h, g, d, t', os⟩ : Shared).TypeIs (.ref so) "super" := fun _ => ⟨_, hso, rfl⟩
  unfold getMethod
  refine wpAny_bind (wpAny_specialOf (hT _) hlk ?_)
  show wpAny _ _ (if (Manifest.canonical "super.__getattribute__" != "object.__getattribute__") = true then _ else _) _ _ _
  rw [if_pos hcan]
  unfold getAttr getAttrBy
  refine wpAny_bind (wpAny_bind (wpAny_mkText (wpAny_holding (wpAny_bind (wpAny_typeOf (hT _) (wpAny_bind (wpAny_of_eq hlk ?_)))))))
  show wpAny _ _ (getAttrByItsOwn (.ref so) (.str "__init__" t) (.type "super") (.builtin "super.__getattribute__") true false) _ _ _
  unfold getAttrByItsOwn hookBefore callGetattribute boundAndCalled
  refine wpAny_bind (wpAny_of_eq (show (if onTheHeap (.type "super") then typeLookup (.type "super") "__getattr__" else pure none) = pure none from rfl) ?_)
  refine wpAny_bind (wpAny_attempt (wpAny_holding ?_))
  show wpAny _ _ (bindSpecial (.builtin "super.__getattribute__") (.ref so) >>= _) _ _ _
  refine wpAny_bind (wpAny_of_eq (F.ks_slot_super_ga.bind _) ?_)
  refine wpAny_mono (Q := fun v s' => v = .ref h.objs.size ∧ s' = ⟨h.push (mwO e), g, d, t + 1, os⟩) (E := fun _ _ => False)
    (wpAny_call_entry F.ks_slot_super_ga (hT _) F.ks_entry_super_ga (super_gaB X hso (kf_opaque X) (kf_mro X) drop47 along_init ty_init hne (by decide) (get_mw X he hec ⟨rfl, rfl⟩) ⟨_, rfl, rfl, rfl⟩) (F.ks_gaArgs_super _ _)) (fun v s' hv => ?_) fun _ _ z => z.elim
  obtain ⟨rfl, rfl⟩ := hv
  exact wpAny_pure (wpAny_pure hq)
end
section
variable {w : World} {A : Around} {E : Value → Shared → Prop} {s : Shared} {h₀ : Heap} {L : Addr} {m : Str → Option Value} {news : List (Addr × Obj)}
theorem super_mw {so e : Addr} {oe : Obj} {pl : Sem Bool} {Q : Value × List Value → Shared → Prop} (F : Fr h₀ L s.heap m) (X₀ : (K39 w.params).In h₀) (N : News h₀ L s.heap news)
    (hso : (so, ks_superObj 47 e 88) ∈ news) (he : (e, oe) ∈ news) (hec : oe.cls = .ref 88)
    (h : ∀ q h', Fr h₀ L h' m → News h₀ L h' ((q, mwO e) :: news) → (∀ p ∈ news, p.1 < q) → Q (.ref q, []) { s with heap := h', toks := s.toks + 1 }) :
    wpAny (model PySem.Challenge.rw_rr0095_01.row.prog w) A (getMethod (.ref so) "__init__" pl) Q E s := by
  have X : (K39 w.params).In s.heap := X₀.keeps F.keep
  have hne : e ≠ 88 := by
    rintro rfl
    obtain ⟨oc, od, cd, sl, hC, _⟩ := kf_obj X₀
    have := (N _ he).2.2
    rw [hC] at this
    cases this
  obtain ⟨hh, g, d, t, os⟩ := s
  refine getMethod_mw X (N _ hso).1 (N _ he).1 hec hne ?_
  obtain ⟨F', N', l'⟩ := ks_newsPush (s := ⟨hh, g, d, t, os⟩) (o := mwO e) F N rfl (Heap.get?_push_at rfl rfl) (fun b o e => Heap.get?_push_of_some _ e)
  exact h _ _ F' N' l'
def MwAt (q e : Addr) (h : Heap) : Prop := h.get? q = some (mwO e)
theorem mw_keeper {M : Model} {q e : Addr} (h : Heap) (x : MwAt q e h) : ∃ k, (k = Keeper.frame ∨ k = Keeper.machine ∨ k = Keeper.boundFrame) ∧ Looks M h (keeperOf (.ref q)) k := by
  refine ⟨.machine, .inr (.inl rfl), ?_⟩
  unfold keeperOf
  exact (Looks.ld (part := none) x).andThen .now
theorem callWith_mw {M : Model} {q e : Addr} {pos : Pos} {first : List Value} {env : Env} {e1 : Expr} {rest : List Expr} {Q : Value → Shared → Prop} (N : News h₀ L s.heap news) (hm : (q, mwO e) ∈ news)
    (h : wpAny M A (spliced (backTo pos (starEach (e1 :: rest) env))) (fun vs s₁ => MwAt q e s₁.heap ∧ wpAny M A (call (.ref q) (first ++ vs)) Q E s₁) E s)
    (he : starEach (e1 :: rest) env = (false, eval e1 env) :: starEach rest env := by rfl) (hplain : (backTo pos (starEach rest env)).any (·.1) = false := by rfl) :
    wpAny M A (callWith pos (.ref q) first (backTo pos (starEach (e1 :: rest) env)) []) Q E s := by
  rw [he] at h ⊢
  exact callWith_of (by show ((false || (backTo pos (starEach rest env)).any (·.1)) || false) = false; rw [hplain]; rfl) mw_keeper (evalArgs_plain h)
theorem check_bound {hp : Heap} {g : Array GenState} {d : Drawn} {tk : Nat} {os : OsState} {e : Addr} {oe : Obj} {rest : List Value} {Q : Unit → Shared → Prop} (X : (K39 w.params).In hp) (he : hp.get? e = some oe) (hec : oe.cls = .ref 88) (h : Q () ⟨hp, g, d, tk, os⟩) :
    wpAny (model PySem.Challenge.rw_rr0095_01.row.prog w) A (checkBoundCall "Exception.__init__" ⟨.ref e :: rest, []⟩) Q E ⟨hp, g, d, tk, os⟩ := by
  have F := PySem.F.excBase_Exception
  have hshort := F.noStar
  obtain ⟨oc, od, cd, sl, hC, e1, e2, e4⟩ := kf_obj X
  simp only [checkBoundCall, F.initKind, F.initRow]
  repeat (first | (with_reducible refine wpAny_loadPart_at he ?_; rw [hec]) | with_reducible refine wpAny_loadPart_at hC ?_ | wp_step)
  refine wpAny_onRaise ?_
  rw [show ∀ (a b : String) (n : Nat), Bind.check ⟨.positional, "*", "Exception", .self, [⟨"args", .varPos, false⟩]⟩ a b n (List.map (fun x => x.fst) ({ pos := Value.ref e :: rest } : Args).kw) = pure () from
    fun a b n => check_star_args _ _ _ _ _ _]
  exact wpAny_pure h
theorem mw_call {q e t : Addr} {x : Str} {tx : Tok} {gN : Obj → List (Addr × Obj)} {dx : Option Addr} {Q : Value → Shared → Prop} (F : Fr h₀ L s.heap m) (N : News h₀ L s.heap news) (hm : (q, mwO e) ∈ news) (U : UpdF e (excO 88 t dx) news gN)
    (X₀ : (K39 w.params).In h₀) (h : ∀ h' t', Fr h₀ L h' m → News h₀ L h' ((t', tupO [.str x tx]) :: gN (excO 88 t' dx)) → (∀ p ∈ news, p.1 < t') → Q .none { s with heap := h' }) :
    wpAny (model PySem.Challenge.rw_rr0095_01.row.prog w) A (call (.ref q) [.str x tx]) Q E s := by
  have hq : s.heap.get? q = some (mwO e) := (N _ hm).1
  have X : (K39 w.params).In s.heap := X₀.keeps F.keep
  obtain ⟨pre, post, rfl, hg, o1, o2⟩ := U.split
  have hem : s.heap.get? e = some (excO 88 t dx) := (N (e, excO 88 t dx) (by simp)).1
  obtain ⟨hh, g, d, tk, os⟩ := s
  refine wpAny_call (codeAny_of_tree ?_)
  show wpAny _ A.in1 (callAny (.ref q) ⟨[.str x tx], []⟩) _ _ _
  simp only [callAny]
  refine wpAny_bind (wpAny_load hq ?_)
  dsimp only
  rw [if_pos (by decide)]
  show wpAny _ _ (if (Value.type "method-wrapper" != Value.type "method") = true then _ else _) _ _ _
  rw [if_pos (by decide)]
  refine wpAny_bind (check_bound X hem rfl ?_)
  refine wpAny_pure ⟨plainId_quiet (by decide +kernel) _, codeAny_builtin PySem.F.excBase_Exception.initEntry ?_⟩
  unfold Builtin.«BaseException.__init__»
  repeat wp_step
  show Q _ _
  obtain ⟨F', N', l'⟩ := ks_newsPush (s := ⟨hh, g, d, tk, os⟩) (o := tupO [.str x tx]) F N rfl (Heap.get?_push_at rfl rfl) (fun b o e => Heap.get?_push_of_some _ e)
  have z := news_upd (pre := (hh.objs.size, tupO [.str x tx]) :: pre) (post := post) (o := excO 88 t dx) (o' := excO 88 hh.objs.size dx) (f := Obj.mapFields fun x => x.setIfInBounds 0 (Value.ref hh.objs.size)) F' N'
    (fun p hp => by
      rcases List.mem_cons.mp hp with rfl | hp
      · exact Nat.ne_of_gt (Heap.lt_size hem)
      · exact o1 p hp) o2 rfl rfl
  exact h _ hh.objs.size z.1 (hg _ ▸ z.2) l'
end
end
section
open PySem PySem.W PyProof.Rows PySem.Calls PySem.Builtin PySem.Builtin.ObjectAttr PySem.Builtin.Getset_descriptor
section
variable {w : World} {A : Around} {E : Value → Shared → Prop} {s : Shared} {h₀ : Heap} {L : Addr} {m : Str → Option Value} {news : List (Addr × Obj)} {R : Result → Shared → Prop}
theorem instExc0 {h₀ h : Heap} {L e C t : Addr} {news : List (Addr × Obj)} (N : News h₀ L h news) (h1 : (e, excO C t none) ∈ news) : InstAt h e (excO C t none) C none := ⟨(N _ h1).1, rfl, rfl, trivial⟩
theorem instExc1 {h₀ h : Heap} {L e C t dx : Addr} {od : Obj} {news : List (Addr × Obj)} (N : News h₀ L h news) (h1 : (e, excO C t (some dx)) ∈ news) (h2 : (dx, od) ∈ news) : InstAt h e (excO C t (some dx)) C (some od) := ⟨(N _ h1).1, rfl, rfl, (N _ h2).1⟩
theorem kf_hasDict : hasDictIn (K39 w.params) 88 = true := by k_is
theorem kf_setattr : findIn (K39 w.params) (.ref 88) "__setattr__" = some (some (.builtin "object.__setattr__")) := by k_is

theorem exs_open {e : Addr} {ox : Obj} {od : Option Obj} {name : Str} {tk : Tok} {v : Value} (X : (K39 w.params).In s.heap) (I : InstAt s.heap e ox 88 od) (ht : takerIn (K39 w.params) 88 name = some none)
    (h : ∀ b, wpAny (model PySem.Challenge.rw_rr0095_01.row.prog w) A.in1 (storeInOwnDict (.ref e) (.ref 88) (.str name tk) name v b)
      (fun fin s' => match fin with | .done f => R (.ok f) s' | .again c' => c'.quiet = true ∧ codeAny (model PySem.Challenge.rw_rr0095_01.row.prog w) A c' R s') (fun e s' => R (.error e) s') s) :
    codeAny (model PySem.Challenge.rw_rr0095_01.row.prog w) A (.call (.builtin "object.__setattr__") ⟨[.ref e, .str name tk, v], []⟩) R s := by
  have SF := PySem.F.store_object
  have hm := kf_mro X
  have sub : Looks (model PySem.Challenge.rw_rr0095_01.row.prog w) s.heap (isInstance (.ref e) (.type "object")) true := I.type.andThen (Looks.of_peek X (by kernel_rfl))
  refine codeAny_call_builtin SF.slot.plain SF.entry (@check_slot (model PySem.Challenge.rw_rr0095_01.row.prog w) _ _ s "object.__setattr__" "object" "__setattr__" (.ref e) [.str name tk, v] [] _ SF.kind SF.split sub (SF.args (.ref e) (.str name tk) v) ?_)
  obtain ⟨attr, ha, hr⟩ := Option.bind_eq_some_iff.mp ht
  have L3 : Looks (model PySem.Challenge.rw_rr0095_01.row.prog w) s.heap (storeTaker? attr) none := by
    cases attr with
    | none => cases hr; exact .now
    | some a =>
      obtain ⟨b, hb, hb'⟩ := Option.map_eq_some_iff.mp hr
      refine (looks_takesIn X hb).andThen ?_
      cases b
      · exact .now
      · simp at hb'
  rw [osa_eq, refuse_eq]
  refine wpAny_bind (wpAny_bind (I.type.here (wpAny_bind (hm.here ?_))))
  rw [refuseLoop_ref, refuseLoop_ref, refuseLoop_ref, PySem.F.store_Exception.passes]
  refine wpAny_pure (wpAny_bind (I.type.here (wpAny_bind ((looks_findIn X ha).here (wpAny_bind (L3.here ?_))))))
  exact h _

theorem exs_none {e t : Addr} {name : Str} {v : Value} {gN : Obj → List (Addr × Obj)} {Q : Unit → Shared → Prop} (F : Fr h₀ L s.heap m) (X₀ : (K39 w.params).In h₀) (N : News h₀ L s.heap news) (U : UpdF e (excO 88 t none) news gN)
    (ht : takerIn (K39 w.params) 88 name = some none)
    (h : ∀ h' dx, Fr h₀ L h' m → News h₀ L h' ((dx, dictOf [⟨PyData.keyHash w.params name, .str name (s.toks + 1), v⟩] 1) :: gN (excO 88 t (some dx))) → (∀ p ∈ news, p.1 < dx) → Q () { s with heap := h', toks := s.toks + 2 }) :
    wpAny (model PySem.Challenge.rw_rr0095_01.row.prog w) A (setAttr (.ref e) name v) Q E s := by
  have X : (K39 w.params).In s.heap := X₀.keeps F.keep
  obtain ⟨pre, post, rfl, hg, o1, o2⟩ := U.split
  have hem : s.heap.get? e = some (excO 88 t none) := (N (e, excO 88 t none) (by simp)).1
  have I : InstAt s.heap e (excO 88 t none) 88 none := ⟨hem, rfl, rfl, trivial⟩
  refine set_plain X I kf_setattr ?_
  refine exs_open (s := { s with toks := s.toks + 1 }) X I ht fun b => ?_
  obtain ⟨cd, hc, hd'⟩ := any_some (kf_hasDict (w := w))
  obtain ⟨hh, g, d, tk, os⟩ := s
  have LC : Looks (model PySem.Challenge.rw_rr0095_01.row.prog w) hh (classData 88) cd := looks_clsIn X hc
  refine wpAny_bind (wpAny_pure (wpAny_bind (wpAny_bind (wpAny_loadPart hem (wpAny_bind (Looks.at LC ?_))))))
  rw [hd']
  obtain ⟨F1, N1, l1⟩ := ks_newsPush (s := ⟨hh, g, d, tk, os⟩) (o := dictOf [] 0) F N rfl (Heap.get?_push_at rfl rfl) (fun b o e => Heap.get?_push_of_some _ e)
  have hx₁ : (hh.push (dictOf [] 0)).get? e = some (excO 88 t none) := Heap.get?_push_of_some _ hem
  have hlt : e < hh.objs.size := Heap.lt_size hem
  obtain ⟨F2, N2⟩ := news_upd (pre := (hh.objs.size, dictOf [] 0) :: pre) (post := post) (o := excO 88 t none) (o' := excO 88 t (some hh.objs.size)) (f := fun o => { o with dict := some hh.objs.size }) F1 N1
    (fun p hp => by
      rcases List.mem_cons.mp hp with rfl | hp
      · exact Nat.ne_of_gt hlt
      · exact o1 p hp) o2 rfl rfl
  have hD := (N2 (hh.objs.size, dictOf [] 0) (by simp)).1
  obtain ⟨F3, N3⟩ := news_upd (pre := []) (d := hh.objs.size) (o := dictOf [] 0) (o' := dictOf [⟨PyData.keyHash w.params name, .str name (tk + 1), v⟩] 1) (f := Obj.putName name (PyData.keyHash w.params name) (.str name (tk + 1)) v) F2 N2
    (fun p hp => nomatch hp) (fun p hp => by
      rcases List.mem_append.mp hp with hp | hp
      · exact Nat.ne_of_lt (l1 p (List.mem_append_left _ hp))
      · rcases List.mem_cons.mp hp with rfl | hp
        · exact Nat.ne_of_lt hlt
        · exact Nat.ne_of_lt (l1 p (List.mem_append_right _ (.tail _ hp)))) rfl rfl
  have D' := (N3 (hh.objs.size, dictOf [⟨PyData.keyHash w.params name, .str name (tk + 1), v⟩] 1) (by simp)).1
  dsimp only
  refine wpAny_bind (wpAny_alloc' ?_)
  refine wpAny_bind (wpAny_update' hx₁ ?_)
  refine wpAny_pure (a := some hh.objs.size) ?_
  dsimp only
  refine wpAny_bind (wpAny_pure (wpAny_bind ?_))
  unfold nsSet
  refine wpAny_bind (wpAny_bind (wpAny_askSetting (wpAny_pure (wpAny_bind (wpAny_mkText (wpAny_bind (wpAny_loadPart hD ?_)))))))
  dsimp only
  refine wpAny_updatePart hD ?_
  refine wpAny_bind (wpAny_lookBehind D' (pastItsLine_dict (by rw [sizeLine_eq]; exact Nat.le_of_ble_eq_true rfl)) ?_)
  exact wpAny_pure (h _ _ F3 (by rw [hg]; exact N3) l1)
theorem exs_some {e t dx : Addr} {name : Str} {v : Value} {es es' : List DictEntry} {n n' : Nat} {news' : List (Addr × Obj)} {Q : Unit → Shared → Prop} (F : Fr h₀ L s.heap m) (X₀ : (K39 w.params).In h₀) (N : News h₀ L s.heap news)
    (he : (e, excO 88 t (some dx)) ∈ news) (hde : (dx, dictOf es n) ∈ news)
    (ht : takerIn (K39 w.params) 88 name = some none) (hl : (getL name es).isSome = true)
    (eq : (putL name (PyData.keyHash w.params name) (.str name (s.toks + 1)) v es, putN name es n) = (es', n')) (U : Upd dx (dictOf es n) (dictOf es' n') news news') (hz : es'.length ≤ 1000)
    (h : ∀ h', Fr h₀ L h' m → News h₀ L h' news' → Q () { s with heap := h', toks := s.toks + 2 }) :
    wpAny (model PySem.Challenge.rw_rr0095_01.row.prog w) A (setAttr (.ref e) name v) Q E s := by
  have X : (K39 w.params).In s.heap := X₀.keeps F.keep
  have I := instExc1 N he hde
  obtain ⟨pre, post, rfl, rfl, a, b⟩ := U.split
  obtain ⟨e1, e2⟩ := Prod.mk.inj eq
  refine set_plain X I kf_setattr ?_
  refine exs_open (s := { s with toks := s.toks + 1 }) X I ht fun b' => ?_
  obtain ⟨cd, hc, hd'⟩ := any_some (kf_hasDict (w := w))
  have LC : Looks (model PySem.Challenge.rw_rr0095_01.row.prog w) s.heap (classData 88) cd := looks_clsIn X hc
  obtain ⟨U1, U2⟩ := news_upd (f := Obj.putName name (PyData.keyHash w.params name) (.str name (s.toks + 1)) v) (o' := dictOf es' n') F N a b (by rw [putName_dict, e1, e2]) rfl
  have D := (N (dx, dictOf es n) (by simp)).1
  have D' := (U2 (dx, dictOf es' n') (by simp)).1
  have hx := (N _ he).1
  obtain ⟨hh, g, d, tk, os⟩ := s
  refine wpAny_bind (wpAny_pure (wpAny_bind (wpAny_bind (wpAny_loadPart hx (wpAny_bind (Looks.at LC ?_))))))
  rw [hd']
  refine wpAny_pure (a := some dx) ?_
  dsimp only
  refine wpAny_bind (wpAny_pure (wpAny_bind ?_))
  unfold nsSet
  refine wpAny_bind (wpAny_bind (wpAny_askSetting (wpAny_pure (wpAny_bind (wpAny_mkText (wpAny_bind (wpAny_loadPart D ?_)))))))
  dsimp only
  have hl2 : (lookIn name (dictOf es n)).isSome = true := hl
  unfold lookIn at hl2
  dsimp only at hl2
  have c : (!es.toArray.any (·.key.isStr name) && es.toArray.any (·.refKey)) = false := by
    rw [← Array.any_toList, ← Array.any_toList]
    dsimp only
    split at hl2
    · rename_i en he
      rw [List.any_eq_true.mpr ⟨en, List.mem_of_find?_eq_some he, List.find?_some he⟩]; rfl
    · split at hl2
      · cases hl2
      · rename_i z; rw [Bool.not_eq_true] at z; rw [z, Bool.and_false]
  rw [aRefKeyMayBeTheName_at, c]
  refine wpAny_updatePart D ?_
  refine wpAny_bind (wpAny_lookBehind D' (pastItsLine_dict (by rw [List.size_toArray, sizeLine_eq]; kpa_ne)) ?_)
  exact wpAny_pure (h _ U1 U2)
end
end
section
variable {VV : Program} {loo : List Str}
section
variable {w : World} {A : Around} {E : Value → Shared → Prop} {s : Shared} {h₀ : Heap} {L : Addr} {m : Str → Option Value} {news : List (Addr × Obj)} {R : Result → Shared → Prop}
theorem make_excK {x : Str} {tx u : Tok} {i : Int} {Q : Value → Shared → Prop} (F : Fr h₀ L s.heap m) (X₀ : (K39 w.params).In h₀) (N : News h₀ L s.heap news)
    (h : ∀ e t h', Fr h₀ L h' m → News h₀ L h' ((e, excO 88 t none) :: (t, tupO [.str x tx, .int i u]) :: news) → (∀ p ∈ news, p.1 < t) → t < e →
      codeAny (model PySem.Challenge.rw_rr0095_01.row.prog w) (A.under (.builtin "type.__call__" ⟨[.ref 88, .str x tx, .int i u], []⟩)) (.call (.ref 66) ⟨[.ref e, .str x tx, .int i u], []⟩) (InitBack e fun r s' => match r with | .ok (.ret v) => Q v s' | .ok _ => False | .error e => E e s') { s with heap := h' }) :
    wpAny (model PySem.Challenge.rw_rr0095_01.row.prog w) A (call (.ref 88) [.str x tx, .int i u]) Q E s := by
  obtain ⟨hh, g, d, t, os⟩ := s
  refine wpAny_call (make_exc (X₀.keeps F.keep) ?_)
  obtain ⟨F1, N1, l1⟩ := ks_newsPush (s := ⟨hh, g, d, t, os⟩) (o := tupO [.str x tx, .int i u]) F N rfl (Heap.get?_push_at rfl rfl) (fun b o e => Heap.get?_push_of_some _ e)
  obtain ⟨F2, N2, l2⟩ := ks_newsPush (s := ⟨hh.push (tupO [.str x tx, .int i u]), g, d, t, os⟩) (o := excO 88 hh.objs.size none) (q := hh.objs.size + 1) F1 N1 (by simp [Heap.size_push]) (Heap.get?_push_at (by simp [Heap.size_push]) rfl) (fun b o e => Heap.get?_push_of_some _ e)
  exact h _ _ _ F2 N2 l1 (Nat.lt_succ_self _)
end
theorem mwAt_of {h₀ h : Heap} {L q e : Addr} {news : List (Addr × Obj)} (N : News h₀ L h news) (hm : (q, mwO e) ∈ news) : MwAt q e h := (N _ hm).1
theorem ownLt {own : List (Addr × Obj)} {a b : Addr} (h : ∀ p ∈ own, p.1 < a) (e : @LE.le Nat _ a b) : ∀ p ∈ own, p.1 ≠ b := fun p hp => Nat.ne_of_lt (Nat.lt_of_lt_of_le (h p hp) e)
local macro_rules | `(tactic| k_all) => `(tactic| exact ownLt (by assumption) (by kpa_ne))
local macro_rules | `(tactic| k_inst) => `(tactic| first | (refine' instExc0 ?N ?h1; (case N => k_asm); (case h1 => k_mem)) | (refine' instExc1 ?N ?h1 ?h2; (case N => k_asm); (case h1 => k_mem); (case h2 => k_mem)))
set_option maxHeartbeats 0 in
theorem kf_spec {w : World} {mean : ExcName → Option Value} {mg mb : Str → Option Value} {dp un : Nat} {gd : Option (List Code)} {cn : Str} {sn : List (Str × NameKind)} {sgn sco : Bool} {smo : List (Str × Const)} {a : Addr} {ccd : Value} {cl : List (Str × Addr)} {outer : List Env} {A₀ : Around} {base h₀ : Heap} {L : Addr} {m : Str → Option Value} {own : List (Addr × Obj)} {s : Shared} {Q E : Value → Shared → Prop}
    {u1 u2 : Tok} {what : Str} {spot : Int}
    (B : Below A₀ base outer h₀) (F : Fr h₀ L s.heap m) (X : (K39 w.params).In h₀)
    (N : News h₀ L s.heap own)
    (T : Top VV loo mean mg mb h₀)
    (hdp : dp + 10 < recursionLimit) (hun : un + 80 < cLine)
    (hQ : ∀ e t dx h' tk' t1 t2, Fr h₀ L h' m → News h₀ L h' ((e, excO 88 t (some dx)) :: (dx, dictOf [⟨PyData.keyHash w.params (Str.ofString "what"), .str (Str.ofString "what") t1, .str what u1⟩, ⟨PyData.keyHash w.params (Str.ofString "spot"), .str (Str.ofString "spot") t2, .int spot u2⟩] 2) :: own) →
      (∀ p ∈ own, p.1 < e) → e < dx → Q (.ref e) { s with heap := h', toks := tk' })
    :
    wpAny (model PySem.Challenge.rw_rr0095_01.row.prog w) (ktrTop dp un gd cn ⟨.function, sn, sgn, sco, smo⟩ L a ccd cl outer) (call (.ref 88) [.str what u1, .int spot u2]) Q E s := by
  (repeat' (first | (k_unfold; (try dsimp only)) | (k_end; wrow_close) | ((with_reducible show wpAny _ _ (setAttr (Value.ref _) _ _) _ _ _); (k_dflt (first | (refine exs_none (by k_asm) (by k_asm) (by k_asm) (by k_updF) (by k_is) ?_; intro _ _ _ _ q09; (try k_lt q09); revert q09; intro _) | (refine exs_some (by k_asm) (by k_asm) (by k_asm) (by k_mem) (by k_mem) (by k_is) (by k_get) (by k_put) (by k_upd) (by exact Nat.le_of_ble_eq_true rfl) ?_; intro _ _ _)))) | ((with_reducible show wpAny _ _ (call (Value.ref _) _) _ _ _); (k_dflt (refine mw_call (by k_asm) (by k_asm) (by k_mem) (by k_updF) (by k_asm) ?_; intro _ _ _ _ q09; (try k_lt q09); revert q09; intro _))) | ((with_reducible show MwAt _ _ _ ∧ _); k_dflt (refine ⟨mwAt_of (by k_asm) (by k_mem), ?_⟩); (try dsimp only [List.nil_append, List.cons_append])) | ((with_reducible show wpAny _ _ (callWith _ (Value.ref _) _ _ _) _ _ _); (k_dflt (refine callWith_mw (by k_asm) (by k_mem) ?_; k_whole))) | ((with_reducible show wpAny _ _ (getMethod (Value.ref _) (PySem.Str.ofString "__init__") _) _ _ _); k_dflt (refine super_mw (by k_asm) (by k_asm) (by k_asm) (by k_mem) (by k_mem) (by exact rfl) ?_; intro _ _ _ _ q09; (try k_lt q09); revert q09; intro _)) | ((with_reducible show wpAny _ _ (call (Value.ref 88) [Value.str _ _, Value.int _ _]) _ _ _); k_dflt (refine make_excK (by k_asm) (by k_asm) (by k_asm) ?_; intro _ _ _ _ _ q09 q19; (try k_lt q09); (try k_lt2 q19); revert q09 q19; intro _ _; ks_enter)) | walk1 | (dsimp only; walk1) | (leave1; walk_say "STEP leave1"; try dsimp only) | fail "no step"))
  show Q _ { s with heap := _, toks := _ }
  refine' hQ _ _ _ _ _ _ _ ?k1 (News.perm ?k2 ?k3) ?k4 ?k5
  case k1 => k_asm
  case k2 => k_asm
  case k3 =>
    refine List.forall_mem_cons.mpr ⟨by k_mem, List.forall_mem_cons.mpr ⟨by k_mem, fun p hp => ?_⟩⟩
    repeat (first | exact hp | apply List.mem_cons_of_mem)
  case k4 =>
    intro p hp
    exact Nat.lt_trans ((by assumption : ∀ p ∈ own, p.1 < _) p hp) (by kpa_ne)
  case k5 =>
    show @LT.lt Nat _ _ _
    kpa_ne
end
section
def KeepsDict (h h' : Heap) : Prop := ∀ b o, h.get? b = some o → ∃ o', h'.get? b = some o' ∧ o'.cls = o.cls ∧ o'.dict = o.dict
theorem KeepsDict.refl (h : Heap) : KeepsDict h h := fun _ o e => ⟨o, e, rfl, rfl⟩
theorem KeepsDict.trans {a b c : Heap} (x : KeepsDict a b) (y : KeepsDict b c) : KeepsDict a c := fun i o e =>
  let ⟨_, e1, c1, d1⟩ := x i o e; let ⟨o2, e2, c2, d2⟩ := y i _ e1; ⟨o2, e2, c2.trans c1, d2.trans d1⟩
theorem KeepsDict.push (h : Heap) (x : Obj) : KeepsDict h (h.push x) := fun _ o e => ⟨o, Heap.get?_push_of_some _ e, rfl, rfl⟩
theorem KeepsDict.update (h : Heap) (a : Addr) {f : Obj → Obj} (hf : ∀ o, o.isFreed = false → (f o).isFreed = false ∧ (f o).cls = o.cls ∧ (f o).dict = o.dict) : KeepsDict h (h.update a f) := fun b o e => by
  by_cases hb : a = b
  · subst hb
    obtain ⟨h1, h2, h3⟩ := hf o (Heap.get?_some_iff.mp e).2
    exact ⟨_, Heap.get?_update_self _ e h1, h2, h3⟩
  · exact ⟨o, (Heap.get?_update_other _ _ hb).trans e, rfl, rfl⟩
def Calm {α : Type} : Sem α → Prop
  | .pure _ => True
  | .raise _ => True
  | .unsupported _ => True
  | .finish _ => True
  | .rule _ k => ∀ x, Calm (k x)
  | .at _ k => ∀ x, Calm (k x)
  | .load _ _ k => ∀ x, Calm (k x)
  | .update _ _ f k => (∀ o : Obj, o.isFreed = false → (f o).isFreed = false ∧ (f o).cls = o.cls ∧ (f o).dict = o.dict) ∧ ∀ x, Calm (k x)
  | .alloc _ k => ∀ x, Calm (k x)
  | .loadIfAlive _ k => ∀ x, Calm (k x)
  | .point _ k => ∀ x, Calm (k x)
  | .fresh k => ∀ x, Calm (k x)
  | .stack k => ∀ x, Calm (k x)
  | _ => False
theorem Calm.bind {α β : Type} {f : α → Sem β} {t : Sem α} (c : Calm t) (h : ∀ a, Calm (f a)) : Calm (t >>= f) := by
  show Calm (Sem.bind t f)
  induction t with
  | pure a => exact h a
  | raise _ => exact trivial
  | unsupported _ => exact trivial
  | finish _ => exact trivial
  | rule _ k ih => exact fun x => ih x (c x)
  | «at» _ k ih => exact fun x => ih x (c x)
  | load _ _ k ih => exact fun x => ih x (c x)
  | update _ _ _ k ih => exact ⟨c.1, fun x => ih x (c.2 x)⟩
  | alloc _ k ih => exact fun x => ih x (c x)
  | loadIfAlive _ k ih => exact fun x => ih x (c x)
  | point _ k ih => exact fun x => ih x (c x)
  | fresh k ih => exact fun x => ih x (c x)
  | stack k ih => exact fun x => ih x (c x)
  | _ => exact False.elim c
theorem Calm.wp {α : Type} {M : Model} {Γ : Ctx} {Q : α → Pos → Shared → Prop} {E : Value → Pos → Shared → Prop} {h₀ : Heap} {t : Sem α} (c : Calm t) : ∀ {p : Pos} {s : Shared}, KeepsDict h₀ s.heap →
    Sem.wp M Γ t (fun a p s' => KeepsDict h₀ s'.heap → Q a p s') (fun e p s' => KeepsDict h₀ s'.heap → E e p s') p s → Sem.wp M Γ t Q E p s := by
  induction t with
  | pure a => exact fun k h => h k
  | raise _ => exact fun k h => h k
  | unsupported _ => exact fun _ h => h
  | finish _ => exact fun _ h => h
  | rule _ f ih => exact fun k h => ih () (c _) k h
  | «at» _ f ih => exact fun k h => ih () (c _) k h
  | load _ _ f ih => exact fun k h => let ⟨o, e, h⟩ := h; ⟨o, e, ih o (c _) k h⟩
  | update _ _ _ f ih => exact fun {p s} k h => ⟨h.1, ih () (c.2 _) (k.trans (KeepsDict.update s.heap _ c.1)) h.2⟩
  | alloc _ f ih => exact fun {p s} k h => ih _ (c _) (k.trans (KeepsDict.push s.heap _)) h
  | loadIfAlive a f ih => exact fun k h => ih _ (c _) k h
  | point _ f ih => exact fun k h => ih () (c _) k h
  | fresh f ih => exact fun {p s} k h => ih _ (c _) (s := { s with toks := s.toks + 1 }) k h
  | stack f ih => exact fun k h => ih _ (c _) k h
  | _ => exact False.elim c
theorem Calm.any {α : Type} {M : Model} {A : Around} {t : Sem α} {Q : α → Shared → Prop} {E : Value → Shared → Prop} {s : Shared} (c : Calm t)
    (h : wpAny M A t (fun a s' => KeepsDict s.heap s'.heap → Q a s') (fun e s' => KeepsDict s.heap s'.heap → E e s') s) : wpAny M A t Q E s := fun Γ p hΓ => c.wp (KeepsDict.refl _) (h Γ p hΓ)
theorem calm_field (v : Value) (i : Nat) : Calm (field v i) := by
  unfold field
  refine Calm.bind ?_ fun l => ?_
  · unfold fieldsOf
    split
    · refine Calm.bind (fun _ => trivial) fun o => ?_
      split <;> trivial
    · trivial
  · split <;> trivial
theorem calm_setField (v : Value) (i : Nat) (x : Value) : Calm (setField v i x) := by
  unfold setField
  split
  · unfold updateField
    refine Calm.bind (fun _ => trivial) fun o => ?_
    split
    · split
      · exact ⟨fun o ho => (by obtain ⟨c, d, dt, sl⟩ := o; cases dt <;> first | exact ⟨rfl, rfl, rfl⟩ | cases ho), fun _ => trivial⟩
      · trivial
    · trivial
  · trivial
theorem calm_setFlight (e : Value) (fr : Option Addr) : Calm (setFlight e fr) := by
  unfold setFlight
  refine Calm.bind (calm_field _ _) fun tb => ?_
  split
  · exact calm_setField _ _ _
  · trivial
theorem calm_readyFrames : ∀ l, Calm (readyFrames l)
  | [] => trivial
  | env :: outer => by
    unfold readyFrames
    split
    · refine Calm.bind (fun _ => trivial) fun o => ?_
      split
      · trivial
      · refine Calm.bind ?_ fun i => Calm.bind ?_ fun b => ?_
        · unfold behindIsImport
          split
          · trivial
          · split
            · trivial
            · exact Calm.bind (calm_field _ _) fun _ => trivial
        · unfold keptBack
          split
          · split
            · trivial
            · unfold underTheClaimsCaller
              exact Calm.bind (Calm.bind (fun _ => trivial) fun _ => trivial) fun _ => trivial
          · trivial
        · refine Calm.bind ⟨fun o ho => ?_, fun _ => trivial⟩ fun _ => calm_readyFrames outer
          obtain ⟨c, d, dt, sl⟩ := o
          cases dt <;> first | exact ⟨rfl, rfl, rfl⟩ | cases ho
    · trivial
theorem calm_frameOf (env : Env) : Calm (PySem.frameOf env) := by
  unfold PySem.frameOf
  refine Calm.bind ?_ fun l => Calm.bind ?_ fun x => ?_
  · unfold frameEnvs
    exact Calm.bind (fun _ => trivial) fun _ => trivial
  · generalize List.dropWhile _ l = l'
    cases l' with
    | nil => trivial
    | cons a b => exact Calm.bind (calm_readyFrames _) fun _ => trivial
  · split <;> trivial
theorem calm_entryPlaceOf (f : Addr) (b : Bool) : Calm (entryPlaceOf f b) := by
  unfold entryPlaceOf
  refine Calm.bind (fun _ => trivial) fun _ => ?_
  split <;> trivial
theorem calm_newEntry (a b c d e : Value) (p : List Value) : Calm (EntryCells.newEntry a b c d e p) := by
  unfold EntryCells.newEntry newFields newObj
  have z : ∀ x y, Calm (newObjAsIs (.type x) y) := fun x y => fun _ => trivial
  dsimp only
  generalize [a, b, c, d, e] ++ (if p.isEmpty = true then List.replicate 6 Value.none else p) = l
  split
  · exact trivial
  · exact z _ _
theorem calm_noteFrame (e : Value) (env : Env) : Calm (noteFrame e env) := by
  unfold noteFrame
  split
  · refine Calm.bind (calm_field _ _) fun head => ?_
    have last : ∀ b f, Calm (do setField e 1 (← EntryCells.newEntry head (← PySem.frameOf env) .none (rawInt f) .none (← entryPlaceOf f b))) := fun b f =>
      Calm.bind (calm_frameOf _) fun _ => Calm.bind (calm_entryPlaceOf _ _) fun _ => Calm.bind (calm_newEntry _ _ _ _ _ _) fun _ => calm_setField _ _ _
    dsimp only
    split
    · refine Calm.bind (calm_field _ _) fun x => ?_
      split
      · trivial
      · exact Calm.bind (calm_setField _ _ _) fun _ => last _ _
    · exact last _ _
  · trivial
theorem calm_leaving (e : Value) (env : Env) : Calm (leaving env e) := Calm.bind (calm_noteFrame _ _) fun _ => calm_setFlight _ _

section
variable {M : Model} {A : Around} {E : Value → Shared → Prop} {s' : Shared} {base g g₂ h : Heap} {outer : List Env} {L a e dx t : Addr} {m : Str → Option Value} {name : Str} {scope : Scope} {cd : Value} {Q : Unit → Shared → Prop} {news news' : List (Addr × Obj)}
def RaisedD (base : Heap) (l : List Env) (e dx : Addr) (news : List (Addr × Obj)) (h : Heap) : Prop :=
  (∃ B a0, base.StaysIn B ∧ (∀ q ∈ news, B.get? q.1 = some q.2 ∧ base.get? q.1 = none) ∧ Heap.FlyingW B l e (.ref 88) a0 h) ∧ ∃ oe, h.get? e = some oe ∧ oe.dict = some dx
theorem RaisedD.sub (R : RaisedD base outer e dx news h) (hs : ∀ p ∈ news', p ∈ news) : RaisedD base outer e dx news' h :=
  let ⟨⟨B, a0, h1, h2, h3⟩, h4⟩ := R; ⟨⟨B, a0, h1, fun q hq => h2 q (hs q hq), h3⟩, h4⟩
theorem leave_raiseD (K : Below A base outer g) (F : Fr g L s'.heap m) (N : News g L s'.heap news) (he : (e, excO 88 t (some dx)) ∈ news) (hs : ∀ p ∈ news', p ∈ news ∧ @Ne Nat p.1 e)
    (hQ : ∀ h', RaisedD base outer e dx news' h' → g.UpToSlots h' → Q () { s' with heap := h' }) (hk : scope.kind = .function := by rfl) :
    wpAny M (A.deeper (envOf name scope L a cd)) (leaving (envOf name scope L a cd) (.ref e)) Q E s' := by
  have K' := K.push (name := name) (a := a) (cd := cd) F hk
  have hes := N _ he
  have hin : ∀ env ∈ (envOf name scope L a cd :: outer), ∀ b, env.frame = some b → b ∈ e :: (envOf name scope L a cd :: outer).filterMap (·.frame) := fun env he b hb => .tail _ (List.mem_filterMap.mpr ⟨env, he, hb⟩)
  have ebase : base.get? e = none := fresh_of_stays K.stays hes.2.2
  have st : base.StaysIn (hideAll s'.heap (e :: (envOf name scope L a cd :: outer).filterMap (·.frame))) := fun b o q => hideAll_get _ (K'.stays b o q) fun hm => by
    rcases List.mem_cons.mp hm with rfl | hm
    · rw [ebase] at q; cases q
    · rw [(K'.frames.mem hm).1] at q; cases q
  have hl : ∀ q ∈ news', (hideAll s'.heap (e :: (envOf name scope L a cd :: outer).filterMap (·.frame))).get? q.1 = some q.2 ∧ base.get? q.1 = none := fun q hq => by
    obtain ⟨hq, hne⟩ := hs q hq
    refine ⟨hideAll_get _ (N q hq).1 fun hm => ?_, fresh_of_stays K.stays (N q hq).2.2⟩
    rcases List.mem_cons.mp hm with hm | hm
    · exact hne hm
    obtain ⟨env, he, hf⟩ := List.mem_filterMap.mp hm
    rcases List.mem_cons.mp he with rfl | he
    · exact (N q hq).2.1 (Option.some.inj hf).symm
    · obtain ⟨o, ho, _⟩ := (K.frames.mem (List.mem_filterMap.mpr ⟨env, he, hf⟩)).2
      rw [(N q hq).2.2] at ho; cases ho
  refine Calm.any (calm_leaving _ _) (wpAny_leaving_firstW (base := hideAll s'.heap (e :: (envOf name scope L a cd :: outer).filterMap (·.frame))) (a0 := .ref t) K'.stack (funFrames_hide K'.frames hin) rfl hes.1 (fun b o q => of_hideAll _ q) (hideAll_none _ (.head _)) rfl rfl rfl fun h' hL kd => ?_)
  obtain ⟨k1, ⟨_, _, k2⟩, k3, k4⟩ := hL
  obtain ⟨oe, h1, _, h3⟩ := kd _ _ hes.1
  exact hQ h' ⟨⟨_, _, st, hl, k1, hideAll_none _ (.head _), k2, k3⟩, oe, h1, h3⟩ ((Heap.UpToSlots.of_keeps F.keep).trans k4)

theorem leave_onD (K : Below A base outer g) (F : Fr g L g₂ m) (R : RaisedD base (envOf name scope L a cd :: outer) e dx news s'.heap) (hsm : g₂.UpToSlots s'.heap)
    (hQ : ∀ h', RaisedD base outer e dx news h' → g.UpToSlots h' → Q () { s' with heap := h' }) :
    wpAny M (A.deeper (envOf name scope L a cd)) (leaving (envOf name scope L a cd) (.ref e)) Q E s' := by
  obtain ⟨⟨B, a0, hB, hl, hfl⟩, oe, ho, hod⟩ := R
  refine Calm.any (calm_leaving _ _) (wpAny_leaves_onW (Around.frames_deeper K.stack) rfl hfl fun h' x1 x2 kd => ?_)
  obtain ⟨oe', h1, _, h3⟩ := kd _ _ ho
  exact hQ h' ⟨⟨B, a0, hB, hl, x1⟩, oe', h1, h3.trans hod⟩ ((Heap.UpToSlots.of_keeps F.keep).trans (hsm.trans x2))
end
end
section
variable {VV : Program} {loo : List Str}
def reb (h₀ h : Heap) : Heap := ⟨h₀.objs.mapIdx fun i o => if o.isFreed then o else (h.objs[i]?).getD { o with data := .freed }, h₀.life⟩
theorem get_of {h : Heap} {b : Addr} {o : Obj} (e : h.get? b = some o) : h.objs[b]? = some o ∧ o.isFreed = false := Heap.get?_some_iff.mp e
theorem of_get {h : Heap} {b : Addr} {o : Obj} (e : h.objs[b]? = some o) (f : o.isFreed = false) : h.get? b = some o := Heap.get?_some_iff.mpr ⟨e, f⟩
theorem reb_at (h₀ h : Heap) (b : Addr) : (reb h₀ h).objs[b]? = (h₀.objs[b]?).map fun o => if o.isFreed then o else (h.objs[b]?).getD { o with data := .freed } := by
  simp [reb]
theorem reb_some {h₀ h : Heap} {b : Addr} {o o' : Obj} (e : h₀.get? b = some o) (e' : h.get? b = some o') : (reb h₀ h).get? b = some o' := by
  obtain ⟨x, fx⟩ := get_of e
  obtain ⟨y, fy⟩ := get_of e'
  refine of_get ?_ fy
  rw [reb_at, x, y]
  simp [fx]
theorem reb_inv {h₀ h : Heap} {b : Addr} {o : Obj} (e : (reb h₀ h).get? b = some o) : (∃ o₀, h₀.get? b = some o₀) ∧ h.get? b = some o := by
  obtain ⟨x, fx⟩ := get_of e
  rw [reb_at] at x
  obtain ⟨o₀, e0, e1⟩ := Option.map_eq_some_iff.mp x
  by_cases f0 : o₀.isFreed = true
  · rw [if_pos f0] at e1; subst e1; rw [f0] at fx; cases fx
  · rw [if_neg f0] at e1
    refine ⟨⟨o₀, of_get e0 (by simpa using f0)⟩, ?_⟩
    cases q : h.objs[b]? with
    | none => rw [q] at e1; subst e1; cases fx
    | some y => rw [q] at e1; cases e1; exact of_get q fx
theorem reb_none {h₀ h : Heap} {b : Addr} (e : h₀.get? b = none) : (reb h₀ h).get? b = none := by
  cases q : (reb h₀ h).get? b with
  | none => rfl
  | some o => obtain ⟨⟨_, z⟩, _⟩ := reb_inv q; rw [e] at z; cases z
theorem reb_size (h₀ h : Heap) : (reb h₀ h).objs.size = h₀.objs.size := by simp [reb]
theorem reb_frames {base h₀ h : Heap} : ∀ {l : List Env}, h₀.FunFrames base l → h.FunFrames base l → (reb h₀ h).FunFrames base l
  | [], _, _ => trivial
  | _ :: _, ⟨k, ⟨L, o, hf, hb, ho, hn⟩, r⟩, ⟨_, ⟨L', o', hf', _, ho', hn'⟩, r'⟩ => by
    rw [hf] at hf'; cases hf'
    exact ⟨k, ⟨L, o', hf, hb, reb_some ho ho', hn'⟩, reb_frames r r'⟩
section
variable {A₀ : Around} {base h₀ h h₅ B : Heap} {outer : List Env} {L a e : Addr} {a0 : Value} {m : Str → Option Value} {name : Str} {scope : Scope} {cd : Value}
theorem rebase (K : Below A₀ base outer h₀) (F : Fr h₀ L h m) (hsm : h.UpToSlots h₅) (hB : base.StaysIn B) (hfl : Heap.FlyingW B (envOf name scope L a cd :: outer) e (.ref 88) a0 h₅) :
    Below A₀ base outer (reb h₀ h₅) ∧ Fr (reb h₀ h₅) L h₅ m := by
  have hfl' := flyingW_base hB hfl
  exact ⟨⟨K.stack, fun b o q => reb_some (K.stays b o q) (hfl'.1 b o q), reb_frames K.frames hfl'.2.2.1.2.2⟩, ⟨hsm.ns F.ns, fun b o q => (reb_inv q).2, (reb_size _ _).symm ▸ F.above⟩⟩
end
section
variable {w : World} {A : Around} {E : Value → Shared → Prop} {h : Heap} {g : Array GenState} {d : Drawn} {t : Nat} {os : OsState}
theorem kf_isBase (X : (K39 w.params).In h) : Looks (model PySem.Challenge.rw_rr0095_01.row.prog w) h (isSubtype (.ref 88) (.type "BaseException")) true := Looks.of_peek X (by kernel_rfl)
theorem kf_notTup (X : (K39 w.params).In h) : Looks (model PySem.Challenge.rw_rr0095_01.row.prog w) h (isInstance (.ref 88) (.type "tuple")) false := Looks.of_peek X (by kernel_rfl)
theorem kf_isExcClass (X : (K39 w.params).In h) : Looks (model PySem.Challenge.rw_rr0095_01.row.prog w) h (isExcClass (.ref 88)) true := Looks.of_peek X (by kernel_rfl)
theorem kf_matches {e : Addr} {oe : Obj} {Q : Bool → Shared → Prop} (X : (K39 w.params).In h) (he : h.get? e = some oe) (hec : oe.cls = .ref 88) (hq : Q true ⟨h, g, d, t, os⟩) :
    wpAny (model PySem.Challenge.rw_rr0095_01.row.prog w) A (excMatches (.ref e) (.ref 88)) Q E ⟨h, g, d, t, os⟩ := by
  have hto : Looks (model PySem.Challenge.rw_rr0095_01.row.prog w) h (typeOf (.ref e)) (.ref 88) := hec ▸ (Looks.ld he).andThen .now
  unfold excMatches
  refine wpAny_bind (Looks.at (kf_notTup X) ?_)
  simp only [Bool.false_eq_true, if_false, pure_bind, List.forIn_cons, List.forIn_nil]
  repeat (first | (with_reducible refine Looks.at (kf_isExcClass X) ?_) | (with_reducible refine Looks.at hto ?_) | (with_reducible refine Looks.at (kf_isSelf X) ?_) | wp_step | simp only [Bool.not_true, Bool.false_eq_true, if_false, if_true])
  all_goals exact hq
end
section
variable {w : World} {A₀ : Around} {E : Value → Shared → Prop} {s' : Shared} {base h₀ h : Heap} {outer : List Env} {L a e dx : Addr} {m : Str → Option Value} {name : Str} {scope : Scope} {cd : Value}
  {n : Str} {b₀ : Stmt} {suite : List Stmt} {pos np : Pos} {rest : List ExceptHandler} {Q : Flow → Shared → Prop} {news : List (Addr × Obj)}
  {mean : ExcName → Option Value} {mg mb : Str → Option Value}
theorem caught_D (K : Below A₀ base outer h₀) (F : Fr h₀ L h m) (hsm : h.UpToSlots s'.heap) (R : RaisedD base (envOf name scope L a cd :: outer) e dx news s'.heap)
    (Xb : (K39 w.params).In base) (Tb : Top VV loo mean mg mb base) (hnews : ∀ p ∈ news, h₀.get? p.1 = none) (hne : ∀ p ∈ news, p.1 ≠ L) (heL : e ≠ L) (he0 : h₀.get? e = none)
    (k : ∀ h₂ h' tk oe, Below A₀ base outer h₂ → (K39 w.params).In h₂ → Top VV loo mean mg mb h₂ → h₀.UpToSlots h₂ →
      Fr h₂ L h' (fun y => if y = n then some (.ref e) else m y) → News h₂ L h' ((e, oe) :: news) → oe.cls = .ref 88 → oe.dict = some dx → notCls oe = true →
      wpAny (model PySem.Challenge.rw_rr0095_01.row.prog w) ((A₀.deeper (envOf name scope L a cd)).mark (some (.ref e))) (execs (b₀ :: suite) (envOf name scope L a cd))
        (fun f s₄ => wpAny (model PySem.Challenge.rw_rr0095_01.row.prog w) (A₀.deeper (envOf name scope L a cd)) (do bindName (envOf name scope L a cd) n .none; unbindBehindTheSuite (envOf name scope L a cd) n pos) (fun _ s₅ => Q f s₅) E s₄)
        (AsSuiteRaised (model PySem.Challenge.rw_rr0095_01.row.prog w) ((A₀.deeper (envOf name scope L a cd)).mark (some (.ref e))) (envOf name scope L a cd) n pos (notedBy (model PySem.Challenge.rw_rr0095_01.row.prog w) ((A₀.deeper (envOf name scope L a cd)).mark (some (.ref e))) (envOf name scope L a cd) (cameBackBy (model PySem.Challenge.rw_rr0095_01.row.prog w) (A₀.deeper (envOf name scope L a cd)) (envOf name scope L a cd) E)))
        { s' with heap := h', toks := tk })
    (hk : scope.kind = .function := by rfl) (hlo : (envOf name scope L a cd).kindOf n = some .local := by rfl) (hx : (envOf name scope L a cd).kindOf "KindFault" = some .globalImplicit := by rfl) :
    wpAny (model PySem.Challenge.rw_rr0095_01.row.prog w) (A₀.deeper (envOf name scope L a cd)) (noteFrame (.ref e) (envOf name scope L a cd))
      (fun _ s₂ => wpAny (model PySem.Challenge.rw_rr0095_01.row.prog w) (A₀.deeper (envOf name scope L a cd)) (setFlight (.ref e) none) (fun _ s₃ =>
        wpAny (model PySem.Challenge.rw_rr0095_01.row.prog w) (A₀.deeper (envOf name scope L a cd)) (handleBy (.ref e) (envOf name scope L a cd) (.ExceptHandler (some (.Name "KindFault" np)) (some n) (b₀ :: suite) pos :: rest)) Q E s₃) E s₂) E s' := by
  obtain ⟨⟨B, a0, hB, hl, hfl⟩, oe₀, ho₀, hod₀⟩ := R
  refine Calm.any (calm_noteFrame _ _) (wpAny_looks_onW (Around.frames_deeper K.stack) rfl hfl fun h₄ hheld₄ hsm₄ kd₄ => ?_)
  refine Calm.any (calm_setFlight _ _) (wpAny_landsW hheld₄ fun h₅ hheld hsm₅' kd₅ => ?_)
  have hsm₅ := hsm₄.trans hsm₅'
  obtain ⟨K₅, F₅⟩ := rebase K F (hsm.trans hsm₅) hB hheld
  have X₅ := Xb.keeps K₅.stays
  have T₅ := Tb.keeps K₅.stays
  obtain ⟨oe₅, ho₅, hec₅, hod₅⟩ := (kd₄.trans kd₅) _ _ ho₀
  obtain ⟨ob, hob, hobc⟩ := hheld.there
  refine wpAny_handleBy_cons (codeAny_handlers_test (name_K (x := "KindFault") (v := .ref 88) F₅ X₅ (topRead_of T₅) (by k_is) ?_ hk hx)) (by intro q; cases q)
  refine kf_matches (X₅.keeps F₅.keep) hob hobc (codeAny_handlers_suite_as ?_)
  refine Calm.any (calm_setFlight _ _) (lands_againW hheld fun h₆ hfl₆ hsm₆ kd₆ => ?_)
  obtain ⟨K₆, F₆⟩ := rebase K F ((hsm.trans hsm₅).trans hsm₆) hB hfl₆
  obtain ⟨oe₆, ho₆, hec₆, hod₆⟩ := kd₆ _ _ ho₅
  obtain ⟨ob₆, vs₆, hob₆, hobc₆, hobd₆, _⟩ := hfl₆.first
  rw [hob₆] at ho₆
  cases ho₆
  have X₆ := Xb.keeps K₆.stays
  have T₆ := Tb.keeps K₆.stays
  have N₆ : News (reb h₀ h₆) L h₆ ((e, oe₆) :: news) := fun p hp => by
    rcases List.mem_cons.mp hp with rfl | hp
    · exact ⟨hob₆, heL, reb_none he0⟩
    · exact ⟨hfl₆.1 _ _ (hl p hp).1, hne p hp, reb_none (hnews p hp)⟩
  refine stN F₆ N₆ (fun h₇ F₇ N₇ => ?_) hk hlo
  have lnk : h₀.UpToSlots (reb h₀ h₆) := fun b o ho hn => by
    obtain ⟨sl, hs⟩ := ((hsm.trans hsm₅).trans hsm₆) b o (F.keep b o ho) hn
    exact ⟨sl, reb_some ho hs⟩
  exact k _ h₇ _ oe₆ K₆ X₆ T₆ lnk F₇ N₇ hobc₆ (hod₆.trans (hod₅.trans hod₀)) (by unfold notCls; rw [hobd₆])
end
end
section
open PySem PySem.W PyProof.Rows PySem.Calls PySem.Builtin PySem.Builtin.ObjectAttr
section
variable {w : World} {A : Around} {E : Value → Shared → Prop} {h : Heap} {g : Array GenState} {d : Drawn} {t : Nat} {os : OsState}
theorem exc_get {e : Addr} {oe od : Obj} {name : Str} {v : Value} {expr : Bool} {Q : Value → Shared → Prop} (X : (K39 w.params).In h) (I : W.InstAt h e oe 88 (some od))
    (hf : findObj (K39 w.params) 88 (some od) name = some (.value v)) (hh : handedIn v = true) (hq : Q v ⟨h, g, d, t + 1, os⟩) :
    wpAny (model PySem.Challenge.rw_rr0095_01.row.prog w) A (getAttr (.ref e) name expr) Q E ⟨h, g, d, t, os⟩ := by
  have L0 := I.type (M := model PySem.Challenge.rw_rr0095_01.row.prog w)
  have L1 : Looks (model PySem.Challenge.rw_rr0095_01.row.prog w) h (typeLookup (.ref 88) "__getattribute__") (some (.builtin "BaseException.__getattribute__")) := looks_findIn X (by k_is)
  have L2 : Looks (model PySem.Challenge.rw_rr0095_01.row.prog w) h (typeLookup (.ref 88) "__getattr__") none := looks_findIn X (by k_is)
  have L3 : Looks (model PySem.Challenge.rw_rr0095_01.row.prog w) h (isInstance (.ref e) (.type "BaseException")) true := L0.andThen (kf_isBase X)
  have L4 := looks_find (M := model PySem.Challenge.rw_rr0095_01.row.prog w) X I hf
  have hk : builtinKind "BaseException.__getattribute__" = some .slot := by decide +kernel
  have hsplit : splitId "BaseException.__getattribute__" = some ("BaseException", "__getattribute__") := by decide +kernel
  unfold getAttr getAttrBy
  refine wpAny_bind (wpAny_mkText (wpAny_holding (wpAny_bind (Looks.at L0 (wpAny_bind (Looks.at L1 ?_))))))
  dsimp only
  rw [if_neg (by decide)]
  unfold getAttrByItsOwn hookBefore callGetattribute boundAndCalled
  refine wpAny_bind ?_
  rw [if_pos (by rfl)]
  refine Looks.at L2 (wpAny_bind (wpAny_attempt (wpAny_holding ?_)))
  have hx0 : (expr && onTheHeap (Value.builtin "BaseException.__getattribute__")) = false := by cases expr <;> rfl
  rw [if_neg (by rw [hx0]; decide)]
  refine wpAny_bind (wpAny_of_eq (F.attr_Exception.ga.bind _) ?_)
  refine wpAny_call (codeAny_call_builtin F.attr_Exception.ga.plain F.entry_bexc_ga ?_)
  simp only [checkBuiltinCall, hk, hsplit]
  have ha := F.args_bexc_ga (.ref e) (.str name t)
  refine wpAny_bind (Looks.at L3 ?_)
  have pass : ∀ {Q' : Unit → Shared → Prop}, Q' () ⟨h, g, d, t + 1, os⟩ → wpAny (model PySem.Challenge.rw_rr0095_01.row.prog w) A.in1 (match Manifest.signature? "BaseException.__getattribute__" with
      | some sig => Bind.checkArgs "BaseException.__getattribute__" sig ⟨[Value.ref e] ++ [Value.str name t], []⟩
      | x => pure ()) Q' (fun e_1 s' => wpAny (model PySem.Challenge.rw_rr0095_01.row.prog w) A (getattributeRaised (Value.ref e) (Value.str name t) (Value.ref 88) e_1 none true expr) Q E s') ⟨h, g, d, t + 1, os⟩ := fun hq' => by
    repeat (first | wp_step)
    exact hq'
  refine pass ?_
  unfold Builtin.«object.__getattribute__»
  refine wpAny_bind (wpAny_pure (wpAny_bind (wpAny_pure (wpAny_bind (Looks.at L0 (wpAny_bind (Looks.at L4 ?_)))))))
  refine wpAny_pure ?_
  show wpAny _ _ (handedOut v) _ _ _
  rw [handedOut_of hh]; exact wpAny_pure hq
def RaisableK (w : World) (E : Value → Shared → Prop) (v : Value) (s₁ : Shared) : Prop := ∃ e oe vs, v = .ref e ∧ (K39 w.params).In s₁.heap ∧ s₁.heap.get? e = some oe ∧ oe.cls = .ref 88 ∧ oe.data = .fields vs ∧ vs[1]? = some .none ∧ E (.ref e) s₁
theorem kf_plain (X : (K39 w.params).In h) : Looks (model PySem.Challenge.rw_rr0095_01.row.prog w) h (isSubtype (.ref 88) (.type "type")) false := Looks.of_peek X (by kernel_rfl)
theorem Raise_kf {s : Shared} {env : Env} {e : Expr} {pos : Pos} {Q : Flow → Shared → Prop} (hh : A.handled = none)
    (h : wpAny (model PySem.Challenge.rw_rr0095_01.row.prog w) A (eval e env) (RaisableK w E) E s) : wpAny (model PySem.Challenge.rw_rr0095_01.row.prog w) A (exec (.Raise (some e) none pos) env) Q E s := by
  show wpAny (model PySem.Challenge.rw_rr0095_01.row.prog w) A (do standAt pos; raiseStmt env (some (do let v ← eval e env; standAt pos; pure v)) none) Q E s
  refine wpAny_bind (wpAny_standAt ?_)
  unfold raiseStmt
  dsimp only
  refine wpAny_bind (wpAny_bind (wpAny_mono h (fun v s₁ h₁ => wpAny_bind (wpAny_standAt (wpAny_pure ?_))) fun _ _ x => x))
  obtain ⟨a, ob, vs, rfl, X, ha, hcls, hd', h1, hE⟩ := h₁
  obtain ⟨hp, g, d, tk, os⟩ := s₁
  have hnt : ∀ {Q' : Bool → Shared → Prop}, Q' false ⟨hp, g, d, tk, os⟩ → wpAny (model PySem.Challenge.rw_rr0095_01.row.prog w) A (isType (.ref a)) Q' E ⟨hp, g, d, tk, os⟩ := by
    intro Q' hq
    simp only [isType, loadHead]
    refine wpAny_bind (wpAny_loadPart ha ?_)
    rw [hd']; exact wpAny_pure hq
  have hto : Looks (model PySem.Challenge.rw_rr0095_01.row.prog w) hp (typeOf (.ref a)) (.ref 88) := hcls ▸ (Looks.ld ha).andThen .now
  have hin : Looks (model PySem.Challenge.rw_rr0095_01.row.prog w) hp (isInstance (.ref a) (.type "BaseException")) true := hto.andThen (kf_isBase X)
  refine wpAny_bind (wpAny_pure ?_)
  dsimp only
  refine wpAny_bind (wpAny_holding ?_)
  unfold excFromValue isExcClass
  refine wpAny_bind (wpAny_bind (hnt ?_))
  simp only [Bool.false_eq_true, if_false]
  refine wpAny_pure ?_
  simp only [Bool.false_eq_true, if_false]
  refine wpAny_bind (Looks.at hin ?_)
  simp only [if_true]
  refine wpAny_pure ?_
  have hm : Looks (model PySem.Challenge.rw_rr0095_01.row.prog w) hp (typeOf (.ref 88)) (.type "type") := Looks.of_peek X (by kernel_rfl)
  refine wpAny_bind (hnt ?_)
  simp only [Bool.false_eq_true, if_false]
  unfold raisedInstance
  refine wpAny_bind (wpAny_bind (Looks.at hto (wpAny_bind (Looks.at hm ?_))))
  rw [if_pos (by decide)]
  refine wpAny_pure ?_
  unfold setFlight raiseNew
  refine wpAny_bind (wpAny_bind (wpAny_field ha hd' h1 ?_))
  rw [if_neg (by decide)]
  refine wpAny_pure (wpAny_bind (wpAny_handled ?_))
  rw [hh]
  first
    | exact wpAny_throw hE
    | exact wpAny_bind (wpAny_pure (wpAny_throw hE))
end
section
variable {prog : Program} {w : World} {A A₀ : Around} {E : Value → Shared → Prop} {s : Shared} {K : Frag} {C L : Addr} {h₀ base : Heap} {m mg mb : Str → Option Value} {news : List (Addr × Obj)} {p : Program} {loose : List Str} {mean : ExcName → Option Value} {Q : Value → Shared → Prop}
theorem code_raw {env : Env} {outer : List Env} {R : Result → Shared → Prop} {name qual : Str} {params : Arguments} {body : List Stmt} {scope : Scope} {dV kV doc pm cdv ct oc : Value} {an od : Option Addr} {osl : Array (Option Value)} {f : Addr} {args : Args} {binds : List (Str × Value)}
    (B : Below A₀ base outer h₀) (F : Fr h₀ L s.heap m) (X₀ : K.In h₀) (N : News h₀ L s.heap news) (T : Top p loose mean mg mb h₀) (hA : A.frames = some (env :: outer)) (hf : env.frame = some L) (hke : env.scope.kind = .function)
    (ho : K.lookup f = some ⟨oc, od, .func (fnOf name qual params body scope dV kV doc pm an cdv ct), osl⟩) (hcd : codeIn K cdv qual = true) (hroom : A.depth < recursionLimit)
    (hbind : BindsTo s (fnOf name qual params body scope dV kV doc pm an cdv ct) args binds) (hloc : ∀ y ∈ binds, scope.names.lookup y.1 = some .local)
    (h : ∀ g L' h₁, Fr h₀ L g m → Fr g L' h₁ (fun y => binds.reverse.lookup y) → News g L' h₁ news → Below A base (env :: outer) g → K.In g → Top p loose mean mg mb g → (∀ p ∈ news, p.1 < L') →
      wpAny (model prog w) (A.deeper (envOf qual scope L' f cdv)) (execs body (envOf qual scope L' f cdv))
        (fun fl s' => R (.ok (.ret (match fl with | .ret v => v | _ => .none))) s')
        (fun e s' => wpAny (model prog w) (A.deeper (envOf qual scope L' f cdv)) (leaving (envOf qual scope L' f cdv) e) (fun _ s'' => R (.error e) s'') (fun e' s'' => R (.error e') s'') s')
        { s with heap := h₁, toks := s.toks + binds.length })
    (hco : scope.isCoroutine = false) (hgen : scope.isGenerator = false) (hk : scope.kind = .function)
    (hcell : ∀ x ∈ scope.names, x.2 ≠ .cell) : codeAny (model prog w) A (.call (.ref f) args) R s := by
  obtain ⟨FG, BG, st, lv⟩ := groundX (R := R) B F N hA hf hke
  have X := X₀.keeps F.keep
  refine codeAny_call_def (fd := fnOf name qual params body scope dV kV doc pm an cdv ct) (body := body) (binds := binds) hroom (X _ _ ho) rfl (T.nolimit.keeps F.keep) (codeRec_of X hcd) rfl hbind hcell hloc (fun h₁ hns hk₁ => ?_) hco hgen hk
  exact h _ s.heap.objs.size h₁ FG ⟨hns, fun b o e => hk₁ b o (of_hideAll _ e), Nat.le_of_eq (hideAll_size _ _)⟩
    (fun p hp => ⟨hk₁ _ _ (N p hp).1, Nat.ne_of_lt (Heap.lt_size (N p hp).1), hideAll_none _ (List.mem_map_of_mem hp)⟩) BG (X₀.keeps st) (T.keeps st) (fun p hp => Heap.lt_size (N p hp).1)
theorem fr_back {base g x h : Heap} {L L' : Addr} {m m' : Str → Option Value} (FG : Fr h₀ L g m) (U : g.UpToSlots x) (F' : Fr x L' h m') (k : h₀.StaysIn h) : Fr h₀ L h m := by
  exact ⟨(U.trans (Heap.UpToSlots.of_keeps F'.keep)).ns FG.ns, k, FG.above⟩
end
end
section
variable {VV : Program} {loo : List Str}
theorem strEmpty_len : Str.empty.length = 0 := rfl
def PairAt (own : List (Addr × Obj)) (v : Value) (o : Str × Str) : Prop := ∃ p t1 t2, v = .ref p ∧ (p, tupO [.str o.1 t1, .str o.2 t2]) ∈ own
def PairsAt (own : List (Addr × Obj)) : List Value → List (Str × Str) → Prop
  | [], [] => True
  | v :: vs, o :: os => PairAt own v o ∧ PairsAt own vs os
  | _, _ => False
theorem PairsAt.get {own : List (Addr × Obj)} : ∀ {vs : List Value} {os : List (Str × Str)} {i : Nat} {v : Value}, PairsAt own vs os → vs[i]? = some v → ∃ o, os[i]? = some o ∧ PairAt own v o
  | v :: vs, o :: os, 0, _, h, e => by cases e; exact ⟨o, rfl, h.1⟩
  | v :: vs, o :: os, i + 1, _, h, e => PairsAt.get (vs := vs) (os := os) (i := i) h.2 e
theorem PairsAt.length {own : List (Addr × Obj)} : ∀ {vs : List Value} {os : List (Str × Str)}, PairsAt own vs os → vs.length = os.length
  | [], [], _ => rfl
  | _ :: _, _ :: _, h => congrArg (· + 1) (PairsAt.length h.2)
theorem PairsAt.mono {own own' : List (Addr × Obj)} (s : ∀ p ∈ own, p ∈ own') : ∀ {vs : List Value} {os : List (Str × Str)}, PairsAt own vs os → PairsAt own' vs os
  | [], [], _ => trivial
  | _ :: _, _ :: _, ⟨⟨p, t1, t2, e, hm⟩, h⟩ => ⟨⟨p, t1, t2, e, s _ hm⟩, PairsAt.mono s h⟩
theorem PairsAt.snoc {own : List (Addr × Obj)} {v : Value} {o : Str × Str} (h' : PairAt own v o) : ∀ {vs : List Value} {os : List (Str × Str)}, PairsAt own vs os → PairsAt own (vs ++ [v]) (os ++ [o])
  | [], [], _ => ⟨h', trivial⟩
  | _ :: _, _ :: _, h => ⟨h.1, PairsAt.snoc h' h.2⟩
def pairD (o : Str × Str) : Dat := .tuple [.str o.1, .str o.2]
theorem PairsAt.dat {own : List (Addr × Obj)} : ∀ {vs : List Value} {os : List (Str × Str)}, PairsAt own vs os → DatAll own vs (os.map pairD)
  | [], [], _ => .nil
  | _ :: _, _ :: _, ⟨⟨p, t1, t2, e, hm⟩, h⟩ => by subst e; exact .cons (.tuple hm (.cons (.str _ _) (.cons (.str _ _) .nil))) (PairsAt.dat h)
open LCg LCp in
theorem pair_rest {prog : Program} {w : World} {A : Around} {h₀ : Heap} {L : Addr} {m : Str → Option Value} {env : Env} {x x₂ : Str} {px : Pos} {scope : Scope} {cl : List (Str × Addr)} {s : Shared} {S : List (Addr × Obj) → Prop} {vs : List Value} {os : List (Str × Str)} {its : Array Value} {Fin : List Value → List (Addr × Obj) → Prop} {news nn : List (Addr × Obj)}
    (hp : PairsAt nn vs os) (hi : its = vs.toArray) (hs : ∀ p ∈ nn, p ∈ news) (hS : S news) (hf : ∀ ys, DatAll [] ys (os.map fun o => .str o.1) → Fin ys news)
    (hk : (compEnvC scope cl 0 env).scope.kind = .function := by rfl) (hl : (compEnvC scope cl 0 env).kindOf x = some .local := by rfl) (hd : (x == ("__debug__" : Str)) = false := by decide) :
    CompRestP prog w A h₀ L m env (.Name x px) x x₂ scope cl s S (fun i v => its[i]? = some v) Fin its.size 0 [] news := by
  subst hi
  have main : ∀ k i ys, i + k = vs.length → DatAll [] ys ((os.take i).map fun o => .str o.1) → CompRestP prog w A h₀ L m env (.Name x px) x x₂ scope cl s S (fun i v => vs.toArray[i]? = some v) Fin k i ys news := by
    intro k
    induction k with
    | zero =>
      intro i ys e hy
      have e' : i = vs.length := by kpa_ne
      rw [e', hp.length, List.take_length] at hy
      exact hf ys hy
    | succ k ih =>
      intro i ys e hy
      refine CompRestP.succ fun v hv => ?_
      have hv' : vs[i]? = some v := by simpa using hv
      obtain ⟨o, ho, p, t1, t2, rfl, hm⟩ := hp.get hv'
      refine ⟨p, _, .str o.1 t1, .str o.2 t2, _, rfl, hs _ hm, rfl, rfl, fun I oI C oC D m₂ h tk E' hC hx hx₂ F N off ne => ?_⟩
      refine LCgL.ld_own (m₂ := m₂) (oC := oC) N (.tail _ (.head _)) hC hx ?_ hk hl hd
      refine CompEnd.intro F N news (fun _ h => h) off hS (ih (i + 1) _ (by kpa_ne) ?_)
      have : os.take (i + 1) = os.take i ++ [o] := by simp [List.take_add_one, ho]
      rw [this, List.map_append]
      exact hy.append (.cons (.str _ _) .nil)
  exact main _ 0 [] (by simp) .nil
abbrev sgEs (w : World) (t1 t2 t3 t4 t5 : Tok) (en st op od ow : Addr) : List DictEntry :=
  [⟨PyData.keyHash w.params (Str.ofString "entries"), .str (Str.ofString "entries") t1, .ref en⟩,
   ⟨PyData.keyHash w.params (Str.ofString "stands"), .str (Str.ofString "stands") t2, .ref st⟩,
   ⟨PyData.keyHash w.params (Str.ofString "opened"), .str (Str.ofString "opened") t3, .ref op⟩,
   ⟨PyData.keyHash w.params (Str.ofString "ordered"), .str (Str.ofString "ordered") t4, .ref od⟩,
   ⟨PyData.keyHash w.params (Str.ofString "own_fields"), .str (Str.ofString "own_fields") t5, .ref ow⟩]
def ordName (alias : Str) : Str := if (alias != Str.ofString "") = true then alias else Str.ofString "ordering"
def Takes (pairs : List (Str × Value)) (os : List (Str × Str)) (module : Str) (args : List Str) (alias : Str) : Prop :=
  module = Str.ofString "util/ordering" ∧ ∃ x, args = [x] ∧ (valueAt pairs x).isSome = true ∧ ordName alias ∉ os.map (·.1)
section
variable {pairs : List (Str × Value)} {os : List (Str × Str)} {module : Str} {args : List Str} {alias : Str}
theorem no_mod (h : (module != Str.ofString "util/ordering") = true) : ¬ Takes pairs os module args alias := fun hc => by
  rw [hc.1] at h; simp at h
theorem no_len (h : (args.length : Int) ≠ 1) : ¬ Takes pairs os module args alias := fun ⟨_, x, e, _⟩ => h (by rw [e]; rfl)
theorem no_known {x : Str} {r : List Str} (h : (valueAt pairs x).isSome = false) (e : args = x :: r) : ¬ Takes pairs os module args alias := fun ⟨_, y, e', h', _⟩ => by
  rw [e] at e'; cases e'; rw [h] at h'; cases h'
theorem dat_mem {nm : Str} : Dat.str nm ∈ os.map (fun o => Dat.str o.1) ↔ nm ∈ os.map (·.1) := by
  constructor
  · intro h
    obtain ⟨o, ho, e⟩ := List.mem_map.mp h
    exact List.mem_map.mpr ⟨o, ho, Dat.str.inj e⟩
  · intro h
    obtain ⟨o, ho, e⟩ := List.mem_map.mp h
    exact List.mem_map.mpr ⟨o, ho, congrArg Dat.str e⟩
theorem no_in1 {i : Decidable (Dat.str alias ∈ os.map fun o => Dat.str o.1)} (h : (alias != Str.ofString "") = true) (h2 : @decide _ i = true) : ¬ Takes pairs os module args alias := fun ⟨_, _, _, _, h'⟩ => by
  unfold ordName at h'; rw [if_pos h] at h'; exact h' (dat_mem.mp (of_decide_eq_true h2))
theorem no_in2 {i : Decidable (Dat.str (Str.ofString "ordering") ∈ os.map fun o => Dat.str o.1)} (h : (alias != Str.ofString "") = false) (h2 : @decide _ i = true) : ¬ Takes pairs os module args alias := fun ⟨_, _, _, _, h'⟩ => by
  unfold ordName at h'; rw [if_neg (by rw [h]; decide)] at h'; exact h' (dat_mem.mp (of_decide_eq_true h2))
theorem one_of {x : Str} {r : List Str} (e : args = x :: r) (h : (args.length : Int) = 1) : args = [x] := by
  subst e
  cases r with
  | nil => rfl
  | cons y r => simp only [List.length_cons] at h; kpa_ne
theorem yes1 {x x' : Str} {r r' : List Str} {i : Decidable (Dat.str alias ∈ os.map fun o => Dat.str o.1)} (h0 : (module != Str.ofString "util/ordering") = false) (hl : (args.length : Int) = 1) (hk : (valueAt pairs x).isSome = true) (e : args = x :: r) (e' : args = x' :: r')
    (h : (alias != Str.ofString "") = true) (h2 : @decide _ i = false) : Takes pairs os module args alias ∧ ordName alias = alias ∧ args = [x'] := by
  have ho : ordName alias = alias := if_pos h
  exact ⟨⟨by simpa using h0, x, one_of e hl, hk, by rw [ho]; exact fun z => of_decide_eq_false h2 (dat_mem.mpr z)⟩, ho, one_of e' hl⟩
theorem yes2 {x x' : Str} {r r' : List Str} {i : Decidable (Dat.str (Str.ofString "ordering") ∈ os.map fun o => Dat.str o.1)} (h0 : (module != Str.ofString "util/ordering") = false) (hl : (args.length : Int) = 1) (hk : (valueAt pairs x).isSome = true) (e : args = x :: r) (e' : args = x' :: r')
    (h : (alias != Str.ofString "") = false) (h2 : @decide _ i = false) : Takes pairs os module args alias ∧ ordName alias = Str.ofString "ordering" ∧ args = [x'] := by
  have ho : ordName alias = Str.ofString "ordering" := if_neg (by rw [h]; decide)
  exact ⟨⟨by simpa using h0, x, one_of e hl, hk, by rw [ho]; exact fun z => of_decide_eq_false h2 (dat_mem.mpr z)⟩, ho, one_of e' hl⟩
end
theorem leave_kf {M : Model} {A : Around} {E : Value → Shared → Prop} {s' : Shared} {base g : Heap} {outer : List Env} {L a e dx t : Addr} {m : Str → Option Value} {name : Str} {scope : Scope} {cd : Value} {Q : Unit → Shared → Prop} {rest : List (Addr × Obj)}
    (K : Below A base outer g) (F : Fr g L s'.heap m) {od : Obj} (N : News g L s'.heap ((e, excO 88 t (some dx)) :: (dx, od) :: rest)) (hl : ∀ p ∈ rest, p.1 < e) (hd : e < dx)
    (hQ : ∀ h', RaisedD base outer e dx ((dx, od) :: rest) h' → g.UpToSlots h' → Q () { s' with heap := h' }) (hk : scope.kind = .function := by rfl) :
    wpAny M (A.deeper (envOf name scope L a cd)) (leaving (envOf name scope L a cd) (.ref e)) Q E s' :=
  leave_raiseD K F N (.head _) (fun p hp => ⟨.tail _ hp, by
    rcases List.mem_cons.mp hp with rfl | hp
    · exact Nat.ne_of_gt hd
    · exact Nat.ne_of_lt (hl p hp)⟩) hQ hk
theorem raisable_of {w : World} {E : Value → Shared → Prop} {s : Shared} {h₀ : Heap} {L e t dx : Addr} {m : Str → Option Value} {rest : List (Addr × Obj)} (F : Fr h₀ L s.heap m) (X : (K39 w.params).In h₀) (N : News h₀ L s.heap ((e, excO 88 t (some dx)) :: rest)) (h : E (.ref e) s) : RaisableK w E (.ref e) s :=
  ⟨e, _, _, rfl, X.keeps F.keep, (N _ (.head _)).1, rfl, rfl, rfl, h⟩
theorem raised_cut {base h : Heap} {l : List Env} {e dx : Addr} {od : Obj} {rest led : List (Addr × Obj)} (R : RaisedD base l e dx ((dx, od) :: rest) h) (hs : ∀ p ∈ led, p ∈ rest) : RaisedD base l e dx ((dx, od) :: led) h :=
  R.sub fun p hp => by
    rcases List.mem_cons.mp hp with rfl | hp
    · exact .head _
    · exact .tail _ (hs p hp)
theorem news_top {h₀ h : Heap} {L p : Addr} {o : Obj} {rest led : List (Addr × Obj)} (N : News h₀ L h ((p, o) :: rest)) (hs : ∀ p ∈ led, p ∈ rest) : News h₀ L h ((p, o) :: led) := N.perm fun p hp => by
    rcases List.mem_cons.mp hp with rfl | hp
    · exact .head _
    · exact .tail _ (hs p hp)
theorem fresh_ed {g h : Heap} {L e dx : Addr} {o o' : Obj} {rest : List (Addr × Obj)} (N : News g L h ((e, o) :: (dx, o') :: rest)) : g.get? e = none ∧ g.get? dx = none := ⟨(N _ (.head _)).2.2, (N _ (.tail _ (.head _))).2.2⟩
theorem item0L {prog : Program} {w : World} {A : Around} {E : Value → Shared → Prop} {s : Shared} {h₀ : Heap} {L : Addr} {news : List (Addr × Obj)} {value slice : Expr} {t : Addr} {vs : List Value} {xs : List Str} {u : Tok} {Q : Value → Shared → Prop} (N : News h₀ L s.heap news) (ht : (t, tupO vs) ∈ news) (hs : StrsAre vs xs) (hb : 0 < xs.length) (hl : ∀ x ∈ xs, x.length ≤ 100)
    (h : ∀ x r tk, xs = x :: r → x.length ≤ 100 → Q (.str x tk) s)
    (hsub : subscripted slice false (.ref t) (.int 0 u) = operate [.ref t, .int 0 u] (getItem (.ref t) (.int 0 u)) := by with_unfolding_all rfl) :
    wpAny (model prog w) A (subscriptTail value slice (.ref t) (.int 0 u)) Q E s := item0N N ht hs hb (fun x r tk e => h x r tk e (hl x (by rw [e]; exact .head _))) hsub
local macro_rules | `(tactic| size_fits) => `(tactic| first | ((simp only [PySem.sizeLine_eq]); kpa_ne) | fail "mine: no size")
local macro_rules | `(tactic| walk_at "joinParts") => `(tactic| (k_here; first
  | (refine joinF_nilE (by first | kpa_ne | (simp only [strEmpty_len] at *; kpa_ne) | exact Nat.le_of_ble_eq_true rfl) ?_; intro zJ tJ hJ)
  | refine joinF_consE ?_
  | (refine joinF_nil (by first | kpa_ne | (simp only [strEmpty_len] at *; kpa_ne) | exact Nat.le_of_ble_eq_true rfl) ?_; intro zJ tJ hJ)
  | refine joinF_cons ?_))
local macro_rules | `(tactic| walk_at "Grow") => `(tactic| ((try dsimp only); refine Grow.of (by first | kpa_ne | (simp only [strEmpty_len] at *; kpa_ne) | exact Nat.le_of_ble_eq_true rfl) (by first | assumption | (apply short_nat; kpa_ne) | exact Nat.le_of_ble_eq_true (by kernel_rfl) | solve_by_elim) ?_; intro zJ hJ))
local macro_rules | `(tactic| walk_at "SrcLP") => `(tactic| (k_here; k_dflt (refine LCp.SrcLP.ledger (by rfl) (by k_asm) (by k_asm) (by k_mem) (by simp only [List.size_toArray, PySem.sizeLine_eq]; kpa_ne) ?_); intro g'; k_dflt (refine' pair_rest ?p rfl ?s ?S ?_ ?a ?b ?c; (case p => assumption); (case s => kqd_sub); (case S => exact .inr ⟨_, by k_mem, rfl, _, rfl⟩); (case a => rfl); (case b => rfl); (case c => decide)); intro ys' hys'))
set_option maxHeartbeats 0 in
theorem take_spec {w : World} {mean : ExcName → Option Value} {mg mb : Str → Option Value} {dp un : Nat} {gd : Option (List Code)} {cn : Str} {sn : List (Str × NameKind)} {sgn sco : Bool} {smo : List (Str × Const)} {a : Addr} {ccd : Value} {cl : List (Str × Addr)} {outer : List Env} {A₀ : Around} {base h₀ : Heap} {L : Addr} {m : Str → Option Value} {own : List (Addr × Obj)} {s : Shared} {Q E : Value → Shared → Prop}
    {sg sd en st op od ow ai aa : Addr} {oe : Obj} {u1 u2 u3 u4 t1 t2 t3 t4 t5 : Tok} {pairs : List (Str × Value)} {ovs avs : List Value} {os : List (Str × Str)} {on : Nat} {spot : Int} {module alias : Str} {args : List Str}
    (B : Below A₀ base outer h₀) (F : Fr h₀ L s.heap m) (X : (K39 w.params).In h₀)
    (N : News h₀ L s.heap ((sg, instObj 269 sd) :: (sd, dictOf (sgEs w t1 t2 t3 t4 t5 en st op od ow) 5) :: (op, PySem.W.listOf ovs.toArray on) :: (en, oe) ::
       (ai, tupO [.str (Str.ofString "open") u1, .int spot u2, .str module u3, .ref aa, .str alias u4]) :: (aa, tupO avs) :: own))
    (T : Top VV loo mean mg mb h₀)
    (hdp : dp + 20 < recursionLimit) (hun : un + 200 < cLine)
    (hob : Obj.IsDictOf (strKind PySem.Challenge.rw_rr0095_01.row.prog w) oe pairs) (lo : (en == sysModules) = false)
    (hn1 : @Ne Nat sg op) (hn2 : @Ne Nat sd op)  (hn3 : @Ne Nat en op)  (hn4 : @Ne Nat ai op)  (hn5 : @Ne Nat aa op)
    (hown : OwnOff own [op]) (hos : PairsAt own ovs os) (hol : ovs.length ≤ 100)
    (hargs : StrsAre avs args) (hl1 : args.length ≤ 10) (hl2 : module.length ≤ 100) (hl3 : alias.length ≤ 100) (hl4 : ∀ x ∈ args, x.length ≤ 100) (hl5 : ∀ o ∈ os, o.1.length ≤ 100) (hl6 : PyData.strOk alias = true) (hl7 : ∀ d ∈ os.map fun o => Dat.str o.1, kqdOk 8 d = true)
    (hQ : ∀ (nm x : Str) (p : Addr) (ta tb : Tok) (h' : Heap) (tk' : Nat), Takes pairs os module args alias → ordName alias = nm → args = [x] → Fr h₀ L h' m →
      News h₀ L h' ((p, tupO [.str nm ta, .str x tb]) :: (sg, instObj 269 sd) :: (sd, dictOf (sgEs w t1 t2 t3 t4 t5 en st op od ow) 5) :: (op, PySem.W.listOf (ovs ++ [Value.ref p]).toArray (on + 1)) :: (en, oe) :: own) →
      (@LT.lt Nat _ sg p ∧ @LT.lt Nat _ sd p ∧ @LT.lt Nat _ op p ∧ @LT.lt Nat _ en p ∧ AllLt p own) → Q .none { s with heap := h', toks := tk' })
    (hE : ¬ Takes pairs os module args alias → ∀ g h' e dx tk' what k1 k2 k3, Fr h₀ L g m → g.UpToSlots h' →
      RaisedD base (envX cn ⟨.function, sn, sgn, sco, smo⟩ L a ccd cl :: outer) e dx ((dx, dictOf [⟨PyData.keyHash w.params (Str.ofString "what"), .str (Str.ofString "what") k1, .str what k2⟩, ⟨PyData.keyHash w.params (Str.ofString "spot"), .str (Str.ofString "spot") k3, .int spot u2⟩] 2) ::
        (sg, instObj 269 sd) :: (sd, dictOf (sgEs w t1 t2 t3 t4 t5 en st op od ow) 5) :: (op, PySem.W.listOf ovs.toArray on) :: (en, oe) :: own) h' → (g.get? e = none ∧ g.get? dx = none) →
      E (.ref e) { s with heap := h', toks := tk' })
    :
    wpAny (model PySem.Challenge.rw_rr0095_01.row.prog w) (ktrTop dp un gd cn ⟨.function, sn, sgn, sco, smo⟩ L a ccd cl outer) (call (.ref 161) [.ref sg, .ref ai]) Q E s := by
  have hkk : (envX cn ⟨.function, sn, sgn, sco, smo⟩ L a ccd cl).scope.kind = .function := rfl
  refine wpAny_call ?_
  k_dflt ktr_enter
  refine tok_gen fun tkA => ?_
  rename Fr _ _ _ _ => FE
  replace FE : Fr _ _ _ (bindFr [(Str.ofString "item", Value.ref ai), (Str.ofString "self", Value.ref sg)]) := FE
  (repeat' (first | (k_unfold; (try dsimp only)) | (k_end; wrow_close) | ((with_reducible show wpAny _ _ (compareOp CmpOp.In _ (Value.ref _)) _ _ _); k_dflt (refine kqd_isIn (by k_asm) (by k_mem) (by rfl) (by rfl) (by assumption) (by kqd_sub) (by kqd_in) (fun _ h => h) (by first | assumption | kqd_ok) (by first | assumption | exact (by kernel_rfl)) (by ktr_units) ?_)) | ((with_reducible show wpAny _ _ (call (Value.ref 88) [Value.str _ _, Value.int _ _]) _ _ _); k_dflt (refine kf_spec (by k_asm) (by k_asm) (by k_asm) (by k_asm) (by k_asm) (by ktr_room) (by ktr_units) ?_); intro _ _ _ _ _ _ _ _ _ _ _) | ((with_reducible show RaisableK _ _ (Value.ref _) _); ((refine ⟨_, _, _, rfl, (by k_in), (by exact (News.get (by k_asm) (by k_mem))), (by exact rfl), (by exact rfl), (by exact rfl), ?_⟩); (show wpAny _ _ (leaving _ _) _ _ _); (try dsimp only))) | ((with_reducible show wpAny _ _ (exec (Stmt.Raise (some _) none _) _) _ _ _); (k_dflt (refine Raise_kf (by exact rfl) ?_))) | ((with_reducible show wpAny _ _ (compareOp CmpOp.NotIn (Value.str _ _) (Value.ref _)) _ _ _); (k_dflt (refine kdg_notin (knd := PySem.strKind _ _) (by k_asm) (by k_mem) (by k_asm) (by k_asm) (strKind_is _ _ _ _) _ rfl ?_))) | ((with_reducible show wpAny _ _ (subscriptTail _ _ (Value.ref _) (Value.int _ _)) _ _ _); k_dflt (refine Mine.item0L (by k_asm) (by k_mem) (by k_asm) (by kpa_ne) (by assumption) ?_ (by with_unfolding_all rfl)); intro _ _ _ _ _) | ((with_reducible show wpAny _ _ (call (Value.builtin "len") [Value.ref _]) _ _ _); k_dflt (refine Mine.len_tupN (by k_asm) (by k_mem) (by k_asm) (by kpa_ne) ?_)) | ((with_reducible show wpAny _ _ (subscriptTail _ (PySem.Expr.Slice _ _ none _) (Value.ref _) (Value.ref _)) _ _ _); k_dflt (refine Mine.cut15 (by k_asm) (by k_asm) (by k_mem) ?_ (by with_unfolding_all rfl) (by kmk_pure)); intro _ _ _ _ q09; (try k_lt q09); revert q09; intro _; (try k_sweep)) | (k_dflt (first | ((with_reducible show wpAny _ _ (subscriptTail _ _ (Value.ref _) (Value.str _ _)) _ _ _); refine kda_item (knd := PySem.strKind _ _) (by k_asm) (by k_mem) (by k_asm) (strKind_is _ _ _ _) (by rfl) ?_))) | ((with_reducible show wpAny _ _ (setItem (Value.ref _) (Value.str _ _) _) _ _ _); (k_dflt (refine kda_set (knd := PySem.strKind _ _) (by k_asm) (by k_asm) (by k_updF) (by k_asm) (strKind_is _ _ _ _) (by kob_size) ?_); intro _ _ _ _ _; (try kob_lit); (try dsimp only at N'))) | walk1 | (dsimp only; walk1) | (leave1; walk_say "STEP leave1"; try dsimp only) | fail "no step"))
  all_goals (try (refine raisable_of (by k_asm) (by k_asm) (by k_asm) ?_; show wpAny _ _ (leaving _ _) _ _ _))
  · refine leave_kf (by assumption) (by assumption) (by assumption) (by assumption) (by assumption) ?_
    intro h9 R9 U9
    refine hE ?_ _ _ _ _ _ _ _ _ _ (by assumption) U9 (raised_cut R9 ?_) (fresh_ed (by assumption))
    · first | exact no_mod (by assumption) | exact no_len (by assumption) | exact no_known (by assumption) (by assumption) | exact no_in1 (by assumption) (by assumption) | exact no_in2 (by assumption) (by assumption)
    · repeat (refine List.forall_mem_cons.mpr ⟨?_, ?_⟩; (· k_mem))
      intro p hp
      repeat (first | exact hp | apply List.mem_cons_of_mem)
  · refine leave_kf (by assumption) (by assumption) (by assumption) (by assumption) (by assumption) ?_
    intro h9 R9 U9
    refine hE ?_ _ _ _ _ _ _ _ _ _ (by assumption) U9 (raised_cut R9 ?_) (fresh_ed (by assumption))
    · first | exact no_mod (by assumption) | exact no_len (by assumption) | exact no_known (by assumption) (by assumption) | exact no_in1 (by assumption) (by assumption) | exact no_in2 (by assumption) (by assumption)
    · repeat (refine List.forall_mem_cons.mpr ⟨?_, ?_⟩; (· k_mem))
      intro p hp
      repeat (first | exact hp | apply List.mem_cons_of_mem)
  · refine leave_kf (by assumption) (by assumption) (by assumption) (by assumption) (by assumption) ?_
    intro h9 R9 U9
    refine hE ?_ _ _ _ _ _ _ _ _ _ (by assumption) U9 (raised_cut R9 ?_) (fresh_ed (by assumption))
    · first | exact no_mod (by assumption) | exact no_len (by assumption) | exact no_known (by assumption) (by assumption) | exact no_in1 (by assumption) (by assumption) | exact no_in2 (by assumption) (by assumption)
    · repeat (refine List.forall_mem_cons.mpr ⟨?_, ?_⟩; (· k_mem))
      intro p hp
      repeat (first | exact hp | apply List.mem_cons_of_mem)
  · obtain ⟨y1, y2, y3⟩ := yes1 (pairs := pairs) (by assumption) (by assumption) (by assumption) (by assumption) (by assumption) (by assumption) (by assumption)
    show Q _ { s with heap := _, toks := _ }
    refine hQ _ _ _ _ _ _ _ y1 y2 y3 (by k_asm) (news_top (by k_asm) ?_) ?_
    · rw [← List.push_toArray]
      repeat (refine List.forall_mem_cons.mpr ⟨?_, ?_⟩; (· k_mem))
      intro p hp
      repeat (first | exact hp | apply List.mem_cons_of_mem)
    · refine ⟨?_, ?_, ?_, ?_, ?_⟩ <;> simp only [*]
  · refine leave_kf (by assumption) (by assumption) (by assumption) (by assumption) (by assumption) ?_
    intro h9 R9 U9
    refine hE ?_ _ _ _ _ _ _ _ _ _ (by assumption) U9 (raised_cut R9 ?_) (fresh_ed (by assumption))
    · first | exact no_mod (by assumption) | exact no_len (by assumption) | exact no_known (by assumption) (by assumption) | exact no_in1 (by assumption) (by assumption) | exact no_in2 (by assumption) (by assumption)
    · repeat (refine List.forall_mem_cons.mpr ⟨?_, ?_⟩; (· k_mem))
      intro p hp
      repeat (first | exact hp | apply List.mem_cons_of_mem)
  · obtain ⟨y1, y2, y3⟩ := yes2 (pairs := pairs) (by assumption) (by assumption) (by assumption) (by assumption) (by assumption) (by assumption) (by assumption)
    show Q _ { s with heap := _, toks := _ }
    refine hQ _ _ _ _ _ _ _ y1 y2 y3 (by k_asm) (news_top (by k_asm) ?_) ?_
    · rw [← List.push_toArray]
      repeat (refine List.forall_mem_cons.mpr ⟨?_, ?_⟩; (· k_mem))
      intro p hp
      repeat (first | exact hp | apply List.mem_cons_of_mem)
    · refine ⟨?_, ?_, ?_, ?_, ?_⟩ <;> simp only [*]
  · refine leave_kf (by assumption) (by assumption) (by assumption) (by assumption) (by assumption) ?_
    intro h9 R9 U9
    refine hE ?_ _ _ _ _ _ _ _ _ _ (by assumption) U9 (raised_cut R9 ?_) (fresh_ed (by assumption))
    · first | exact no_mod (by assumption) | exact no_len (by assumption) | exact no_known (by assumption) (by assumption) | exact no_in1 (by assumption) (by assumption) | exact no_in2 (by assumption) (by assumption)
    · repeat (refine List.forall_mem_cons.mpr ⟨?_, ?_⟩; (· k_mem))
      intro p hp
      repeat (first | exact hp | apply List.mem_cons_of_mem)
end
section
variable {VV : Program} {loo : List Str}

set_option maxHeartbeats 0 in
theorem draw_spec {w : World} {mean : ExcName → Option Value} {mg mb : Str → Option Value} {dp un : Nat} {gd : Option (List Code)} {cn : Str} {cs : Scope} {a : Addr} {ccd : Value} {cl : List (Str × Addr)} {outer : List Env} {A₀ : Around} {base h₀ : Heap} {L : Addr} {m : Str → Option Value} {own : List (Addr × Obj)} {s : Shared} {Q E : Value → Shared → Prop}
    {b c : Addr} {ob : Obj} {vs : List Value} {ns : List Int} {n0 : Nat} {t1 t2 t3 tw : Tok} {at' wide : Int}
    (B : Below A₀ base outer h₀) (F : Fr h₀ L s.heap m) (X : (K39 w.params).In h₀) (N : News h₀ L s.heap ((b, ob) :: (c, PySem.W.listOf vs.toArray n0) :: own))
    (T : Top VV loo mean mg mb h₀) (hk : cs.kind = .function)
    (hdp : dp + 1 < recursionLimit) (hun : un + 8 < cLine)
    (hob : Obj.IsDictOf (strKind PySem.Challenge.rw_rr0095_01.row.prog w) ob (strPairs [(.str (Str.ofString "cells") t1, .ref c), (.str (Str.ofString "at") t2, .int at' t3)])) (lo : (b == sysModules) = false)
    (hbc : @Ne Nat b c) (hown : OwnOff own [b])
    (hI : IntsAre vs ns) (hl : ns.length ≤ 63) (h0 : 0 ≤ at') (h1 : at' < 100000) (hw0 : 0 < wide) (hw1 : wide < 1000)
    (ret : ∀ r t h' tk' ob' t3', 0 ≤ r → r < wide → Fr h₀ L h' m → News h₀ L h' ((b, ob') :: (c, PySem.W.listOf vs.toArray n0) :: own) →
      Obj.IsDictOf (strKind PySem.Challenge.rw_rr0095_01.row.prog w) ob' (strPairs [(.str (Str.ofString "cells") t1, .ref c), (.str (Str.ofString "at") t2, .int (at' + 1) t3')]) →
      Q (.int r t) { s with heap := h', toks := tk' }) :
    wpAny (model PySem.Challenge.rw_rr0095_01.row.prog w) (ktrTop dp un gd cn cs L a ccd cl outer) (call (.ref 524) [.ref b, .int wide tw]) Q E s := by
  refine wpAny_call ?_
  k_dflt ktr_enter
  refine tok_gen fun tkA => ?_
  rename Fr _ _ _ _ => FE
  replace FE : Fr _ _ _ (bindFr [(Str.ofString "wide", Value.int wide tw), (Str.ofString "bell", Value.ref b)]) := FE
  (repeat' (first | (k_unfold; (try dsimp only)) | (k_end; wrow_close) | (k_dflt (first | ((with_reducible show wpAny _ _ (subscriptTail _ _ (Value.ref _) (Value.str _ _)) _ _ _); refine kda_item (knd := PySem.strKind _ _) (by k_asm) (by k_mem) (by k_asm) (strKind_is _ _ _ _) (by rfl) ?_))) | ((with_reducible show wpAny _ _ (setItem (Value.ref _) (Value.str _ _) _) _ _ _); (k_dflt (refine kda_set (knd := PySem.strKind _ _) (by k_asm) (by k_asm) (by k_updF) (by k_asm) (strKind_is _ _ _ _) (by kob_size) ?_); intro _ _ _ _ _; (try kob_lit); (try dsimp only at N'))) | walk1 | (dsimp only; walk1) | (leave1; walk_say "STEP leave1"; try dsimp only) | fail "no step"))
  · exact ret _ _ _ _ _ _ (Int.fmod_nonneg_of_pos _ hw0) (Int.fmod_lt_of_pos _ hw0) (by assumption) (by assumption) (by assumption)
  · exact ret _ _ _ _ _ _ (Int.fmod_nonneg_of_pos _ hw0) (Int.fmod_lt_of_pos _ hw0) (by assumption) (by assumption) (by assumption)
def BellTo (w : World) (ob : Obj) (c : Addr) (n : Nat) : Prop := ∃ (k : Int) (t1 t2 t3 : Tok), 0 ≤ k ∧ k ≤ n ∧ Obj.IsDictOf (strKind PySem.Challenge.rw_rr0095_01.row.prog w) ob (strPairs [(.str (Str.ofString "cells") t1, .ref c), (.str (Str.ofString "at") t2, .int k t3)])
theorem BellTo.mono {w : World} {ob : Obj} {c : Addr} {n n' : Nat} (h : BellTo w ob c n) (e : n ≤ n') : BellTo w ob c n' := let ⟨k, t1, t2, t3, a, b, d⟩ := h; ⟨k, t1, t2, t3, a, by kpa_ne, d⟩
theorem draw_K {w : World} {mean : ExcName → Option Value} {mg mb : Str → Option Value} {dp un : Nat} {gd : Option (List Code)} {cn : Str} {sn : List (Str × NameKind)} {sgn sco : Bool} {smo : List (Str × Const)} {a : Addr} {ccd : Value} {cl : List (Str × Addr)} {outer : List Env} {A₀ : Around} {base h₀ : Heap} {L : Addr} {m : Str → Option Value} {news : List (Addr × Obj)} {s : Shared} {Q E : Value → Shared → Prop}
    {b c : Addr} {ob : Obj} {vs : List Value} {ns : List Int} {n0 n : Nat} {tw : Tok} {wide : Int} {gN : Obj → List (Addr × Obj)}
    (B : Below A₀ base outer h₀) (F : Fr h₀ L s.heap m) (X : (K39 w.params).In h₀) (N : News h₀ L s.heap news) (T : Top VV loo mean mg mb h₀)
    (U : UpdF b ob news gN) (hc : (c, PySem.W.listOf vs.toArray n0) ∈ news) (hb : BellTo w ob c n) (hn : n < 1000)
    (hdp : dp + 1 < recursionLimit) (hun : un + 8 < cLine) (lo : (b == sysModules) = false) (hbc : @Ne Nat b c)
    (hI : IntsAre vs ns) (hl : ns.length ≤ 63) (hw0 : 0 < wide) (hw1 : wide < 1000)
    (ret : ∀ r t h' tk' ob', 0 ≤ r → r < wide → Fr h₀ L h' m → News h₀ L h' (gN ob') → BellTo w ob' c (n + 1) → Q (.int r t) { s with heap := h', toks := tk' }) :
    wpAny (model PySem.Challenge.rw_rr0095_01.row.prog w) (ktrTop dp un gd cn ⟨.function, sn, sgn, sco, smo⟩ L a ccd cl outer) (call (.ref 524) [.ref b, .int wide tw]) Q E s := by
  obtain ⟨pre, post, rfl, hg, o1, o2⟩ := U.split
  obtain ⟨k, t1, t2, t3, k0, k1, hd⟩ := hb
  have hcp : (c, PySem.W.listOf vs.toArray n0) ∈ pre ++ post := by
    rcases List.mem_append.mp hc with q | q
    · exact List.mem_append_left _ q
    · rcases List.mem_cons.mp q with q | q
      · exact absurd (congrArg Prod.fst q).symm hbc
      · exact List.mem_append_right _ q
  refine draw_spec (vs := vs) (ns := ns) (n0 := n0) (own := pre ++ post) (t1 := t1) (t2 := t2) (t3 := t3) (at' := k) B F X (N.perm fun p hp => ?_) T rfl hdp hun hd lo hbc (fun p hp d hd' => ?_) hI hl k0 (by kpa_ne) hw0 hw1
    (fun r t h' tk' ob' t3' r0 r1 F' N' d' => ret r t h' tk' ob' r0 r1 F' (N'.perm fun p hp => ?_) ⟨k + 1, t1, t2, t3', by kpa_ne, by kpa_ne, d'⟩)
  · rcases List.mem_cons.mp hp with rfl | hp
    · exact List.mem_append_right _ (.head _)
    · rcases List.mem_cons.mp hp with rfl | hp
      · exact hc
      · rcases List.mem_append.mp hp with q | q
        · exact List.mem_append_left _ q
        · exact List.mem_append_right _ (.tail _ q)
  · obtain rfl := List.mem_singleton.mp hd'
    rcases List.mem_append.mp hp with q | q
    · exact o1 p q
    · exact o2 p q
  · rw [hg] at hp
    rcases List.mem_append.mp hp with q | q
    · exact .tail _ (.tail _ (List.mem_append_left _ q))
    · rcases List.mem_cons.mp q with rfl | q
      · exact .head _
      · exact .tail _ (.tail _ (List.mem_append_right _ q))
end
section
variable {VV : Program} {loo : List Str}
theorem way_split {M : Model} {A : Around} {E : Value → Shared → Prop} {s : Shared} {Q : Value → Shared → Prop} {d : Addr} {r : Int} {t : Tok} {dflt : Value}
    (h7 : wpAny M A (call (.builtin "dict.get") [.ref d, .int 7 t, dflt]) Q E s) (h6 : wpAny M A (call (.builtin "dict.get") [.ref d, .int 6 t, dflt]) Q E s) (h5 : wpAny M A (call (.builtin "dict.get") [.ref d, .int 5 t, dflt]) Q E s)
    (h : r ≠ 7 → r ≠ 6 → r ≠ 5 → wpAny M A (call (.builtin "dict.get") [.ref d, .int r t, dflt]) Q E s) : wpAny M A (call (.builtin "dict.get") [.ref d, .int r t, dflt]) Q E s := by
  by_cases e7 : r = 7
  · subst e7; exact h7
  by_cases e6 : r = 6
  · subst e6; exact h6
  by_cases e5 : r = 5
  · subst e5; exact h5
  exact h e7 e6 e5
def lawAliases : List Str := [Str.ofString "", Str.ofString "o", Str.ofString "p", Str.ofString "ordering", Str.ofString "A"]
theorem alias_at {w : World} {A : Around} {E : Value → Shared → Prop} {s : Shared} {h₀ : Heap} {L : Addr} {m : Str → Option Value} {value slice : Expr} {r : Int} {u : Tok} {Q : Value → Shared → Prop} (F : Fr h₀ L s.heap m) (X : (K39 w.params).In h₀)
    (r0 : 0 ≤ r) (r1 : r < 5) (h : ∀ x t, x ∈ lawAliases → Q (.str x t) s)
    (hs : ∀ k t, subscripted slice false (.ref 516) (.int k t) = operate [.ref 516, .int k t] (getItem (.ref 516) (.int k t))) :
    wpAny (model PySem.Challenge.rw_rr0095_01.row.prog w) A (subscriptTail value slice (.ref 516) (.int r u)) Q E s := by
  have z : r = 0 ∨ r = 1 ∨ r = 2 ∨ r = 3 ∨ r = 4 := by kpa_ne
  rcases z with rfl | rfl | rfl | rfl | rfl
  all_goals
    refine topTup_K F X (by k_is) (by decide) (by decide) rfl rfl ?_ (hs _ _)
    exact h _ _ (by decide)
theorem way_none {r : Int} {a b c : Value} {t7 t6 t5 : Tok} (e7 : r ≠ 7) (e6 : r ≠ 6) (e5 : r ≠ 5) : valueAt (intKeyPairs [(.int 7 t7, a), (.int 6 t6, b), (.int 5 t5, c)]) r = none := by
  simp [intKeyPairs, valueAt, Ne.symm e7, Ne.symm e6, Ne.symm e5]
local macro_rules | `(tactic| walk_at "eval Dict") => `(tactic| (k_here; k_dflt (refine' kdn_int ?q ?F ?N ?b ?a ?l ?e ?n ?_; (case q => rfl); (case F => k_asm); (case N => k_asm); (case b => exact Top.nolimit (by k_asm)); (case a => rfl); (case l => rfl); (case e => exact List.cons_ne_nil _ _); (case n => exact Nat.le_of_ble_eq_true rfl)); intro d' h' o' F' N' l1 lo' hd'; (try k_lt l1)))
local macro_rules | `(tactic| walk_at "call builtin:dict.get") => `(tactic| (k_here; (with_reducible show wpAny _ _ (call (Value.builtin "dict.get") [Value.ref _, Value.int _ _, _]) _ _ _); refine way_split ?_ ?_ ?_ ?_ <;> k_dflt (first
  | refine kdg_get2 (knd := PySem.intKind _ _) (by k_asm) (by k_mem) (by k_asm) (by k_asm) (intKind_is _ _ _ _) (some _) (by rfl) ?_
  | (intro e7 e6 e5; refine kdg_get2 (knd := PySem.intKind _ _) (by k_asm) (by k_mem) (by k_asm) (by k_asm) (intKind_is _ _ _ _) none (way_none e7 e6 e5) ?_)) <;> (try dsimp only [Option.getD])))
theorem news_top2 {h₀ h : Heap} {L p q : Addr} {o o' : Obj} {rest led : List (Addr × Obj)} (N : News h₀ L h ((p, o) :: rest)) (hq : (q, o') ∈ rest) (hs : ∀ p ∈ led, p ∈ rest) : News h₀ L h ((p, o) :: (q, o') :: led) := N.perm fun p hp => by
    rcases List.mem_cons.mp hp with rfl | hp
    · exact .head _
    rcases List.mem_cons.mp hp with rfl | hp
    · exact .tail _ hq
    · exact .tail _ (hs p hp)
def lawSigs : List Str := [Str.ofString "A", Str.ofString "B", Str.ofString "C", Str.ofString "D", Str.ofString "Z"]
def ItemOk (module : Str) (args : List Str) (alias : Str) : Prop := (module = Str.ofString "util/ordering" ∨ module = Str.ofString "util/order") ∧ (∀ x ∈ args, x ∈ lawSigs) ∧ args.length ≤ 2 ∧ alias ∈ lawAliases
theorem item_sig {r : Int} (h0 : 0 ≤ r) (h1 : r < 4) : Txt.item (Str.ofString "ABCD") r ∈ lawSigs := by
  have z : r = 0 ∨ r = 1 ∨ r = 2 ∨ r = 3 := by kpa_ne
  rcases z with rfl | rfl | rfl | rfl <;> decide +kernel
set_option maxHeartbeats 0 in
theorem open_spec {w : World} {mean : ExcName → Option Value} {mg mb : Str → Option Value} {dp un : Nat} {gd : Option (List Code)} {cn : Str} {sn : List (Str × NameKind)} {sgn sco : Bool} {smo : List (Str × Const)} {a : Addr} {ccd : Value} {cl : List (Str × Addr)} {outer : List Env} {A₀ : Around} {base h₀ : Heap} {L : Addr} {m : Str → Option Value} {own : List (Addr × Obj)} {s : Shared} {Q E : Value → Shared → Prop}
    {b c : Addr} {ob : Obj} {vs : List Value} {ns : List Int} {n0 n : Nat} {ts : Tok} {spot : Int}
    (B : Below A₀ base outer h₀) (F : Fr h₀ L s.heap m) (X : (K39 w.params).In h₀) (N : News h₀ L s.heap ((b, ob) :: (c, PySem.W.listOf vs.toArray n0) :: own)) (T : Top VV loo mean mg mb h₀)
    (hb : BellTo w ob c n) (hn : n < 900)
    (hdp : dp + 10 < recursionLimit) (hun : un + 100 < cLine) (lo : (b == sysModules) = false) (hbc : @Ne Nat b c) (hown : OwnOff own [b])
    (hI : IntsAre vs ns) (hl : ns.length ≤ 63)
    (hQ : ∀ (ai aa : Addr) avs args module alias u1 u2 u3 ob' h' tk', Fr h₀ L h' m →
      News h₀ L h' ((ai, tupO [.str (Str.ofString "open") u1, .int spot ts, .str module u2, .ref aa, .str alias u3]) :: (aa, tupO avs) :: (b, ob') :: (c, PySem.W.listOf vs.toArray n0) :: own) → StrsAre avs args → ItemOk module args alias → BellTo w ob' c (n + 4) →
      (@LT.lt Nat _ aa ai ∧ @LT.lt Nat _ b aa ∧ @LT.lt Nat _ c aa ∧ AllLt aa own) → Q (.ref ai) { s with heap := h', toks := tk' }) :
    wpAny (model PySem.Challenge.rw_rr0095_01.row.prog w) (ktrTop dp un gd cn ⟨.function, sn, sgn, sco, smo⟩ L a ccd cl outer) (call (.ref 538) [.ref b, .int spot ts]) Q E s := by
  have hkk : (envX cn ⟨.function, sn, sgn, sco, smo⟩ L a ccd cl).scope.kind = .function := rfl
  refine wpAny_call ?_
  k_dflt ktr_enter
  refine tok_gen fun tkA => ?_
  rename Fr _ _ _ _ => FE
  replace FE : Fr _ _ _ (bindFr [(Str.ofString "spot", Value.int spot ts), (Str.ofString "bell", Value.ref b)]) := FE
  (repeat' (first | (k_unfold; (try dsimp only)) | (k_end; wrow_close) | ((with_reducible show wpAny _ _ (subscriptTail _ _ (Value.ref 516) (Value.int _ _)) _ _ _); k_dflt (refine alias_at (by k_asm) (by k_asm) (by assumption) (by assumption) ?_ (by (intro _ _; with_unfolding_all rfl))); intro _ _ _) | ((with_reducible show wpAny _ _ (call (Value.ref 524) [Value.ref _, Value.int _ _]) _ _ _); k_dflt (refine draw_K (by k_asm) (by k_asm) (by k_asm) (by k_asm) (by k_asm) (by k_updF) (by k_mem) (by k_asm) (by kpa_ne) (by ktr_room) (by ktr_units) (by assumption) (by assumption) (by assumption) (by assumption) (by decide) (by decide) ?_); intro _ _ _ _ _ _ _ _ q09 _; (try dsimp only at q09); revert q09; intro _) | walk1 | (dsimp only; walk1) | (leave1; walk_say "STEP leave1"; try dsimp only) | fail "no step"))
  all_goals
    refine hQ _ _ _ _ _ _ _ _ _ _ _ _ (by k_asm) (news_top2 (by k_asm) (by k_mem) ?_) (by repeat constructor) ⟨by first | exact .inl rfl | exact .inr rfl, by repeat (first | exact List.forall_mem_nil _ | refine List.forall_mem_cons.mpr ⟨by first | exact item_sig (by assumption) (by assumption) | decide +kernel, ?_⟩), Nat.le_of_ble_eq_true rfl, by assumption⟩
      ((by assumption : BellTo w _ c (n + 1 + 1 + 1 + 1)).mono (by kpa_ne)) ?_
    · repeat (refine List.forall_mem_cons.mpr ⟨?_, ?_⟩; (· k_mem))
      intro p hp
      repeat (first | exact hp | apply List.mem_cons_of_mem)
    · refine ⟨?_, ?_, ?_, ?_⟩ <;> simp only [*]
end
section
variable {VV : Program} {loo : List Str}
def lawTakes (os : List (Str × Str)) (module : Str) (args : List Str) (alias : Str) : Bool :=
  !(module != Str.ofString "util/ordering") && match args with
    | [x] => [Str.ofString "A", Str.ofString "B", Str.ofString "C", Str.ofString "D"].any (· == x) && !(os.map (·.1)).any (· == ordName alias)
    | _ => false
section
variable {os : List (Str × Str)} {module : Str} {args : List Str} {alias : Str}
theorem lt_mod (h : (module != Str.ofString "util/ordering") = true) : false = lawTakes os module args alias := by unfold lawTakes; rw [h]; rfl
theorem lt_len (h : (args.length : Int) ≠ 1) : false = lawTakes os module args alias := by
  unfold lawTakes
  match args, h with
  | [], _ => simp
  | [x], h => exact absurd rfl h
  | _ :: _ :: _, _ => simp
theorem lt_sig {x : Str} {r : List Str} (h : ([Str.ofString "A", Str.ofString "B", Str.ofString "C", Str.ofString "D"].any fun y => y == x) = false) (e : args = x :: r) : false = lawTakes os module args alias := by
  unfold lawTakes
  subst e
  cases r with
  | nil => dsimp only; rw [h]; simp
  | cons y r => simp
theorem lt_all {x nm : Str} {r : List Str} (h0 : (module != Str.ofString "util/ordering") = false) (hl : (args.length : Int) = 1) (h : ([Str.ofString "A", Str.ofString "B", Str.ofString "C", Str.ofString "D"].any fun y => y == x) = true) (e : args = x :: r) (hn : ordName alias = nm) :
    (!(os.map (·.1)).any fun y => y == nm) = lawTakes os module args alias := by
  unfold lawTakes
  subst e hn
  cases r with
  | nil => dsimp only; rw [h0, h]; simp
  | cons y r => simp only [List.length_cons] at hl; kpa_ne
end
theorem dat_strs : ∀ {ys : List Value} {os : List (Str × Str)}, DatAll [] ys (os.map fun o => Dat.str o.1) → StrsAre ys (os.map (·.1))
  | _, [], h => by cases h; exact .nil
  | _, o :: os, h => by
    cases h with
    | cons h r => cases h; exact .cons _ _ (dat_strs r)
theorem isList_of {h₀ h : Heap} {L l : Addr} {news : List (Addr × Obj)} {ys : List Value} (N : News h₀ L h news) (hm : (l, LCg.lst ys) ∈ news) : h.IsList l ys.toArray := ⟨_, (N _ hm).1, rfl, _, rfl⟩
set_option maxHeartbeats 0 in
theorem row_spec {w : World} {mean : ExcName → Option Value} {mg mb : Str → Option Value} {dp un : Nat} {gd : Option (List Code)} {cn : Str} {sn : List (Str × NameKind)} {sgn sco : Bool} {smo : List (Str × Const)} {a : Addr} {ccd : Value} {cl : List (Str × Addr)} {outer : List Env} {A₀ : Around} {base h₀ : Heap} {L : Addr} {m : Str → Option Value} {own : List (Addr × Obj)} {s : Shared} {Q E : Value → Shared → Prop}
    {ai aa : Addr} {u1 u2 u3 u4 : Tok} {spot : Int} {module alias : Str} {args : List Str} {avs : List Value}
    (B : Below A₀ base outer h₀) (F : Fr h₀ L s.heap m) (X : (K39 w.params).In h₀) (N : News h₀ L s.heap ((ai, tupO [.str (Str.ofString "open") u1, .int spot u2, .str module u3, .ref aa, .str alias u4]) :: (aa, tupO avs) :: own)) (T : Top VV loo mean mg mb h₀)
    (hdp : dp + 10 < recursionLimit) (hun : un + 100 < cLine) (hargs : StrsAre avs args) (hl1 : 0 < args.length) (hl4 : ∀ x ∈ args, x.length ≤ 100)
    (hQ : ∀ p nm x r ta tb h' tk', args = x :: r → ordName alias = nm → Fr h₀ L h' m → News h₀ L h' ((p, tupO [.str nm ta, .str x tb]) :: (ai, tupO [.str (Str.ofString "open") u1, .int spot u2, .str module u3, .ref aa, .str alias u4]) :: (aa, tupO avs) :: own) → (@LT.lt Nat _ ai p ∧ @LT.lt Nat _ aa p ∧ AllLt p own) → Q (.ref p) { s with heap := h', toks := tk' })
    :
    wpAny (model PySem.Challenge.rw_rr0095_01.row.prog w) (ktrTop dp un gd cn ⟨.function, sn, sgn, sco, smo⟩ L a ccd cl outer) (call (.ref 545) [.ref ai]) Q E s := by
  have hkk : (envX cn ⟨.function, sn, sgn, sco, smo⟩ L a ccd cl).scope.kind = .function := rfl
  refine wpAny_call ?_
  k_dflt ktr_enter
  refine tok_gen fun tkA => ?_
  rename Fr _ _ _ _ => FE
  replace FE : Fr _ _ _ (bindFr [(Str.ofString "item", Value.ref ai)]) := FE
  (repeat' (first | (k_unfold; (try dsimp only)) | (k_end; wrow_close) | ((with_reducible show wpAny _ _ (call (Value.ref 545) [Value.ref _]) _ _ _); k_dflt (refine row_K (by k_asm) (by k_asm) (by k_asm) (by k_asm) (by k_asm) (by k_mem) (by k_mem) (by ktr_room) (by ktr_units) (by assumption) (by kpa_ne) (by assumption) ?_); intro _ _ _ _ _ _ _ _ _ _ _ _ q09; (try k_lt q09); revert q09; intro _) | ((with_reducible show wpAny _ _ (compareOp CmpOp.NotIn (Value.str _ _) (Value.ref _)) _ _ _); (k_dflt (first | (refine notin_tuple_strs (by exact News.isTup (by k_asm) (by k_mem)) (by ((repeat constructor); done)) ?_) | (refine notin_list_strs (by exact isList_of (by k_asm) (by k_mem)) (by exact dat_strs (by assumption)) ?_)))) | ((with_reducible show wpAny _ _ (call (Value.builtin "len") [Value.ref _]) _ _ _); k_dflt (refine Mine.len_tupN (by k_asm) (by k_mem) (by k_asm) (by kpa_ne) ?_)) | ((with_reducible show wpAny _ _ (subscriptTail _ _ (Value.ref _) (Value.int 0 _)) _ _ _); k_dflt (refine Mine.item0L (by k_asm) (by k_mem) (by k_asm) (by kpa_ne) (by assumption) ?_ (by with_unfolding_all rfl)); intro _ _ _ _ _) | ((with_reducible show wpAny _ _ (subscriptTail _ _ (Value.ref _) (Value.int _ _)) _ _ _); k_dflt (refine item_tupleT (by exact News.isTup (by k_asm) (by k_mem)) (by decide) (by decide) (by rfl) (by rfl) ?_; k_whole)) | walk1 | (dsimp only; walk1) | (leave1; walk_say "STEP leave1"; try dsimp only) | fail "no step"))
  · refine hQ _ _ _ _ _ _ _ _ (by assumption) (if_pos (by assumption)) (by k_asm) (by k_asm) ?_
    refine ⟨?_, ?_, ?_⟩ <;> simp only [*]
  · refine hQ _ _ _ _ _ _ _ _ (by assumption) (if_neg (by simp only [*]; decide)) (by k_asm) (by k_asm) ?_
    refine ⟨?_, ?_, ?_⟩ <;> simp only [*]
theorem row_K {w : World} {mean : ExcName → Option Value} {mg mb : Str → Option Value} {dp un : Nat} {gd : Option (List Code)} {cn : Str} {sn : List (Str × NameKind)} {sgn sco : Bool} {smo : List (Str × Const)} {a : Addr} {ccd : Value} {cl : List (Str × Addr)} {outer : List Env} {A₀ : Around} {base h₀ : Heap} {L : Addr} {m : Str → Option Value} {news : List (Addr × Obj)} {s : Shared} {Q E : Value → Shared → Prop}
    {ai aa : Addr} {u1 u2 u3 u4 : Tok} {spot : Int} {module alias : Str} {args : List Str} {avs : List Value}
    (B : Below A₀ base outer h₀) (F : Fr h₀ L s.heap m) (X : (K39 w.params).In h₀) (N : News h₀ L s.heap news) (T : Top VV loo mean mg mb h₀)
    (h1 : (ai, tupO [.str (Str.ofString "open") u1, .int spot u2, .str module u3, .ref aa, .str alias u4]) ∈ news) (h2 : (aa, tupO avs) ∈ news)
    (hdp : dp + 10 < recursionLimit) (hun : un + 100 < cLine) (hargs : StrsAre avs args) (hl1 : 0 < args.length) (hl4 : ∀ x ∈ args, x.length ≤ 100)
    (hQ : ∀ p nm x r ta tb h' tk', args = x :: r → ordName alias = nm → Fr h₀ L h' m → News h₀ L h' ((p, tupO [.str nm ta, .str x tb]) :: news) → (∀ q ∈ news, q.1 < p) → Q (.ref p) { s with heap := h', toks := tk' }) :
    wpAny (model PySem.Challenge.rw_rr0095_01.row.prog w) (ktrTop dp un gd cn ⟨.function, sn, sgn, sco, smo⟩ L a ccd cl outer) (call (.ref 545) [.ref ai]) Q E s :=
  row_spec (own := news) B F X (N.perm fun p hp => by
    rcases List.mem_cons.mp hp with rfl | hp
    · exact h1
    rcases List.mem_cons.mp hp with rfl | hp
    · exact h2
    · exact hp) T hdp hun hargs hl1 hl4 fun p nm x r ta tb h' tk' e1 e2 F' N' l => hQ p nm x r ta tb h' tk' e1 e2 F' (N'.perm fun p hp => by
      rcases List.mem_cons.mp hp with rfl | hp
      · exact .head _
      · exact .tail _ (.tail _ (.tail _ hp))) fun q hq => kst_ltOf l.2.2 q hq
local macro_rules | `(tactic| walk_at "SrcLP") => `(tactic| (k_here; k_dflt (refine LCp.SrcLP.ledger (by rfl) (by k_asm) (by k_asm) (by k_mem) (by simp only [List.size_toArray, PySem.sizeLine_eq]; kpa_ne) ?_); intro g'; k_dflt (refine' pair_rest ?p rfl ?s ?S ?_ ?a ?b ?c; (case p => assumption); (case s => kqd_sub); (case S => exact .inr ⟨_, by k_mem, rfl, _, rfl⟩); (case a => rfl); (case b => rfl); (case c => decide)); intro ys' hys'))
set_option maxHeartbeats 0 in
theorem isTaken_spec {w : World} {mean : ExcName → Option Value} {mg mb : Str → Option Value} {dp un : Nat} {gd : Option (List Code)} {cn : Str} {sn : List (Str × NameKind)} {sgn sco : Bool} {smo : List (Str × Const)} {a : Addr} {ccd : Value} {cl : List (Str × Addr)} {outer : List Env} {A₀ : Around} {base h₀ : Heap} {L : Addr} {m : Str → Option Value} {own : List (Addr × Obj)} {s : Shared} {Q E : Value → Shared → Prop}
    {tk ai aa : Addr} {u1 u2 u3 u4 : Tok} {spot : Int} {module alias : Str} {args : List Str} {avs tvs : List Value} {os : List (Str × Str)} {tn : Nat}
    (B : Below A₀ base outer h₀) (F : Fr h₀ L s.heap m) (X : (K39 w.params).In h₀) (N : News h₀ L s.heap ((ai, tupO [.str (Str.ofString "open") u1, .int spot u2, .str module u3, .ref aa, .str alias u4]) :: (aa, tupO avs) :: (tk, PySem.W.listOf tvs.toArray tn) :: own)) (T : Top VV loo mean mg mb h₀)
    (hdp : dp + 20 < recursionLimit) (hun : un + 200 < cLine) (hargs : StrsAre avs args) (hl1 : args.length ≤ 10) (hl4 : ∀ x ∈ args, x.length ≤ 100)
    (hos : PairsAt own tvs os) (hol : tvs.length ≤ 100)
    (hQ : ∀ bv h' tk', bv = lawTakes os module args alias → Fr h₀ L h' m → News h₀ L h' ((ai, tupO [.str (Str.ofString "open") u1, .int spot u2, .str module u3, .ref aa, .str alias u4]) :: (aa, tupO avs) :: (tk, PySem.W.listOf tvs.toArray tn) :: own) → Q (.bool bv) { s with heap := h', toks := tk' })
    :
    wpAny (model PySem.Challenge.rw_rr0095_01.row.prog w) (ktrTop dp un gd cn ⟨.function, sn, sgn, sco, smo⟩ L a ccd cl outer) (call (.ref 550) [.ref tk, .ref ai]) Q E s := by
  have hkk : (envX cn ⟨.function, sn, sgn, sco, smo⟩ L a ccd cl).scope.kind = .function := rfl
  refine wpAny_call ?_
  k_dflt ktr_enter
  refine tok_gen fun tkA => ?_
  rename Fr _ _ _ _ => FE
  replace FE : Fr _ _ _ (bindFr [(Str.ofString "item", Value.ref ai), (Str.ofString "taken", Value.ref tk)]) := FE
  (repeat' (first | (k_unfold; (try dsimp only)) | (k_end; wrow_close) | ((with_reducible show wpAny _ _ (call (Value.ref 545) [Value.ref _]) _ _ _); k_dflt (refine row_K (by k_asm) (by k_asm) (by k_asm) (by k_asm) (by k_asm) (by k_mem) (by k_mem) (by ktr_room) (by ktr_units) (by assumption) (by kpa_ne) (by assumption) ?_); intro _ _ _ _ _ _ _ _ _ _ _ _ q09; (try k_lt q09); revert q09; intro _) | ((with_reducible show wpAny _ _ (compareOp CmpOp.NotIn (Value.str _ _) (Value.ref _)) _ _ _); (k_dflt (first | (refine notin_tuple_strs (by exact News.isTup (by k_asm) (by k_mem)) (by ((repeat constructor); done)) ?_) | (refine notin_list_strs (by exact isList_of (by k_asm) (by k_mem)) (by exact dat_strs (by assumption)) ?_)))) | ((with_reducible show wpAny _ _ (call (Value.builtin "len") [Value.ref _]) _ _ _); k_dflt (refine Mine.len_tupN (by k_asm) (by k_mem) (by k_asm) (by kpa_ne) ?_)) | ((with_reducible show wpAny _ _ (subscriptTail _ _ (Value.ref _) (Value.int 0 _)) _ _ _); k_dflt (refine Mine.item0L (by k_asm) (by k_mem) (by k_asm) (by kpa_ne) (by assumption) ?_ (by with_unfolding_all rfl)); intro _ _ _ _ _) | ((with_reducible show wpAny _ _ (subscriptTail _ _ (Value.ref _) (Value.int _ _)) _ _ _); k_dflt (refine item_tupleT (by exact News.isTup (by k_asm) (by k_mem)) (by decide) (by decide) (by rfl) (by rfl) ?_; k_whole)) | walk1 | (dsimp only; walk1) | (leave1; walk_say "STEP leave1"; try dsimp only) | fail "no step"))
  · exact hQ _ _ _ (lt_mod (by assumption)) (by k_asm) (by k_asm)
  · exact hQ _ _ _ (lt_len (by assumption)) (by k_asm) (by k_asm)
  · exact hQ _ _ _ (lt_all (by assumption) (by assumption) (by assumption) (by assumption) (by assumption)) (by k_asm) (News.perm (by k_asm) (by intro p hp; repeat (first | exact hp | apply List.mem_cons_of_mem)))
  · exact hQ _ _ _ (lt_sig (by assumption) (by assumption)) (by k_asm) (News.perm (by k_asm) (by intro p hp; exact .tail _ hp))
end
section
section
open LCg LCp
variable {prog : Program} {w : World} {A : Around} {E : Value → Shared → Prop} {s : Shared} {h₀ : Heap} {L : Addr} {m : Str → Option Value} {env : Env}
theorem strs_snoc {x : Str} {t : Tok} : ∀ {vs : List Value} {xs : List Str}, StrsAre vs xs → StrsAre (vs ++ [.str x t]) (xs ++ [x])
  | _, _, .nil => .cons _ _ .nil
  | _, _, .cons y u r => .cons y u (strs_snoc r)
/-- the turn of a block over pairs with one test -/
theorem loop_pt {R : Result → Shared → Prop} {elt iter ct : Expr} {elts : List Expr} {x1} {tp : Pos} {scope : Scope} {pos : Pos} {it acc : Value} {env : Env} (I : Nat → Shared → Prop)
    (turn : ∀ n s, I n s → wpAny (model prog w) A (pyNext it) (fun r s₁ => match r with
      | none => R (.ok .next) s₁
      | some v => wpAny (model prog w) A (letOwnedTupleGo (.Tuple elts x1 tp) it v) (fun _ s₁' => wpAny (model prog w) A (assign (.Tuple elts x1 tp) env v) (fun _ s₂ =>
          wpAny (model prog w) A (isTrue ct env (eval ct env)) (fun ok s₃ => if ok = true then
            wpAny (model prog w) A (eval elt env) (fun x s₄ =>
              wpAny (model prog w) A (call (.builtin "list.append") [acc, x]) (fun _ s₅ => ∃ m, m < n ∧ I m s₅) (notedBy (model prog w) A env fun e s' => R (.error e) s') s₄) (notedBy (model prog w) A env fun e s' => R (.error e) s') s₃
            else ∃ m, m < n ∧ I m s₃) (notedBy (model prog w) A env fun e s' => R (.error e) s') s₂)
          (notedBy (model prog w) A env fun e s' => R (.error e) s') s₁') (notedBy (model prog w) A env fun e s' => R (.error e) s') s₁) (notedBy (model prog w) A env fun e s' => R (.error e) s') s)
    (n : Nat) (h : I n s) : codeAny (model prog w) A (.compLoop (.ListComp elt [⟨.Tuple elts x1 tp, iter, [ct], 0⟩] scope pos) 0 it acc env) R s := by
  refine codeAny_loop rfl I (fun n s hI => ?_) n h
  show wpAny _ A ((compTurn (.ListComp elt [⟨.Tuple elts x1 tp, iter, [ct], 0⟩] scope pos) 0 it acc env).onRaise (fun x => do noteFrame x env; theTreesLotGoes x)) _ _ s
  refine wpAny_noted ?_
  rw [compTurn_list]
  refine wpAny_bind (wpAny_standAt (wpAny_bind (wpAny_mono (turn n s hI) (fun r s₁ h₁ => ?_) fun _ _ h' => h')))
  cases r with
  | none => exact wpAny_pure h₁
  | some v =>
    refine wpAny_bind (wpAny_mono h₁ (fun _ s₂ h₂ => ?_) fun _ _ h' => h')
    refine wpAny_bind (wpAny_mono h₂ (fun _ s₃ h₃ => wpAny_bind (wpAny_mono (wpAny_tests_one h₃) (fun ok s₄ h₄ => ?_) fun _ _ h' => h')) fun _ _ h' => h')
    cases ok with
    | false => exact wpAny_pure ⟨rfl, h₄⟩
    | true => exact wpAny_bind (wpAny_bind (wpAny_mono h₄ (fun x s₅ h₅ => wpAny_bind (wpAny_mono h₅ (fun _ s₆ h₆ => wpAny_pure (wpAny_pure ⟨rfl, h₆⟩)) fun _ _ h' => h')) fun _ _ h' => h'))

theorem block_pt {RR : Value → Addr → Result → Shared → Prop} {iter ct : Expr} {x x₂ : Str} {px px₂ tp pe : Pos} {tk} {scope : Scope} {cl : List (Str × Addr)} {pos : Pos} {s₁ : Shared} {ax : Addr} {k : Nat} {news nn : List (Addr × Obj)} {vs : List Value} {os : List (Str × Str)} {f : Str × Str → Bool}
    (hcell : ∀ y ∈ scope.names, y.2 ≠ .cell) (hkind : scope.kind = .function)
    (hx : scope.names.lookup x = some .local) (hx₂ : scope.names.lookup x₂ = some .local) (hxx : x ≠ x₂) (hd₂ : (x₂ == ("__debug__" : Str)) = false)
    (hh : A.handled = none) (F : Fr h₀ L s₁.heap m) (N : News h₀ L s₁.heap news) (hax : (ax, PySem.W.listOf vs.toArray k) ∈ news) (ps : PairsAt nn vs os) (hsub : ∀ p ∈ nn, p ∈ news) (hlen : vs.length ≤ 1000)
    (test : ∀ o ∈ os, ∀ t1 t2 oI oC I C D ys m₂ h tk (E' : Value → Shared → Prop), NsObj oC m₂ → m₂ x = some (.str o.1 t1) → m₂ x₂ = some (.str o.2 t2) → Fr h₀ L h m → News h₀ L h ((I, oI) :: (C, oC) :: (D, lst ys) :: news) →
      wpAny (model prog w) A (isTrue ct (compEnvC scope cl C env) (eval ct (compEnvC scope cl C env))) (fun ok s' => ok = f o ∧ ∃ tk', s' = { s₁ with heap := h, toks := tk' }) E' { s₁ with heap := h, toks := tk })
    (hRR : ∀ D C ys h tk m', StrsAre ys ((os.filter f).map (·.2)) → Fr h₀ L h m → News h₀ L h ((D, lst ys) :: news) → (∀ p ∈ news, p.1 < D) → @LT.lt Nat _ D C → h.Ns C m' → h₀.get? C = none → C ≠ L → RR (.ref D) C (.ok .next) { s₁ with heap := h, toks := tk }) :
    wpAny (model prog w) A (pyIter (.ref ax)) (fun it s₂ => wpAny (model prog w) A (newList []) (fun acc s₃ =>
      wpAny (model prog w) A (newFunctionEnv scope env.globals cl [] env.qual none .none (some env)) (fun cenv s₄ =>
        codeAny (model prog w) A (.compStart (.ListComp (.Name x₂ pe) [⟨.Tuple [.Name x px, .Name x₂ px₂] tk tp, iter, [ct], 0⟩] scope pos) 0 it acc { cenv with scope := relabel scope env }) (RR acc cenv.locals) s₄) E s₃) E s₂) E s₁ := by
  have hl : s₁.heap.IsList ax vs.toArray := ⟨_, (N _ hax).1, rfl, _, rfl⟩
  have hlt : ax < s₁.heap.objs.size := Heap.lt_size (N _ hax).1
  refine wpAny_pyIter_list hl ?_
  generalize hI : s₁.heap.objs.size = I at *
  generalize hH1 : s₁.heap.push { cls := .type "list_iterator", data := .fields #[.ref ax, .int 0 0] } = H1
  have k1 : ∀ b o, s₁.heap.get? b = some o → H1.get? b = some o := fun b o e => hH1 ▸ Heap.get?_push_of_some _ e
  have z1 : H1.objs.size = I + 1 := by rw [← hH1, Heap.size_push, hI]
  have it1 : H1.IsListIter I ax 0 := ⟨_, hH1 ▸ hI ▸ Heap.get?_push_size _ rfl, rfl, rfl⟩
  refine wpAny_newObj_type (wpAny_newFunctionEnv hcell (by intro y hy; simp at hy) (fun h₁ hns₁ hsb₁ => ?_) hkind)
  dsimp only at hns₁ hsb₁ ⊢
  generalize hH2 : H1.push { cls := .type "list", dict := none, data := .seq ([] : List Value).toArray } = H2 at hns₁ hsb₁ ⊢
  rw [z1]
  have z2 : H2.objs.size = I + 2 := by rw [← hH2, Heap.size_push, z1]
  rw [z2] at hns₁ hsb₁ ⊢
  have k2 : ∀ b o, b < I + 2 → H1.get? b = some o → h₁.get? b = some o := fun b o hb e => hsb₁.extBut b o (Nat.ne_of_lt hb) (Heap.get?_push_of_some _ (hH2 ▸ Heap.get?_push_of_some _ e))
  have acc : h₁.get? (I + 1) = some (lst []) := hsb₁.extBut _ _ (Nat.ne_of_lt (Nat.lt_succ_self _)) (Heap.get?_push_of_some _ (hH2 ▸ z1 ▸ Heap.get?_push_size _ rfl))
  have low : ∀ b o, s₁.heap.get? b = some o → b < I := fun b o e => hI ▸ Heap.lt_size e
  have old : ∀ b o, s₁.heap.get? b = some o → h₁.get? b = some o := fun b o e => k2 b o (Nat.lt_of_lt_of_le (low b o e) (Nat.le_add_right _ 2)) (k1 b o e)
  have f0 : ∀ a, I ≤ a → h₀.get? a = none := fun a ha => by
    cases e : h₀.get? a with
    | none => rfl
    | some o => exact absurd (low a o (F.keep a o e)) (Nat.not_lt.mpr ha)
  have hL : L < I := hI ▸ F.ns.lt
  have apart : ∀ p ∈ news, p.1 < I := fun p hp => low _ _ (N p hp).1
  have haxI : @LT.lt Nat _ ax I := low _ _ (N _ hax).1
  have cL : I + 2 ≠ L := Nat.ne_of_gt (Nat.lt_of_lt_of_le hL (Nat.le_add_right _ 2))
  have W := Walks.list (prog := prog) (w := w) hh I ax (Nat.ne_of_lt hlt) vs.toArray
  have start : codeAny (model prog w) A (.compLoop (.ListComp (.Name x₂ pe) [⟨.Tuple [.Name x px, .Name x₂ px₂] tk tp, iter, [ct], 0⟩] scope pos) 0 (.ref I) (.ref (I + 1)) (compEnvC scope cl (I + 2) env))
      (RR (.ref (I + 1)) (I + 2)) { s₁ with heap := h₁, toks := s₁.toks + ([] : List (Str × Value)).length } := by
    refine loop_pt (fun j s' => ∃ h' t i ys m', s' = { s₁ with heap := h', toks := t } ∧ i ≤ vs.length ∧ j = vs.length + 1 - i ∧ StrsAre ys (((os.take i).filter f).map (·.2)) ∧ (h'.IsListIter I ax i ∧ h'.IsList ax vs.toArray) ∧
        Fr h₀ L h' m ∧ h'.Ns (I + 2) m' ∧ News h₀ L h' ((I + 1, lst ys) :: news)) ?_ (vs.length + 1)
      ⟨h₁, _, 0, [], _, rfl, Nat.zero_le _, rfl, by simpa using StrsAre.nil, ⟨it1.at fun o e => k2 _ o (by kpa_ne) e, hl.at fun o e => old _ o e⟩, F.keeps old, hns₁, fun p hp => ?_⟩
    · rintro j s' ⟨h', t, i, ys, m', rfl, hi, rfl, hys, st, F', hn', N'⟩
      have hIL : L ≠ I := Nat.ne_of_lt hL
      have off1 : ∀ p ∈ (I + 1, lst ys) :: news, p.1 ≠ I := fun p hp => by
        rcases List.mem_cons.mp hp with rfl | hp
        · exact Nat.ne_of_gt (Nat.lt_succ_self _)
        · exact Nat.ne_of_lt (apart p hp)
      have off2 : ∀ p ∈ (I + 1, lst ys) :: news, p.1 ≠ I + 2 := fun p hp => by
        rcases List.mem_cons.mp hp with rfl | hp
        · exact Nat.ne_of_lt (Nat.lt_succ_self _)
        · exact Nat.ne_of_lt (Nat.lt_of_lt_of_le (apart p hp) (Nat.le_add_right _ 2))
      by_cases hlt' : i < vs.length
      · refine W.item i _ _ _ (by simpa using hlt') st fun v h₂ t₂ hv st₂ hk₂ => ?_
        have hv' : vs[i]? = some v := by simpa using hv
        obtain ⟨o, ho, p, t1, t2, rfl, hm⟩ := ps.get hv'
        have F₂ := fr_but F' hk₂ hIL (f0 I (Nat.le_refl _))
        have N₂ := news_but N' hk₂ off1
        have hn₂ := hn'.at' fun o e => hk₂ (I + 2) o (by simp) e
        have hT : IsTup h₂ p #[.str o.1 t1, .str o.2 t2] := ⟨_, (N₂ _ (.tail _ (hsub _ hm))).1, rfl, _, rfl⟩
        refine wpAny_letOwnedTupleGo_listiter st₂.1 ?_
        refine assign_Tuple_tuple hh hT rfl rfl fun h₅ he => ?_
        have he' : ∀ b o, h₂.get? b = some o → h₅.get? b = some o := fun b o e => he b o (Nat.ne_of_lt (Heap.lt_size e)) e
        refine assignInOrder_cons (wpAny_assign_Name (wpAny_storeName_local (lookup_relabel_local hx) (hn₂.at' fun o e => he' _ o e) (fun h₆ hn₆ hs₆ => ?_) (by simp [compEnvC, relabel, hkind])))
        refine assignInOrder_cons (wpAny_assign_Name (wpAny_storeName_local (lookup_relabel_local hx₂) hn₆ (fun h₃ hn₃ hs₃ => ?_) (by simp [compEnvC, relabel, hkind])))
        refine assignInOrder_nil ?_
        have old3 : ∀ b o, b ≠ I + 2 → h₂.get? b = some o → h₃.get? b = some o := fun b o hb e => hs₃.extBut b o hb (hs₆.extBut b o hb (he' b o e))
        have c0 : h₀.get? (I + 2) = none := f0 _ (Nat.le_add_right _ 2)
        have F₃ : Fr h₀ L h₃ m := ((F₂.keeps he').change hs₆ cL c0).change hs₃ cL c0
        have st₃ : h₃.IsListIter I ax (i + 1) ∧ h₃.IsList ax vs.toArray := ⟨st₂.1.at fun o e => old3 _ o (by kpa_ne) e, st₂.2.at fun o e => old3 _ o (by kpa_ne) e⟩
        obtain ⟨oI, heI, _⟩ := id st₃.1
        obtain ⟨oC, heC, hoC⟩ := ns_obj hn₃
        have N₃ : News h₀ L h₃ ((I, oI) :: (I + 2, oC) :: (I + 1, lst ys) :: news) := fun q hq => by
          rcases List.mem_cons.mp hq with rfl | hq
          · exact ⟨heI, Ne.symm hIL, f0 I (Nat.le_refl _)⟩
          rcases List.mem_cons.mp hq with rfl | hq
          · exact ⟨heC, cL, c0⟩
          · exact ⟨old3 _ _ (off2 q hq) (N₂ q hq).1, (N₂ q hq).2⟩
        have ot : os.take (i + 1) = os.take i ++ [o] := by simp [List.take_add_one, ho]
        refine wpAny_mono (test o (List.mem_of_getElem? ho) t1 t2 oI oC I (I + 2) (I + 1) ys _ h₃ _ _ hoC (by simp [hxx]) (by simp) F₃ N₃) (fun ok s₄ h₄ => ?_) fun _ _ e => e
        obtain ⟨rfl, t₄, rfl⟩ := h₄
        cases hf : f o with
        | false =>
          simp only [Bool.false_eq_true, if_false]
          refine ⟨vs.length + 1 - (i + 1), by kpa_ne, h₃, _, i + 1, ys, _, rfl, hlt', rfl, ?_, st₃, F₃, hn₃, fun q hq => N₃ q (.tail _ (.tail _ hq))⟩
          rw [ot, List.filter_append, List.filter_cons_of_neg (by simp [hf]), List.filter_nil, List.append_nil]; exact hys
        | true =>
          simp only [if_true]
          refine LCgL.ld_own (m₂ := _) (oC := oC) N₃ (.tail _ (.head _)) hoC (if_pos rfl) ?_ hkind (lookup_relabel_local hx₂) hd₂
          refine append_at (hsz := by show ys.toArray.size ≤ sizeLine; rw [List.size_toArray, hys.length, List.length_map, sizeLine_eq]; have := List.length_filter_le f (os.take i); have := List.length_take_le i os; kpa_ne) (N₃ _ (.tail _ (.tail _ (.head _)))).1 fun h₅ hs₅ hD₅ => ?_
          have d0 : h₀.get? (I + 1) = none := f0 _ (Nat.le_succ _)
          have dL : I + 1 ≠ L := Nat.ne_of_gt (Nat.lt_succ_of_lt hL)
          refine ⟨vs.length + 1 - (i + 1), by kpa_ne, h₅, _, i + 1, ys ++ [.str o.2 t2], _, rfl, hlt', rfl, ?_, ⟨st₃.1.at fun o e => hs₅.extBut I o (Nat.ne_of_lt (Nat.lt_succ_self I)) e, st₃.2.at fun o e => hs₅.extBut ax o (Nat.ne_of_lt (Nat.lt_succ_of_lt haxI)) e⟩, F₃.change hs₅ dL d0, hn₃.sameBut hs₅ (Nat.succ_ne_self (I + 1)), fun q hq => ?_⟩
          · rw [ot, List.filter_append, List.filter_cons_of_pos (by simp [hf]), List.filter_nil, List.map_append]
            exact strs_snoc hys
          · rcases List.mem_cons.mp hq with rfl | hq
            · exact ⟨hD₅.trans (congrArg some (lst_snoc ys _)), dL, d0⟩
            · exact ⟨hs₅.extBut _ _ (Nat.ne_of_lt (Nat.lt_succ_of_lt (apart q hq))) (N₃ q (.tail _ (.tail _ (.tail _ hq)))).1, (N q hq).2⟩
      · obtain rfl : i = vs.length := Nat.le_antisymm hi (Nat.not_lt.mp hlt')
        refine W.done _ _ _ (by simpa using st) fun h₂ t₂ hk₂ => ?_
        have F₂ := fr_but F' hk₂ hIL (f0 I (Nat.le_refl _))
        have N₂ := news_but N' hk₂ off1
        have hn₂ := hn'.at' fun o e => hk₂ (I + 2) o (by simp) e
        refine hRR (I + 1) (I + 2) ys h₂ _ m' ?_ F₂ N₂ (fun q hq => Nat.lt_succ_of_lt (apart q hq)) (Nat.lt_succ_self _) hn₂ (f0 _ (Nat.le_add_right _ 2)) cL
        rw [ps.length, List.take_length] at hys
        exact hys
    · rcases List.mem_cons.mp hp with rfl | hp
      · exact ⟨acc, Nat.ne_of_gt (Nat.lt_succ_of_lt hL), f0 _ (Nat.le_succ _)⟩
      · exact ⟨old _ _ (N p hp).1, (N p hp).2⟩
  exact codeAny_compStart_list start (W.self 0 _ _ _ ⟨it1.at fun o e => k2 _ o (by kpa_ne) e, hl.at fun o e => old _ o e⟩ start)
def SrcPT (prog : Program) (w : World) (A : Around) (h₀ : Heap) (L : Addr) (m : Str → Option Value) (env : Env) (ct : Expr) (x x₂ : Str) (scope : Scope) (cl : List (Str × Addr)) (Q : Value → Shared → Prop) (xv : Value) (s₁ : Shared) : Prop :=
  ∃ (ax : Addr) (k : Nat) (news nn : List (Addr × Obj)) (vs : List Value) (os : List (Str × Str)) (f : Str × Str → Bool), xv = .ref ax ∧ A.handled = none ∧ Fr h₀ L s₁.heap m ∧ News h₀ L s₁.heap news ∧ (ax, PySem.W.listOf vs.toArray k) ∈ news ∧ PairsAt nn vs os ∧ (∀ p ∈ nn, p ∈ news) ∧ vs.length ≤ 1000 ∧
    (∀ o ∈ os, ∀ t1 t2 oI oC I C D ys m₂ h tk (E' : Value → Shared → Prop), NsObj oC m₂ → m₂ x = some (.str o.1 t1) → m₂ x₂ = some (.str o.2 t2) → Fr h₀ L h m → News h₀ L h ((I, oI) :: (C, oC) :: (D, lst ys) :: news) →
      wpAny (model prog w) A (isTrue ct (compEnvC scope cl C env) (eval ct (compEnvC scope cl C env))) (fun ok s' => ok = f o ∧ ∃ tk', s' = { s₁ with heap := h, toks := tk' }) E' { s₁ with heap := h, toks := tk }) ∧
    (∀ D ys h tk, StrsAre ys ((os.filter f).map (·.2)) → Fr h₀ L h m → News h₀ L h ((D, lst ys) :: news) → (∀ p ∈ news, p.1 < D) → Q (.ref D) { s₁ with heap := h, toks := tk })

theorem comp_pt {iter ct : Expr} {x x₂ : Str} {px px₂ tp pe : Pos} {tk} {scope : Scope} {cl : List (Str × Addr)} {pos : Pos} {Q : Value → Shared → Prop} (F₀ : Fr h₀ L s.heap m)
    (hclos : closureFor scope env = pure cl) (hcell : ∀ y ∈ scope.names, y.2 ≠ .cell) (hkind : scope.kind = .function)
    (hnames : ∀ y ∈ scope.names, y.2 = .local → scope.names.lookup y.1 = some .local) (hx : scope.names.lookup x = some .local) (hx₂ : scope.names.lookup x₂ = some .local) (hxx : x ≠ x₂) (hd₂ : (x₂ == ("__debug__" : Str)) = false)
    (h : wpAny (model prog w) A (eval iter env) (SrcPT prog w A h₀ L m env ct x x₂ scope cl Q) E s)
    (hs : ∀ x, foldedSetIterable iter env x = pure x := by intro _; rfl) :
    wpAny (model prog w) A (eval (.ListComp (.Name x₂ pe) [⟨.Tuple [.Name x px, .Name x₂ px₂] tk tp, iter, [ct], 0⟩] scope pos) env) Q E s := by
  rw [eval_ListComp]
  refine wpAny_comprehension_free (use := none) rfl hs hclos hkind hnames (wpAny_mono h (fun xv s₁ h₁ => ?_) fun _ _ e => e)
  obtain ⟨ax, k, news, nn, vs, os, f, rfl, hh, F, N, hax, ps, hsub, hlen, test, fin⟩ := h₁
  exact block_pt hcell hkind hx hx₂ hxx hd₂ hh F N hax ps hsub hlen test fun D C ys h tk m' hys F' N' lt dc hn c0 cL => by
    refine ⟨m', hn, fun h'' hs'' => fin D ys h'' tk hys (F'.change hs'' cL c0) (fun q hq => ⟨hs''.extBut _ _ ?_ (N' q hq).1, (N' q hq).2⟩) lt⟩
    rcases List.mem_cons.mp hq with rfl | hq
    · exact Nat.ne_of_lt dc
    · exact Nat.ne_of_lt (Nat.lt_trans (lt q hq) dc)
def SrcPA (prog : Program) (w : World) (A : Around) (h₀ : Heap) (L : Addr) (m : Str → Option Value) (env : Env) (ct : Expr) (x x₂ : Str) (scope : Scope) (cl : List (Str × Addr)) (y : Str) (Q : Flow → Shared → Prop) (xv : Value) (s₁ : Shared) : Prop :=
  ∃ (ax : Addr) (k : Nat) (news nn : List (Addr × Obj)) (vs : List Value) (os : List (Str × Str)) (f : Str × Str → Bool), xv = .ref ax ∧ A.handled = none ∧ Fr h₀ L s₁.heap m ∧ News h₀ L s₁.heap news ∧ (ax, PySem.W.listOf vs.toArray k) ∈ news ∧ PairsAt nn vs os ∧ (∀ p ∈ nn, p ∈ news) ∧ vs.length ≤ 1000 ∧
    (∀ o ∈ os, ∀ t1 t2 oI oC I C D ys m₂ h tk (E' : Value → Shared → Prop), NsObj oC m₂ → m₂ x = some (.str o.1 t1) → m₂ x₂ = some (.str o.2 t2) → Fr h₀ L h m → News h₀ L h ((I, oI) :: (C, oC) :: (D, lst ys) :: news) →
      wpAny (model prog w) A (isTrue ct (compEnvC scope cl C env) (eval ct (compEnvC scope cl C env))) (fun ok s' => ok = f o ∧ ∃ tk', s' = { s₁ with heap := h, toks := tk' }) E' { s₁ with heap := h, toks := tk }) ∧
    (∀ D ys h tk, StrsAre ys ((os.filter f).map (·.2)) → Fr h₀ L h (fun z => if z = y then some (.ref D) else m z) → News h₀ L h ((D, lst ys) :: news) → (∀ p ∈ news, p.1 < D) → Q .next { s₁ with heap := h, toks := tk })

theorem assign_pt {iter ct : Expr} {x x₂ y : Str} {px px₂ tp pe py : Pos} {tk} {scope : Scope} {cl : List (Str × Addr)} {pos spos : Pos} {Q : Flow → Shared → Prop} (F₀ : Fr h₀ L s.heap m) (hLe : env.locals = L)
    (hsw : swapsWith (.ListComp (.Name x₂ pe) [⟨.Tuple [.Name x px, .Name x₂ px₂] tk tp, iter, [ct], 0⟩] scope pos) (some (.Name y py)) spos.line env = pure true)
    (hclos : closureFor scope env = pure cl) (hcell : ∀ z ∈ scope.names, z.2 ≠ .cell) (hkind : scope.kind = .function)
    (hnames : ∀ z ∈ scope.names, z.2 = .local → scope.names.lookup z.1 = some .local) (hx : scope.names.lookup x = some .local) (hx₂ : scope.names.lookup x₂ = some .local) (hxx : x ≠ x₂) (hd₂ : (x₂ == ("__debug__" : Str)) = false)
    (hy : env.kindOf y = some .local) (hp : (env.scope.kind == .class || (env.scope.kind == .module && env.locals != env.globals)) = false)
    (h : wpAny (model prog w) A (eval iter env) (SrcPA prog w A h₀ L m env ct x x₂ scope cl y Q) E s)
    (hs : ∀ x, foldedSetIterable iter env x = pure x := by intro _; rfl) :
    wpAny (model prog w) A (exec (.Assign [.Name y py] (.ListComp (.Name x₂ pe) [⟨.Tuple [.Name x px, .Name x₂ px₂] tk tp, iter, [ct], 0⟩] scope pos) spos) env) Q E s := by
  subst hLe
  rw [exec_Assign_Name_used _ _ _ _ hsw]
  refine wpAny_bind (wpAny_standAt (wpAny_bind ?_))
  show wpAny _ A (do let _ ← comprehension (.ListComp (.Name x₂ pe) [⟨.Tuple [.Name x px, .Name x₂ px₂] tk tp, iter, [ct], 0⟩] scope pos) scope env _ (newList []) false (eval iter env) (some (assign (.Name y py) env))) _ _ s
  refine wpAny_bind (wpAny_mono (wpAny_comprehension_free (use := some (assign (.Name y py) env)) (Q := fun _ s' => Q .next s') rfl hs hclos hkind hnames
    (wpAny_mono h (fun xv s₁ h₁ => ?_) fun _ _ e => e)) (fun _ s' hq => wpAny_pure (wpAny_pure hq)) fun _ _ e => e)
  obtain ⟨ax, k, news, nn, vs, os, f, rfl, hh, F, N, hax, ps, hsub, hlen, test, fin⟩ := h₁
  exact block_pt hcell hkind hx hx₂ hxx hd₂ hh F N hax ps hsub hlen test fun D C ys h tk m' hys F' N' lt dc hn c0 cL => by
    show wpAny _ A (assign (.Name y py) env (.ref D)) _ _ _
    refine wpAny_assign_Name (wpAny_storeName_local hy F'.ns (fun h₂ hn₂ hs₂ => ?_) hp)
    have hL₀ : h₀.get? env.locals = none := Heap.get?_none_of_le F'.above
    have F₂ : Fr h₀ env.locals h₂ (fun z => if z = y then some (.ref D) else m z) := F'.set hn₂ hs₂
    refine ⟨m', hn.sameBut hs₂ cL, fun h'' hs'' => fin D ys h'' _ hys (F₂.change hs'' cL c0) (fun q hq => ?_) lt⟩
    have z : h₂.get? q.1 = some q.2 := hs₂.extBut _ _ (N' q hq).2.1 (N' q hq).1
    refine ⟨hs''.extBut _ _ ?_ z, (N' q hq).2⟩
    rcases List.mem_cons.mp hq with rfl | hq
    · exact Nat.ne_of_lt dc
    · exact Nat.ne_of_lt (Nat.lt_trans (lt q hq) dc)
end
end
section
variable {VV : Program} {loo : List Str}
theorem strs_dat : ∀ {ys : List Value} {xs : List Str}, StrsAre ys xs → DatAll [] ys (xs.map Dat.str)
  | _, _, .nil => .nil
  | _, _, .cons y t r => .cons (.str y t) (strs_dat r)
def OsOk (os : List (Str × Str)) : Prop := ∀ o ∈ os, PyData.strOk o.1 = true ∧ PyData.strOk o.2 = true ∧ o.1.length ≤ 100 ∧ o.2.length ≤ 100
def pickSigs (os : List (Str × Str)) (f : Str × Str → Bool) : List Str := (os.filter f).map (·.2)
theorem sigs_ok {os : List (Str × Str)} {f : Str × Str → Bool} (h : OsOk os) : ∀ d ∈ (pickSigs os f).map Dat.str, kqdOk 8 d = true := by
  intro d hd
  obtain ⟨x, hx, rfl⟩ := List.mem_map.mp hd
  obtain ⟨o, ho, rfl⟩ := List.mem_map.mp hx
  exact (h o (List.mem_filter.mp ho).1).2.1
theorem found_ne {prog : Program} {w : World} {A : Around} {E : Value → Shared → Prop} {s : Shared} {h₀ : Heap} {L a b : Addr} {news : List (Addr × Obj)} {ys : List Value} {xs : List Str} {Q : Value → Shared → Prop} (N : News h₀ L s.heap news) (ma : (a, LCg.lst ys) ∈ news) (mb : (b, PySem.W.listOf #[] 0) ∈ news) (Sy : StrsAre ys xs)
    (ok : ∀ d ∈ xs.map Dat.str, kqdOk 8 d = true) (hu : A.units + 64 < cLine) (h : Q (.bool (!xs.isEmpty)) s) : wpAny (model prog w) A (compareOp .NotEq (.ref a) (.ref b)) Q E s := by
  refine kqd_ne N ma rfl rfl (strs_dat Sy) (fun _ h => nomatch h) mb rfl (ys := []) rfl (es := []) (n₂ := []) .nil (fun _ h => nomatch h) ok (fun _ h => nomatch h) hu ?_
  have e : ∀ i : Decidable (xs.map Dat.str = []), (!@decide _ i) = !xs.isEmpty := fun i => by cases xs <;> simp
  exact (e _).symm ▸ h
def meantOf (os : List (Str × Str)) (alias word : Str) : Option (List Str) :=
  let found := pickSigs os fun o => alias == Str.ofString "" || o.1 == alias
  if (!found.isEmpty && word != Str.ofString "after") = true then some found else none
set_option maxHeartbeats 0 in
theorem meant_spec {w : World} {mean : ExcName → Option Value} {mg mb : Str → Option Value} {dp un : Nat} {gd : Option (List Code)} {cn : Str} {sn : List (Str × NameKind)} {sgn sco : Bool} {smo : List (Str × Const)} {a : Addr} {ccd : Value} {cl : List (Str × Addr)} {outer : List Env} {A₀ : Around} {base h₀ : Heap} {L : Addr} {m : Str → Option Value} {own : List (Addr × Obj)} {s : Shared} {Q E : Value → Shared → Prop}
    {tk : Addr} {u1 u2 : Tok} {word alias : Str} {tvs : List Value} {os : List (Str × Str)} {tn : Nat}
    (B : Below A₀ base outer h₀) (F : Fr h₀ L s.heap m) (X : (K39 w.params).In h₀) (N : News h₀ L s.heap ((tk, PySem.W.listOf tvs.toArray tn) :: own)) (T : Top VV loo mean mg mb h₀)
    (hdp : dp + 20 < recursionLimit) (hun : un + 200 < cLine)
    (hos : PairsAt own tvs os) (hol : tvs.length ≤ 100) (hok : OsOk os)
    (hN : meantOf os alias word = none → ∀ h' tk', Fr h₀ L h' m → News h₀ L h' ((tk, PySem.W.listOf tvs.toArray tn) :: own) → Q .none { s with heap := h', toks := tk' })
    (hS : ∀ found, meantOf os alias word = some found → ∀ p l ys t h' tk', StrsAre ys found → Fr h₀ L h' m → News h₀ L h' ((p, tupO [.str word t, .ref l]) :: (l, LCg.lst ys) :: (tk, PySem.W.listOf tvs.toArray tn) :: own) →
      (@LT.lt Nat _ l p ∧ @LT.lt Nat _ tk l ∧ AllLt l own) → Q (.ref p) { s with heap := h', toks := tk' })
    :
    wpAny (model PySem.Challenge.rw_rr0095_01.row.prog w) (ktrTop dp un gd cn ⟨.function, sn, sgn, sco, smo⟩ L a ccd cl outer) (call (.ref 555) [.ref tk, .str alias u1, .str word u2]) Q E s := by
  have hkk : (envX cn ⟨.function, sn, sgn, sco, smo⟩ L a ccd cl).scope.kind = .function := rfl
  (refine wpAny_call ?_; k_enter)
  (repeat' (first | (k_unfold; (try dsimp only)) | (k_end; wrow_close) | ((with_reducible show wpAny _ _ (exec (Stmt.Assign _ (PySem.Expr.ListComp _ _ _ _) _) _) _ _ _); (k_dflt (refine assign_pt (by k_asm) (by rfl) (by with_unfolding_all rfl) (by with_unfolding_all rfl) (by decide) (by rfl) (by decide) (by rfl) (by rfl) (by decide) (by decide) (by rfl) (by rfl) ?_))) | ((with_reducible show wpAny _ _ (compareOp CmpOp.NotEq (Value.ref _) (Value.ref _)) _ _ _); (k_dflt (refine found_ne (by k_asm) (by k_mem) (by k_mem) (by assumption) (by exact sigs_ok (by assumption)) (by ktr_units) ?_))) | walk1 | (dsimp only; walk1) | (leave1; walk_say "STEP leave1"; try dsimp only) | fail "no step"))
  refine ⟨_, _, _, _, _, _, fun o => alias == Str.ofString "" || o.1 == alias, rfl, rfl, by k_asm, by k_asm, by k_mem, hos, by kqd_sub, by kpa_ne, ?_, ?_⟩
  · intro o ho t1 t2 oI oC I C D ys m₂ h tk E' hC hx hx2 F' N'
    (repeat' (first | (k_unfold; (try dsimp only)) | (k_end; wrow_close) | ((with_reducible show wpAny _ _ (exec (Stmt.Assign _ (PySem.Expr.ListComp _ _ _ _) _) _) _ _ _); (k_dflt (refine assign_pt (by k_asm) (by rfl) (by with_unfolding_all rfl) (by with_unfolding_all rfl) (by decide) (by rfl) (by decide) (by rfl) (by rfl) (by decide) (by decide) (by rfl) (by rfl) ?_))) | ((with_reducible show wpAny _ _ (compareOp CmpOp.NotEq (Value.ref _) (Value.ref _)) _ _ _); (k_dflt (refine found_ne (by k_asm) (by k_mem) (by k_mem) (by assumption) (by exact sigs_ok (by assumption)) (by ktr_units) ?_))) | walk1 | (dsimp only; walk1) | (leave1; walk_say "STEP leave1"; try dsimp only) | fail "no step"))
    · show true = (_ || _); rw [‹(alias == Str.ofString "") = true›]; rfl
    · show true = (_ || _); rw [‹(o.1 == alias) = true›, Bool.or_true]
    · show false = (_ || _); rw [‹(alias == Str.ofString "") = false›, ‹(o.1 == alias) = false›]; rfl
  · intro D ys h tk hys F' N' l1
    change StrsAre ys (pickSigs os fun o => alias == Str.ofString "" || o.1 == alias) at hys
    (try k_lt l1)
    (repeat' (first | (k_unfold; (try dsimp only)) | (k_end; wrow_close) | ((with_reducible show wpAny _ _ (exec (Stmt.Assign _ (PySem.Expr.ListComp _ _ _ _) _) _) _ _ _); (k_dflt (refine assign_pt (by k_asm) (by rfl) (by with_unfolding_all rfl) (by with_unfolding_all rfl) (by decide) (by rfl) (by decide) (by rfl) (by rfl) (by decide) (by decide) (by rfl) (by rfl) ?_))) | ((with_reducible show wpAny _ _ (compareOp CmpOp.NotEq (Value.ref _) (Value.ref _)) _ _ _); (k_dflt (refine found_ne (by k_asm) (by k_mem) (by k_mem) (by assumption) (by exact sigs_ok (by assumption)) (by ktr_units) ?_))) | walk1 | (dsimp only; walk1) | (leave1; walk_say "STEP leave1"; try dsimp only) | fail "no step"))
    · refine hN ?_ _ _ (by k_asm) (News.perm (by k_asm) ?_)
      · unfold meantOf; dsimp only; rw [‹(pickSigs os _).isEmpty = true›]; rfl
      · refine List.forall_mem_cons.mpr ⟨by k_mem, ?_⟩
        intro p hp
        repeat (first | exact hp | apply List.mem_cons_of_mem)
    · refine hS _ ?_ _ _ _ _ _ _ hys (by k_asm) (news_top2 (by k_asm) (by k_mem) ?_) ?_
      · unfold meantOf; dsimp only; rw [‹(pickSigs os _).isEmpty = false›, ‹(word != Str.ofString "after") = true›]; rfl
      · refine List.forall_mem_cons.mpr ⟨by k_mem, ?_⟩
        intro p hp
        repeat (first | exact hp | apply List.mem_cons_of_mem)
      · refine ⟨?_, ?_, ?_⟩ <;> simp only [*]
    · refine hN ?_ _ _ (by k_asm) (News.perm (by k_asm) ?_)
      · unfold meantOf; dsimp only; rw [‹(pickSigs os _).isEmpty = false›, ‹(word != Str.ofString "after") = false›]; rfl
      · refine List.forall_mem_cons.mpr ⟨by k_mem, ?_⟩
        intro p hp
        repeat (first | exact hp | apply List.mem_cons_of_mem)
end
section
variable {VV : Program} {loo : List Str}
abbrev kdEs (w : World) (t1 t2 t3 t4 t5 t6 t7 : Tok) (sg k2 k3 k4 k5 : Addr) : List DictEntry :=
  [⟨PyData.keyHash w.params (Str.ofString "signatures"), .str (Str.ofString "signatures") t1, .ref sg⟩,
   ⟨PyData.keyHash w.params (Str.ofString "known_columns"), .str (Str.ofString "known_columns") t2, .ref k2⟩,
   ⟨PyData.keyHash w.params (Str.ofString "known_fields"), .str (Str.ofString "known_fields") t3, .ref k3⟩,
   ⟨PyData.keyHash w.params (Str.ofString "begun_fields"), .str (Str.ofString "begun_fields") t4, .ref k4⟩,
   ⟨PyData.keyHash w.params (Str.ofString "warnings"), .str (Str.ofString "warnings") t5, .ref k5⟩,
   ⟨PyData.keyHash w.params (Str.ofString "height"), .str (Str.ofString "height") t6, .int 0 t7⟩]
theorem isList_listOf {h₀ h : Heap} {L l : Addr} {n : Nat} {news : List (Addr × Obj)} {ys : List Value} (N : News h₀ L h ((l, PySem.W.listOf ys.toArray n) :: news)) : h.IsList l ys.toArray := ⟨_, (N _ (.head _)).1, rfl, _, rfl⟩
def tenWords : List Str := [Str.ofString "first", Str.ofString "last", Str.ofString "next", Str.ofString "prev", Str.ofString "nexts", Str.ofString "prevs", Str.ofString "lt", Str.ofString "lte", Str.ofString "gt", Str.ofString "gte"]
def orderIs (os : List (Str × Str)) (text short : Str) : Option (List Str) :=
  if tenWords.any (fun x => x == short) = true then
    let found := pickSigs os fun o => text == short || text == Str.empty ++ o.1 ++ Str.ofString "/" ++ short
    if found.isEmpty = true then none else some found
  else none
theorem last_of {l : List (Str × Tok)} {text y short : Str} {pre : List Str} (h1 : l.map (fun x => x.1) = Txt.split text (Str.ofString "/")) (h2 : (l.map (fun x => x.1))[((-1 : Int) + (l.length : Int)).toNat]? = some y) (hsp : Txt.split text (Str.ofString "/") = pre ++ [short]) : short = y := by
  have hl : l.length = pre.length + 1 := by
    have := congrArg List.length (h1.trans hsp)
    simpa using this
  rw [h1, hsp, show ((-1 : Int) + (l.length : Int)).toNat = pre.length by kpa_ne] at h2
  simpa using h2
theorem allLt_succ {d : Nat} : ∀ {l : List (Addr × Obj)}, AllLt d l → AllLt (d + 1) l
  | [], _ => trivial
  | _ :: _, h => ⟨Nat.lt_succ_of_lt h.1, allLt_succ h.2⟩
set_option maxHeartbeats 0 in
theorem orderOf_spec {w : World} {mean : ExcName → Option Value} {mg mb : Str → Option Value} {dp un : Nat} {gd : Option (List Code)} {cn : Str} {sn : List (Str × NameKind)} {sgn sco : Bool} {smo : List (Str × Const)} {a : Addr} {ccd : Value} {cl : List (Str × Addr)} {outer : List Env} {A₀ : Around} {base h₀ : Heap} {L : Addr} {m : Str → Option Value} {own : List (Addr × Obj)} {s : Shared} {Q E : Value → Shared → Prop}
    {kd kdd k2 k3 k4 k5 sg sd en st op od ow : Addr} {u1 t1 t2 t3 t4 t5 v1 v2 v3 v4 v5 v6 v7 : Tok} {text short : Str} {pre : List Str} {ovs : List Value} {os : List (Str × Str)} {on : Nat}
    (B : Below A₀ base outer h₀) (F : Fr h₀ L s.heap m) (X : (K39 w.params).In h₀)
    (N : News h₀ L s.heap ((kd, instObj 513 kdd) :: (kdd, dictOf (kdEs w v1 v2 v3 v4 v5 v6 v7 sg k2 k3 k4 k5) 6) :: (sg, instObj 269 sd) :: (sd, dictOf (sgEs w t1 t2 t3 t4 t5 en st op od ow) 5) :: (op, PySem.W.listOf ovs.toArray on) :: own)) (T : Top VV loo mean mg mb h₀)
    (hdp : dp + 20 < recursionLimit) (hun : un + 200 < cLine)
    (hos : PairsAt own ovs os) (hol : ovs.length ≤ 100) (hok : OsOk os) (htl : text.length ≤ 100) (hsp : Txt.split text (Str.ofString "/") = pre ++ [short]) (hsl : short.length ≤ 100)
    (hN : orderIs os text short = none → ∀ h' tk', Fr h₀ L h' m → News h₀ L h' ((kd, instObj 513 kdd) :: (kdd, dictOf (kdEs w v1 v2 v3 v4 v5 v6 v7 sg k2 k3 k4 k5) 6) :: (sg, instObj 269 sd) :: (sd, dictOf (sgEs w t1 t2 t3 t4 t5 en st op od ow) 5) :: (op, PySem.W.listOf ovs.toArray on) :: own) → Q .none { s with heap := h', toks := tk' })
    (hS : ∀ found, orderIs os text short = some found → ∀ p l ys t h' tk', StrsAre ys found → Fr h₀ L h' m →
      News h₀ L h' ((p, tupO [.str short t, .ref l]) :: (l, LCg.lst ys) :: (kd, instObj 513 kdd) :: (kdd, dictOf (kdEs w v1 v2 v3 v4 v5 v6 v7 sg k2 k3 k4 k5) 6) :: (sg, instObj 269 sd) :: (sd, dictOf (sgEs w t1 t2 t3 t4 t5 en st op od ow) 5) :: (op, PySem.W.listOf ovs.toArray on) :: own) →
      (@LT.lt Nat _ l p ∧ @LT.lt Nat _ kd l ∧ @LT.lt Nat _ kdd l ∧ @LT.lt Nat _ sg l ∧ @LT.lt Nat _ sd l ∧ @LT.lt Nat _ op l ∧ AllLt l own) → Q (.ref p) { s with heap := h', toks := tk' })
    :
    wpAny (model PySem.Challenge.rw_rr0095_01.row.prog w) (ktrTop dp un gd cn ⟨.function, sn, sgn, sco, smo⟩ L a ccd cl outer) (call (.ref 475) [.ref kd, .str text u1]) Q E s := by
  have hkk : (envX cn ⟨.function, sn, sgn, sco, smo⟩ L a ccd cl).scope.kind = .function := rfl
  (refine wpAny_call ?_; k_enter)
  have hlow := (‹@LT.lt Nat _ kd _ ∧ _ ∧ _ ∧ _ ∧ _ ∧ AllLt _ own›).2.2.2.2.2
  have hlow1 := allLt_succ hlow
  have hlow2 := allLt_succ hlow1
  (repeat' (first | (k_unfold; (try dsimp only)) | (k_end; wrow_close) | ((with_reducible show wpAny _ _ (compareOp CmpOp.NotEq (Value.ref _) (Value.ref _)) _ _ _); (k_dflt (refine found_ne (by k_asm) (by k_mem) (by k_mem) (by assumption) (by exact sigs_ok (by assumption)) (by ktr_units) ?_))) | ((with_reducible show wpAny _ _ (exec (Stmt.Assign _ (PySem.Expr.ListComp _ _ _ _) _) _) _ _ _); (k_dflt (refine assign_pt (by k_asm) (by rfl) (by with_unfolding_all rfl) (by with_unfolding_all rfl) (by decide) (by rfl) (by decide) (by rfl) (by rfl) (by decide) (by decide) (by rfl) (by rfl) ?_))) | ((with_reducible show wpAny _ _ (compareOp CmpOp.NotIn (Value.str _ _) (Value.ref _)) _ _ _); (k_dflt (refine notin_tuple_strs (by exact News.isTup (by k_asm) (by k_mem)) (by ((repeat constructor); done)) ?_))) | ((with_reducible show wpAny _ _ (call (Value.builtin "str.split") _) _ _ _); (k_dflt (refine KSpl.split1 (by k_asm) (by k_asm) (by rfl) ?_ (by (rw [sizeLine_eq]; kpa_ne))); intro _ _ _ _ _ _ _ Z9N Z9l; (have Z9i := isList_listOf Z9N); (try k_lt Z9l))) | walk1 | (dsimp only; walk1) | (leave1; walk_say "STEP leave1"; try dsimp only) | fail "no step"))
  · have hy := last_of ‹_› ‹_› hsp
    subst hy
    refine ⟨_, _, _, _, _, _, fun o => text == short || text == Str.empty ++ o.1 ++ Str.ofString "/" ++ short, rfl, rfl, by k_asm, by k_asm, by k_mem, hos, by kqd_sub, by kpa_ne, ?_, ?_⟩
    · intro o ho t1 t2 oI oC I C D ys m₂ h tk E' hC hx hx2 F' N'
      obtain ⟨ok1, ok2, ol1, ol2⟩ := hok o ho
      (repeat' (first | (k_unfold; (try dsimp only)) | (k_end; wrow_close) | ((with_reducible show wpAny _ _ (compareOp CmpOp.NotEq (Value.ref _) (Value.ref _)) _ _ _); (k_dflt (refine found_ne (by k_asm) (by k_mem) (by k_mem) (by assumption) (by exact sigs_ok (by assumption)) (by ktr_units) ?_))) | ((with_reducible show wpAny _ _ (exec (Stmt.Assign _ (PySem.Expr.ListComp _ _ _ _) _) _) _ _ _); (k_dflt (refine assign_pt (by k_asm) (by rfl) (by with_unfolding_all rfl) (by with_unfolding_all rfl) (by decide) (by rfl) (by decide) (by rfl) (by rfl) (by decide) (by decide) (by rfl) (by rfl) ?_))) | ((with_reducible show wpAny _ _ (compareOp CmpOp.NotIn (Value.str _ _) (Value.ref _)) _ _ _); (k_dflt (refine notin_tuple_strs (by exact News.isTup (by k_asm) (by k_mem)) (by ((repeat constructor); done)) ?_))) | ((with_reducible show wpAny _ _ (call (Value.builtin "str.split") _) _ _ _); (k_dflt (refine KSpl.split1 (by k_asm) (by k_asm) (by rfl) ?_ (by (rw [sizeLine_eq]; kpa_ne))); intro _ _ _ _ _ _ _ Z9N Z9l; (have Z9i := isList_listOf Z9N); (try k_lt Z9l))) | walk1 | (dsimp only; walk1) | (leave1; walk_say "STEP leave1"; try dsimp only) | fail "no step"))
      · show true = (_ || _); rw [‹(text == short) = true›]; rfl
      · show true = (_ || _); rw [‹(text == Str.empty ++ o.1 ++ Str.ofString "/" ++ short) = true›, Bool.or_true]
      · show false = (_ || _); rw [‹(text == short) = false›, ‹(text == Str.empty ++ o.1 ++ Str.ofString "/" ++ short) = false›]; rfl
    · intro D ys h tk hys F' N' l1
      change StrsAre ys (pickSigs os fun o => text == short || text == Str.empty ++ o.1 ++ Str.ofString "/" ++ short) at hys
      (try k_lt l1)
      (repeat' (first | (k_unfold; (try dsimp only)) | (k_end; wrow_close) | ((with_reducible show wpAny _ _ (compareOp CmpOp.NotEq (Value.ref _) (Value.ref _)) _ _ _); (k_dflt (refine found_ne (by k_asm) (by k_mem) (by k_mem) (by assumption) (by exact sigs_ok (by assumption)) (by ktr_units) ?_))) | ((with_reducible show wpAny _ _ (exec (Stmt.Assign _ (PySem.Expr.ListComp _ _ _ _) _) _) _ _ _); (k_dflt (refine assign_pt (by k_asm) (by rfl) (by with_unfolding_all rfl) (by with_unfolding_all rfl) (by decide) (by rfl) (by decide) (by rfl) (by rfl) (by decide) (by decide) (by rfl) (by rfl) ?_))) | ((with_reducible show wpAny _ _ (compareOp CmpOp.NotIn (Value.str _ _) (Value.ref _)) _ _ _); (k_dflt (refine notin_tuple_strs (by exact News.isTup (by k_asm) (by k_mem)) (by ((repeat constructor); done)) ?_))) | ((with_reducible show wpAny _ _ (call (Value.builtin "str.split") _) _ _ _); (k_dflt (refine KSpl.split1 (by k_asm) (by k_asm) (by rfl) ?_ (by (rw [sizeLine_eq]; kpa_ne))); intro _ _ _ _ _ _ _ Z9N Z9l; (have Z9i := isList_listOf Z9N); (try k_lt Z9l))) | walk1 | (dsimp only; walk1) | (leave1; walk_say "STEP leave1"; try dsimp only) | fail "no step"))
      · refine hN ?_ _ _ (by k_asm) (News.perm (by k_asm) ?_)
        · unfold orderIs; rw [if_pos (by show (tenWords.any fun x => x == short) = true; exact ‹(List.any _ fun x => x == short) = true›)]; exact if_pos ‹(pickSigs os _).isEmpty = true›
        · iterate 5 refine List.forall_mem_cons.mpr ⟨by k_mem, ?_⟩
          intro p hp
          repeat (first | exact hp | apply List.mem_cons_of_mem)
      · refine hS _ ?_ _ _ _ _ _ _ hys (by k_asm) (news_top2 (by k_asm) (by k_mem) ?_) ?_
        · unfold orderIs; rw [if_pos (by show (tenWords.any fun x => x == short) = true; exact ‹(List.any _ fun x => x == short) = true›)]; exact if_neg (by rw [‹(pickSigs os _).isEmpty = false›]; decide)
        · iterate 5 refine List.forall_mem_cons.mpr ⟨by k_mem, ?_⟩
          intro p hp
          repeat (first | exact hp | apply List.mem_cons_of_mem)
        · refine ⟨?_, ?_, ?_, ?_, ?_, ?_, ?_⟩ <;> simp only [*]
  · have hy := last_of ‹_› ‹_› hsp
    subst hy
    refine hN ?_ _ _ (by k_asm) (News.perm (by k_asm) ?_)
    · unfold orderIs; rw [if_neg (by show ¬ (tenWords.any fun x => x == short) = true; rw [‹(List.any _ fun x => x == short) = false›]; decide)]
    · iterate 5 refine List.forall_mem_cons.mpr ⟨by k_mem, ?_⟩
      intro p hp
      repeat (first | exact hp | apply List.mem_cons_of_mem)
end
section
variable {VV : Program} {loo : List Str}
set_option maxHeartbeats 0 in
theorem kinds_spec {w : World} {mean : ExcName → Option Value} {mg mb : Str → Option Value} {dp un : Nat} {gd : Option (List Code)} {cn : Str} {sn : List (Str × NameKind)} {sgn sco : Bool} {smo : List (Str × Const)} {a : Addr} {ccd : Value} {cl : List (Str × Addr)} {outer : List Env} {A₀ : Around} {base h₀ : Heap} {L : Addr} {m : Str → Option Value} {own : List (Addr × Obj)} {s : Shared} {Q E : Value → Shared → Prop}
    {sg : Addr} {so : Obj}
    (B : Below A₀ base outer h₀) (F : Fr h₀ L s.heap m) (X : (K39 w.params).In h₀)
    (N : News h₀ L s.heap ((sg, so) :: own)) (T : Top VV loo mean mg mb h₀)
    (hdp : dp + 100 < recursionLimit) (hun : un + 1000 < cLine)
    (hQ : ∀ kd kdd v1 v2 v3 v4 v5 v6 v7 k2 k3 k4 k5 h' tk', Fr h₀ L h' m → News h₀ L h' ((kd, instObj 513 kdd) :: (kdd, dictOf (kdEs w v1 v2 v3 v4 v5 v6 v7 sg k2 k3 k4 k5) 6) :: (sg, so) :: own) → (@LT.lt Nat _ kdd kd ∧ @LT.lt Nat _ sg kdd ∧ AllLt kdd own) → Q (.ref kd) { s with heap := h', toks := tk' })
    :
    wpAny (model PySem.Challenge.rw_rr0095_01.row.prog w) (ktrTop dp un gd cn ⟨.function, sn, sgn, sco, smo⟩ L a ccd cl outer) (call (.ref 513) [.ref sg]) Q E s := by
  have hkk : (envX cn ⟨.function, sn, sgn, sco, smo⟩ L a ccd cl).scope.kind = .function := rfl
  (repeat' (first | (k_unfold; (try dsimp only)) | (k_end; wrow_close) | ((with_reducible show wpAny _ _ (eval (PySem.Expr.Dict [] [] _) _) _ _ _); (k_dflt (refine newDict_K (by k_asm) (by k_asm) (by first | exact Top.nolimit (by k_asm) | exact Glob.nolimit (by k_asm)) ?_; k_whole); intro _ _ _ _ _ q09 _ _ _ _ _; (try k_lt q09); revert q09; intro _)) | (ks_step "exec Expr"; refine ks_wpAt_Expr_any ?_) | (ks_step "eval Call"; refine ks_wpAt_MethodCall ?_) | walk1 | (dsimp only; walk1) | (leave1; walk_say "STEP leave1"; try dsimp only) | fail "no step"))
  rename News h₀ L _ _ => N9
  refine' hQ _ _ _ _ _ _ _ _ _ _ _ _ _ _ _ (by k_asm) (N9.perm ?np) ?lt
  case np =>
    iterate 3 refine' List.forall_mem_cons.mpr ⟨by repeat (first | exact .head _ | apply List.mem_cons_of_mem), ?_⟩
    intro p hp
    repeat (first | exact hp | apply List.mem_cons_of_mem)
  refine ⟨by assumption, ?_, ?_⟩ <;> simp only [*]
end
section
variable {VV : Program} {loo : List Str}
theorem spot_get {w : World} {A : Around} {E : Value → Shared → Prop} {s : Shared} {h₀ : Heap} {L e dx : Addr} {oe : Obj} {m : Str → Option Value} {news : List (Addr × Obj)} {k1 k2 k3 u : Tok} {what : Str} {spot : Int} {expr : Bool} {Q : Value → Shared → Prop}
    (F : Fr h₀ L s.heap m) (X : (K39 w.params).In h₀) (N : News h₀ L s.heap news) (h1 : (e, oe) ∈ news)
    (h2 : (dx, dictOf [⟨PyData.keyHash w.params (Str.ofString "what"), .str (Str.ofString "what") k1, .str what k2⟩, ⟨PyData.keyHash w.params (Str.ofString "spot"), .str (Str.ofString "spot") k3, .int spot u⟩] 2) ∈ news)
    (c : oe.cls = .ref 88) (d : oe.dict = some dx) (n : notCls oe = true) (h : Q (.int spot u) { s with toks := s.toks + 1 }) :
    wpAny (model PySem.Challenge.rw_rr0095_01.row.prog w) A (getAttr (.ref e) (Str.ofString "spot") expr) Q E s := by
  obtain ⟨hh, g, dr, t, os⟩ := s
  refine exc_get (X.keeps F.keep) ⟨(N _ h1).1, c, n, by rw [d]; exact (N _ h2).1⟩ (findObj_own (attr := none) kf_hasDict (by k_is) rfl rfl) rfl h
theorem news_back {h₀ g h : Heap} {L L' : Addr} {m : Str → Option Value} {led : List (Addr × Obj)} (FG : Fr h₀ L g m) (N : News g L' h led) : News h₀ L h led := fun p hp => by
  have z := N p hp
  refine ⟨z.1, fun q => ?_, fresh_of_stays FG.keep z.2.2⟩
  obtain ⟨o, _, _, ho, _⟩ := FG.ns
  rw [← q, z.2.2] at ho; cases ho
set_option maxHeartbeats 0 in
theorem heard_spec {w : World} {mean : ExcName → Option Value} {mg mb : Str → Option Value} {dp un : Nat} {gd : Option (List Code)} {cn : Str} {sn : List (Str × NameKind)} {sgn sco : Bool} {smo : List (Str × Const)} {a : Addr} {ccd : Value} {cl : List (Str × Addr)} {outer : List Env} {A₀ : Around} {h₀ : Heap} {L : Addr} {m : Str → Option Value} {own : List (Addr × Obj)} {s : Shared} {Q E : Value → Shared → Prop}
    {sg sd en st op od ow ai aa : Addr} {oe : Obj} {u1 u2 u3 u4 u5 u6 u7 u8 t1 t2 t3 t4 t5 : Tok} {pairs : List (Str × Value)} {ovs avs : List Value} {os : List (Str × Str)} {on : Nat} {spot : Int} {module alias : Str} {args : List Str}
    (B : Below A₀ h₀ outer h₀) (F : Fr h₀ L s.heap m) (X : (K39 w.params).In h₀)
    (N : News h₀ L s.heap ((sg, instObj 269 sd) :: (sd, dictOf (sgEs w t1 t2 t3 t4 t5 en st op od ow) 5) :: (op, PySem.W.listOf ovs.toArray on) :: (en, oe) ::
       (ai, tupO [.str (Str.ofString "open") u1, .int spot u2, .str module u3, .ref aa, .str alias u4]) :: (aa, tupO avs) :: own))
    (T : Top VV loo mean mg mb h₀)
    (hdp : dp + 40 < recursionLimit) (hun : un + 400 < cLine)
    (hob : Obj.IsDictOf (strKind PySem.Challenge.rw_rr0095_01.row.prog w) oe pairs) (lo : (en == sysModules) = false)
    (hn1 : @Ne Nat sg op) (hn2 : @Ne Nat sd op)  (hn3 : @Ne Nat en op)  (hn4 : @Ne Nat ai op)  (hn5 : @Ne Nat aa op)
    (hown : OwnOff own [op]) (hos : PairsAt own ovs os) (hol : ovs.length ≤ 100)
    (hargs : StrsAre avs args) (hl1 : args.length ≤ 10) (hl2 : module.length ≤ 100) (hl3 : alias.length ≤ 100) (hl4 : ∀ x ∈ args, x.length ≤ 100) (hl5 : ∀ o ∈ os, o.1.length ≤ 100) (hl6 : PyData.strOk alias = true) (hl7 : ∀ d ∈ os.map fun o => Dat.str o.1, kqdOk 8 d = true)
    (hQ : ∀ (nm x : Str) (p : Addr) (ta tb t : Tok) (h' : Heap) (tk' : Nat), Takes pairs os module args alias → ordName alias = nm → args = [x] → Fr h₀ L h' m →
      News h₀ L h' ((p, tupO [.str nm ta, .str x tb]) :: (sg, instObj 269 sd) :: (sd, dictOf (sgEs w t1 t2 t3 t4 t5 en st op od ow) 5) :: (op, PySem.W.listOf (ovs ++ [Value.ref p]).toArray (on + 1)) :: (en, oe) :: own) →
      (@LT.lt Nat _ sg p ∧ @LT.lt Nat _ sd p ∧ @LT.lt Nat _ op p ∧ @LT.lt Nat _ en p ∧ AllLt p own) → Q (.int 0 t) { s with heap := h', toks := tk' })
    (hE : ¬ Takes pairs os module args alias → ∀ (h' : Heap) (tk' : Nat), Fr h₀ L h' m →
      News h₀ L h' ((sg, instObj 269 sd) :: (sd, dictOf (sgEs w t1 t2 t3 t4 t5 en st op od ow) 5) :: (op, PySem.W.listOf ovs.toArray on) :: (en, oe) :: own) → Q (.int spot u2) { s with heap := h', toks := tk' })
    :
    wpAny (model PySem.Challenge.rw_rr0095_01.row.prog w) (ktrTop dp un gd cn ⟨.function, sn, sgn, sco, smo⟩ L a ccd cl outer) (call (.ref 562) [.ref sg, .ref ai]) Q E s := by
  have hkk : (envX cn ⟨.function, sn, sgn, sco, smo⟩ L a ccd cl).scope.kind = .function := rfl
  refine wpAny_call ?_
  refine' code_raw ?k1 ?k2 ?k3 ?k4 ?k5 ?kA ?kF ?kK ?k6 ?k7 ?k8 ?k9 ?kB ?_ ?c2 ?c3 ?c4 ?c5
  (case kA => exact rfl)
  (case kF => exact rfl)
  (case kK => assumption)
  (case k1 => k_asm)
  (case k2 => k_asm)
  (case k3 => k_asm)
  (case k4 => k_asm)
  (case k5 => k_asm)
  (case k6 => k_is)
  (case k7 => k_is)
  (case k8 => ktr_room)
  (case k9 => exact BindsTo.of_eq rfl)
  (case c5 => decide)
  (case kB => exact locs rfl)
  (case c2 => exact rfl)
  (case c3 => exact rfl)
  (case c4 => exact rfl)
  intro g' L' h' FG' F' N' B' X' T' l1
  (try k_lt l1)
  (try dsimp only)
  (try k_fold)
  iterate 13 (first | walk1 | (dsimp only; walk1))
  refine take_spec (own := own) (by assumption) (by assumption) (by assumption) (by assumption) (by assumption) (by ktr_room) (by ktr_units) hob lo hn1 hn2 hn3 hn4 hn5 hown hos hol hargs hl1 hl2 hl3 hl4 hl5 hl6 hl7 ?_ ?_
  · intro nm x p ta tb h2 tk2 hT hnm hx F2 N2 l2
    (repeat' (first | (k_unfold; (try dsimp only)) | (k_end; wrow_close) | ((with_reducible show wpAny _ _ (getAttr (Value.ref _) (Str.ofString "spot") _) _ _ _); k_dflt (refine spot_get (by k_asm) (by k_asm) (by k_asm) (by k_mem) (by k_mem) (by assumption) (by assumption) (by assumption) ?_)) | walk1 | (dsimp only; walk1) | (leave1; walk_say "STEP leave1"; try dsimp only) | fail "no step"))
    exact hQ nm x p ta tb _ h2 _ hT hnm hx (fr_back (base := h₀) FG' (Heap.UpToSlots.refl _) F2 fun b o q => F2.keep b o (B'.stays b o q)) (news_back FG' N2) l2
  · intro hT g2 h2 e dx tk2 what k1 k2 k3 F2 U2 R2 fr
    have e0 : g'.get? e = none := fresh_of_stays F2.keep fr.1
    have d0 : g'.get? dx = none := fresh_of_stays F2.keep fr.2
    have hne : ∀ {b : Addr}, g2.get? b = none → b ≠ L' := fun {b} h0 q => by
      obtain ⟨o, _, _, ho, _⟩ := F2.ns
      rw [q, ho] at h0; cases h0
    have sub : ∀ p ∈ (sg, instObj 269 sd) :: (sd, dictOf (sgEs w t1 t2 t3 t4 t5 en st op od ow) 5) :: (op, PySem.W.listOf ovs.toArray on) :: (en, oe) :: own, p ∈ (sg, instObj 269 sd) :: (sd, dictOf (sgEs w t1 t2 t3 t4 t5 en st op od ow) 5) :: (op, PySem.W.listOf ovs.toArray on) :: (en, oe) ::
       (ai, tupO [.str (Str.ofString "open") u1, .int spot u2, .str module u3, .ref aa, .str alias u4]) :: (aa, tupO avs) :: own := by
      iterate 4 refine List.forall_mem_cons.mpr ⟨by k_mem, ?_⟩
      intro p hp
      repeat (first | exact hp | apply List.mem_cons_of_mem)
    refine caught_D (dx := dx) B' F2 U2 R2 X T (List.forall_mem_cons.mpr ⟨d0, fun p hp => (N' p (sub p hp)).2.2⟩) (List.forall_mem_cons.mpr ⟨hne fr.2, fun p hp => (N' p (sub p hp)).2.1⟩) (hne fr.1) e0 ?_
    intro h3 h4 tk3 oe3 B3 X3 T3 U3 F3 N3 c3 dd3 nc3
    (repeat' (first | (k_unfold; (try dsimp only)) | (k_end; wrow_close) | ((with_reducible show wpAny _ _ (getAttr (Value.ref _) (Str.ofString "spot") _) _ _ _); k_dflt (refine spot_get (by k_asm) (by k_asm) (by k_asm) (by k_mem) (by k_mem) (by assumption) (by assumption) (by assumption) ?_)) | walk1 | (dsimp only; walk1) | (leave1; walk_say "STEP leave1"; try dsimp only) | fail "no step"))
    rename Fr h3 L' _ _ => F9
    rename News h3 L' _ _ => N9
    exact hE hT _ _ (fr_back (base := h₀) FG' U3 F9 fun b o q => F9.keep b o (B3.stays b o q)) fun p hp => ⟨(N9 p (.tail _ (.tail _ hp))).1, (N p (sub p hp)).2⟩
end
section
section
variable {prog : Program} {w : World} {A : Around} {E : Value → Shared → Prop} {s : Shared} {env : Env} {h₀ : Heap} {x : Str} {body : List Stmt} {Q : Flow → Shared → Prop}
def TurnEnd (h₀ : Heap) (L I l : Addr) (oI : Obj) (lo : Obj) (J : (Str → Option Value) → List (Addr × Obj) → Prop) (s : Shared) (Q : Flow → Shared → Prop) (f : Flow) (s' : Shared) : Prop := match f with
  | .ret v => Q (.ret v) s'
  | .brk => Q .next s'
  | _ => ∃ h' tk' m' nw', s' = { s with heap := h', toks := tk' } ∧ Fr h₀ L h' m' ∧ News h₀ L h' ((I, oI) :: (l, lo) :: nw') ∧ (∀ p ∈ nw', p.1 ≠ I) ∧ J m' nw'
theorem turn_next {L I l : Addr} {oI lo : Obj} {J : (Str → Option Value) → List (Addr × Obj) → Prop} {h' : Heap} {tk' : Nat} {m' : Str → Option Value} {nw' : List (Addr × Obj)} (F : Fr h₀ L h' m') (N : News h₀ L h' ((I, oI) :: (l, lo) :: nw')) (off : ∀ p ∈ nw', p.1 ≠ I) (j : J m' nw') :
    TurnEnd h₀ L I l oI lo J s Q .next { s with heap := h', toks := tk' } := ⟨h', tk', m', nw', rfl, F, N, off, j⟩
/-- a loop over a sequence of the ledger, of which nothing but its stay is kept -/
theorem for_core {l : Addr} {lo itO : Obj} {vs : List Value} {St : Nat → Heap → Prop} {m₀ : Str → Option Value} {nw₀ : List (Addr × Obj)} (J : Nat → (Str → Option Value) → List (Addr × Obj) → Prop)
    (hh : A.handled = none) (F : Fr h₀ env.locals s.heap m₀) (N : News h₀ env.locals s.heap ((l, lo) :: nw₀)) (hj : J 0 m₀ nw₀)
    (turn : ∀ i v m nw h tk I oI, I = s.heap.objs.size → vs[i]? = some v → J i m nw → (∀ p ∈ nw, p.1 ≠ I) → Fr h₀ env.locals h (fun y => if y = x then some v else m y) → News h₀ env.locals h ((I, oI) :: (l, lo) :: nw) →
      wpAny (model prog w) A (execs body env) (TurnEnd h₀ env.locals I l oI lo (J (i + 1)) { s with heap := h, toks := tk } Q) E { s with heap := h, toks := tk })
    (done : ∀ m nw h tk, J vs.length m nw → Fr h₀ env.locals h m → News h₀ env.locals h ((l, lo) :: nw) → Q .next { s with heap := h, toks := tk })
    (W : Walks prog w A s.heap.objs.size [s.heap.objs.size, l] [s.heap.objs.size] vs.length (fun i v => vs[i]? = some v) St) (hSt : St 0 (s.heap.push itO)) (hIo : ∀ i h, St i h → ∃ o, h.get? s.heap.objs.size = some o) :
    LoopAtV prog w A h₀ env x body Q E (.ref s.heap.objs.size) { s with heap := s.heap.push itO } := by
  have hl0 := N _ (.head _)
  have hlt : l < s.heap.objs.size := Heap.lt_size hl0.1
  refine ⟨_, _, _, vs.length, _, _, m₀, (l, lo) :: nw₀, fun i m nw => ∃ nw', nw = (l, lo) :: nw' ∧ J i m nw', rfl, W, ?_, ?_, ?_, hSt, F.push _, (fun p hp => ⟨Heap.get?_push_of_some _ (N p hp).1, (N p hp).2⟩), ⟨_, rfl, hj⟩, ?_, ?_⟩
  · intro hm
    rcases List.mem_cons.mp hm with e | hm
    · exact absurd F.ns.lt (e ▸ Nat.lt_irrefl _)
    · exact hl0.2.1 (List.mem_singleton.mp hm).symm
  · intro b hb
    rw [List.mem_singleton.mp hb]
    exact next_is_new F
  · intro p hp hI
    exact absurd (Heap.lt_size (N p hp).1) ((List.mem_singleton.mp hI) ▸ Nat.lt_irrefl _)
  · rintro i v m₁ news₁ s₁ own ⟨hh', tk', rfl⟩ hin hP ⟨nw, rfl, hJ⟩ hoff hown hownat hfp hst F₁ N₁
    have hI0 : h₀.get? s.heap.objs.size = none := next_is_new F
    obtain ⟨oI, hoI⟩ := hIo _ _ hst
    have hIown : (s.heap.objs.size, oI) ∈ own := hfp _ (List.mem_cons.mpr (.inl rfl)) hI0 _ hoI
    have N₂ : News h₀ env.locals hh' ((s.heap.objs.size, oI) :: (l, lo) :: nw) := fun p hp => by
      rcases List.mem_cons.mp hp with rfl | hp
      · exact N₁ _ (List.mem_append_left _ hIown)
      · exact N₁ _ (List.mem_append_right _ hp)
    have offI : ∀ p ∈ nw, p.1 ≠ s.heap.objs.size := fun p hp q => hoff p (.tail _ hp) (List.mem_singleton.mpr q)
    refine wpAny_mono (turn i v m₁ nw hh' tk' _ oI rfl hP hJ offI F₁ N₂) (fun f s₂ p => ?_) fun _ _ e => e
    have fin : (∃ h' tk' m' nw', s₂ = { s with heap := h', toks := tk' } ∧ Fr h₀ env.locals h' m' ∧ News h₀ env.locals h' ((s.heap.objs.size, oI) :: (l, lo) :: nw') ∧ (∀ p ∈ nw', p.1 ≠ s.heap.objs.size) ∧ J (i + 1) m' nw') →
        LoopStepU h₀ env.locals [s.heap.objs.size] own (fun m nw => ∃ nw', nw = (l, lo) :: nw' ∧ J (i + 1) m nw') { s with heap := hh', toks := tk' } .next s₂ := by
      rintro ⟨h', tk, m', nw', rfl, F', N', off', hJ'⟩
      refine ⟨rfl, h', tk, m', (l, lo) :: nw', rfl, F', fun p hp => ?_, fun p hp hq => ?_, _, rfl, hJ'⟩
      · rcases List.mem_append.mp hp with hp | hp
        · have at' := hownat p hp
          rcases List.mem_cons.mp (hown p hp) with e | e
          · have e2 : p = (s.heap.objs.size, oI) := by
              obtain ⟨pa, po⟩ := p
              dsimp only at e at'
              subst e
              rw [hoI] at at'
              cases at'; rfl
            exact e2 ▸ N' _ (.head _)
          · have e1 := List.mem_singleton.mp e
            have e2 : p = (l, lo) := by
              obtain ⟨pa, po⟩ := p
              dsimp only at e1 at'
              subst e1
              have := (N₂ (pa, lo) (.tail _ (.head _))).1
              rw [this] at at'
              cases at'; rfl
            exact e2 ▸ N' _ (.tail _ (.head _))
        · exact N' _ (.tail _ hp)
      · rcases List.mem_cons.mp hp with rfl | hp
        · exact absurd (List.mem_singleton.mp hq) (Nat.ne_of_lt hlt)
        · exact off' p hp (List.mem_singleton.mp hq)
    cases f with
    | ret v => exact p
    | brk => exact p
    | next => exact fin p
    | cont => exact fin p
  · rintro h' tk m' news' F' N' _ ⟨nw', rfl, hJ⟩
    exact done m' nw' h' tk hJ F' N'
theorem for_list {l : Addr} {vs : List Value} {k : Nat} {m₀ : Str → Option Value} {nw₀ : List (Addr × Obj)} (J : Nat → (Str → Option Value) → List (Addr × Obj) → Prop)
    (hh : A.handled = none) (F : Fr h₀ env.locals s.heap m₀) (N : News h₀ env.locals s.heap ((l, PySem.W.listOf vs.toArray k) :: nw₀)) (hj : J 0 m₀ nw₀)
    (turn : ∀ i v m nw h tk I oI, I = s.heap.objs.size → vs[i]? = some v → J i m nw → (∀ p ∈ nw, p.1 ≠ I) → Fr h₀ env.locals h (fun y => if y = x then some v else m y) → News h₀ env.locals h ((I, oI) :: (l, PySem.W.listOf vs.toArray k) :: nw) →
      wpAny (model prog w) A (execs body env) (TurnEnd h₀ env.locals I l oI (PySem.W.listOf vs.toArray k) (J (i + 1)) { s with heap := h, toks := tk } Q) E { s with heap := h, toks := tk })
    (done : ∀ m nw h tk, J vs.length m nw → Fr h₀ env.locals h m → News h₀ env.locals h ((l, PySem.W.listOf vs.toArray k) :: nw) → Q .next { s with heap := h, toks := tk }) :
    wpAny (model prog w) A (pyIter (.ref l)) (fun it s₂ => LoopAtV prog w A h₀ env x body Q E it s₂) E s := by
  have hls : s.heap.IsList l vs.toArray := ⟨_, (N _ (.head _)).1, rfl, _, rfl⟩
  have hlt : l < s.heap.objs.size := Heap.lt_size (N _ (.head _)).1
  refine wpAny_pyIter_list hls ?_
  have W := Walks.list (prog := prog) (w := w) hh s.heap.objs.size l (Nat.ne_of_lt hlt) vs.toArray
  have e : (fun (i : Nat) v => vs.toArray[i]? = some v) = fun i v => vs[i]? = some v := by funext i v; simp
  rw [show vs.toArray.size = vs.length by simp, e] at W
  exact for_core J hh F N hj turn done W ⟨⟨_, Heap.get?_push_size _ rfl, rfl, rfl⟩, hls.at fun o e => Heap.get?_push_of_some _ e⟩ fun i h st => by obtain ⟨o, ho, _⟩ := st.1; exact ⟨o, ho⟩
theorem for_tup {l : Addr} {vs : List Value} {m₀ : Str → Option Value} {nw₀ : List (Addr × Obj)} (J : Nat → (Str → Option Value) → List (Addr × Obj) → Prop)
    (hh : A.handled = none) (F : Fr h₀ env.locals s.heap m₀) (N : News h₀ env.locals s.heap ((l, tupO vs) :: nw₀)) (hj : J 0 m₀ nw₀)
    (turn : ∀ i v m nw h tk I oI, I = s.heap.objs.size → vs[i]? = some v → J i m nw → (∀ p ∈ nw, p.1 ≠ I) → Fr h₀ env.locals h (fun y => if y = x then some v else m y) → News h₀ env.locals h ((I, oI) :: (l, tupO vs) :: nw) →
      wpAny (model prog w) A (execs body env) (TurnEnd h₀ env.locals I l oI (tupO vs) (J (i + 1)) { s with heap := h, toks := tk } Q) E { s with heap := h, toks := tk })
    (done : ∀ m nw h tk, J vs.length m nw → Fr h₀ env.locals h m → News h₀ env.locals h ((l, tupO vs) :: nw) → Q .next { s with heap := h, toks := tk }) :
    wpAny (model prog w) A (pyIter (.ref l)) (fun it s₂ => LoopAtV prog w A h₀ env x body Q E it s₂) E s := by
  have hls : s.heap.IsTuple l vs.toArray := ⟨_, (N _ (.head _)).1, rfl, _, rfl⟩
  have hlt : l < s.heap.objs.size := Heap.lt_size (N _ (.head _)).1
  refine wpAny_pyIter_tuple hls ?_
  have W := Walks.tuple (prog := prog) (w := w) hh s.heap.objs.size l (Nat.ne_of_lt hlt) vs.toArray
  have e : (fun (i : Nat) v => vs.toArray[i]? = some v) = fun i v => vs[i]? = some v := by funext i v; simp
  rw [show vs.toArray.size = vs.length by simp, e] at W
  exact for_core J hh F N hj turn done W ⟨⟨_, Heap.get?_push_size _ rfl, rfl, rfl⟩, hls.push _⟩ fun i h st => by obtain ⟨o, ho, _⟩ := st.1; exact ⟨o, ho⟩
theorem for_tup1 {l : Addr} {v : Value} {m₀ : Str → Option Value} {nw₀ : List (Addr × Obj)}
    (hh : A.handled = none) (F : Fr h₀ env.locals s.heap m₀) (N : News h₀ env.locals s.heap ((l, tupO [v]) :: nw₀))
    (turn : ∀ h tk I oI, (∀ p ∈ (l, tupO [v]) :: nw₀, p.1 < I) → Fr h₀ env.locals h (fun y => if y = x then some v else m₀ y) → News h₀ env.locals h ((I, oI) :: (l, tupO [v]) :: nw₀) →
      wpAny (model prog w) A (execs body env) (TurnEnd h₀ env.locals I l oI (tupO [v]) (fun m nw => ∀ h tk, Fr h₀ env.locals h m → News h₀ env.locals h ((l, tupO [v]) :: nw) → Q .next { s with heap := h, toks := tk }) { s with heap := h, toks := tk } Q) E { s with heap := h, toks := tk }) :
    wpAny (model prog w) A (pyIter (.ref l)) (fun it s₂ => LoopAtV prog w A h₀ env x body Q E it s₂) E s := by
  have low : ∀ p ∈ (l, tupO [v]) :: nw₀, p.1 < s.heap.objs.size := fun p hp => Heap.lt_size (N p hp).1
  refine for_tup (fun i m nw => (i = 0 ∧ m = m₀ ∧ nw = nw₀) ∨ (i = 1 ∧ ∀ h tk, Fr h₀ env.locals h m → News h₀ env.locals h ((l, tupO [v]) :: nw) → Q .next { s with heap := h, toks := tk })) hh F N (.inl ⟨rfl, rfl, rfl⟩) (fun i v' m nw h tk I oI hI hv hJ off F' N' => ?_) fun m nw h tk hJ F' N' => ?_
  · rcases hJ with ⟨rfl, rfl, rfl⟩ | ⟨rfl, _⟩
    · cases hv
      refine wpAny_mono (turn h tk I oI (hI ▸ low) F' N') (fun f s' z => ?_) fun _ _ z => z
      cases f with
      | ret v => exact z
      | brk => exact z
      | next => obtain ⟨h', tk', m', nw', e, a, b, c, d⟩ := z; exact ⟨h', tk', m', nw', e, a, b, c, .inr ⟨rfl, d⟩⟩
      | cont => obtain ⟨h', tk', m', nw', e, a, b, c, d⟩ := z; exact ⟨h', tk', m', nw', e, a, b, c, .inr ⟨rfl, d⟩⟩
    · cases hv
  · rcases hJ with ⟨h0, _⟩ | ⟨_, k⟩
    · cases h0
    · exact k h tk F' N'
theorem for_tup0 {l : Addr} {m₀ : Str → Option Value} {nw₀ : List (Addr × Obj)}
    (hh : A.handled = none) (F : Fr h₀ env.locals s.heap m₀) (N : News h₀ env.locals s.heap ((l, tupO []) :: nw₀))
    (done : ∀ h tk, Fr h₀ env.locals h m₀ → News h₀ env.locals h ((l, tupO []) :: nw₀) → Q .next { s with heap := h, toks := tk }) :
    wpAny (model prog w) A (pyIter (.ref l)) (fun it s₂ => LoopAtV prog w A h₀ env x body Q E it s₂) E s :=
  for_tup (fun _ m nw => m = m₀ ∧ nw = nw₀) hh F N ⟨rfl, rfl⟩ (fun i v' m nw h tk I oI hI hv hJ off F' N' => by cases hv) fun m nw h tk hJ F' N' => by
    obtain ⟨rfl, rfl⟩ := hJ
    exact done h tk F' N'
theorem For_own {m : Str → Option Value} {x : Str} {px pos : Pos} {iter : Expr} {body : List Stmt} (_F : Fr h₀ env.locals s.heap m) (hx : env.kindOf x = some .local)
    (hp : (env.scope.kind == .class || (env.scope.kind == .module && env.locals != env.globals)) = false)
    (h : wpAny (model prog w) A (eval iter env) (fun xv s₁ => wpAny (model prog w) A (pyIter xv) (fun it s₂ => LoopAtV prog w A h₀ env x body Q E it s₂) E s₁) E s)
    (hs : ∀ x, foldedSetIterable iter env x = pure x := by intro _; rfl)
    (hE : PassesOwn (model prog w) A env E := by passes_own) :
    wpAny (model prog w) A (exec (.For (.Name x px) iter body [] pos) env) Q E s := For_invV h₀ hx hp h hs hE
end
end
section
variable {VV : Program} {loo : List Str}
abbrev sgE3 (w : World) (t1 t2 t3 : Tok) (en st op : Addr) : List DictEntry :=
  [⟨PyData.keyHash w.params (Str.ofString "entries"), .str (Str.ofString "entries") t1, .ref en⟩,
   ⟨PyData.keyHash w.params (Str.ofString "stands"), .str (Str.ofString "stands") t2, .ref st⟩,
   ⟨PyData.keyHash w.params (Str.ofString "opened"), .str (Str.ofString "opened") t3, .ref op⟩]
abbrev sigO (spot : Int) (u1 u2 u3 u4 : Tok) (pn ps e1 e2 : Addr) (parent : Str) : Obj :=
  tupO [.str (Str.ofString "sig") u1, .int spot u2, .ref pn, .bool false, .str (Str.ofString "") u3, .str parent u4, .ref ps, .ref e1, .ref e2]
theorem off_of {nw nw' : List (Addr × Obj)} {I : Addr} (h : ∀ p ∈ nw, p.1 < I) (e : nw'.map (·.1) = nw.map (·.1)) : ∀ p ∈ nw', p.1 ≠ I := fun p hp => by
  have : p.1 ∈ nw.map (·.1) := e ▸ List.mem_map.mpr ⟨p, hp, rfl⟩
  obtain ⟨q, hq, z⟩ := List.mem_map.mp this
  exact z ▸ Nat.ne_of_lt (h q hq)
theorem led_up {p : Addr × Obj} {l : List (Addr × Obj)} (h : p ∈ l) : ∀ q ∈ p :: l, q ∈ l := fun q hq => by
  rcases List.mem_cons.mp hq with rfl | hq
  · exact h
  · exact hq
set_option maxHeartbeats 0 in
theorem takeSig_spec {w : World} {mean : ExcName → Option Value} {mg mb : Str → Option Value} {dp un : Nat} {gd : Option (List Code)} {cn : Str} {sn : List (Str × NameKind)} {sgn sco : Bool} {smo : List (Str × Const)} {a : Addr} {ccd : Value} {cl : List (Str × Addr)} {outer : List Env} {A₀ : Around} {base h₀ : Heap} {L : Addr} {m : Str → Option Value} {own : List (Addr × Obj)} {s : Shared} {Q E : Value → Shared → Prop}
    {sg sd en st op pi pn ps e1 e2 : Addr} {oe : Obj} {u1 u2 u3 u4 un1 t1 t2 t3 : Tok} {pairs : List (Str × Value)} {svs pvs : List Value} {ns pn' : List Str} {k : Nat} {spot : Int} {name parent : Str}
    (B : Below A₀ base outer h₀) (F : Fr h₀ L s.heap m) (X : (K39 w.params).In h₀)
    (N : News h₀ L s.heap ((sg, instObj 269 sd) :: (sd, dictOf (sgE3 w t1 t2 t3 en st op) 3) :: (en, oe) :: (st, PySem.W.listOf svs.toArray k) :: (pi, sigO spot u1 u2 u3 u4 pn ps e1 e2 parent) :: (pn, tupO [.str name un1]) :: (ps, tupO pvs) :: own))
    (T : Top VV loo mean mg mb h₀)
    (hdp : dp + 20 < recursionLimit) (hun : un + 200 < cLine)
    (hob : Obj.IsDictOf (strKind PySem.Challenge.rw_rr0095_01.row.prog w) oe pairs) (lo : (en == sysModules) = false) (hnew : (valueAt pairs name).isSome = false) (hps : StrsAre pvs pn') (hpl : pn'.length ≤ 10) (hpz : pairs.length ≤ 100) (hsl : svs.length ≤ 100)
    (hn1 : @Ne Nat sg st) (hn2 : @Ne Nat sd st)  (hn3 : @Ne Nat en st) (hn4 : @Ne Nat pi st) (hn5 : @Ne Nat pn st) (hn6 : @Ne Nat ps st) (hm1 : @Ne Nat sg en) (hm2 : @Ne Nat sd en) (hm4 : @Ne Nat pi en) (hm5 : @Ne Nat pn en) (hm6 : @Ne Nat ps en)
    (hown : OwnOff own [en, st])
    (hQ : ∀ oe' h' tk', oe'.IsDictOf (strKind PySem.Challenge.rw_rr0095_01.row.prog w) (stored pairs name (.ref pi)) → Fr h₀ L h' m →
      News h₀ L h' ((sg, instObj 269 sd) :: (sd, dictOf (sgE3 w t1 t2 t3 en st op) 3) :: (en, oe') :: (st, PySem.W.listOf (svs ++ [Value.str name un1]).toArray (k + 1)) :: (pi, sigO spot u1 u2 u3 u4 pn ps e1 e2 parent) :: (pn, tupO [.str name un1]) :: (ps, tupO pvs) :: own) → Q .none { s with heap := h', toks := tk' })
    :
    wpAny (model PySem.Challenge.rw_rr0095_01.row.prog w) (ktrTop dp un gd cn ⟨.function, sn, sgn, sco, smo⟩ L a ccd cl outer) (call (.ref 123) [.ref sg, .ref pi]) Q E s := by
  have hkk : (envX cn ⟨.function, sn, sgn, sco, smo⟩ L a ccd cl).scope.kind = .function := rfl
  refine wpAny_call ?_
  k_dflt ktr_enter
  refine tok_gen fun tkA => ?_
  rename Fr _ _ _ _ => FE
  replace FE : Fr _ _ _ (bindFr [(Str.ofString "item", Value.ref pi), (Str.ofString "self", Value.ref sg)]) := FE
  (repeat' (first | (k_unfold; (try dsimp only)) | (k_end; wrow_close) | ((with_reducible show wpAny _ _ (setItem (Value.ref _) (Value.str _ _) _) _ _ _); (k_dflt (refine kda_set (knd := PySem.strKind _ _) (by k_asm) (by k_asm) (by k_updF) (by k_asm) (strKind_is _ _ _ _) (by (rw [sizeLine_eq]; kpa_ne)) ?_); intro _ _ _ q09 _; (try dsimp only at q09); revert q09; intro _)) | ((with_reducible show wpAny _ _ (compareOp CmpOp.In (Value.str _ _) (Value.ref _)) _ _ _); (k_dflt (refine kda_in (knd := PySem.strKind _ _) (by k_asm) (by k_mem) (by k_asm) (by k_asm) (strKind_is _ _ _ _) false (by assumption) ?_))) | ((with_reducible show wpAny _ _ (call (Value.builtin "len") [Value.ref _]) _ _ _); k_dflt (refine Mine.len_tupN (by k_asm) (by k_mem) (by k_asm) (by kpa_ne) ?_)) | ((with_reducible show wpAny _ _ (exec (Stmt.For _ _ _ _ _) _) _ _ _); (k_dflt (refine For_own (by k_asm) (by rfl) (by rfl) ?_))) | ((with_reducible show wpAny _ _ (subscriptTail _ _ (Value.ref _) (Value.int _ _)) _ _ _); k_dflt (refine item_tupleT (by exact News.isTup (by k_asm) (by k_mem)) (by decide) (by decide) (by rfl) (by rfl) ?_; k_whole)) | walk1 | (dsimp only; walk1) | (leave1; walk_say "STEP leave1"; try dsimp only) | fail "no step"))
  refine for_tup1 (by rfl) (by k_asm) (News.perm (by k_asm) (led_up (by k_mem))) ?_
  intro h tk I oI l1 F' N'
  have l0 := fun p hp => l1 p (.tail _ hp)
  (try k_lt l1)
  (repeat' (first | (k_unfold; (try dsimp only)) | (k_end; wrow_close) | ((with_reducible show wpAny _ _ (setItem (Value.ref _) (Value.str _ _) _) _ _ _); (k_dflt (refine kda_set (knd := PySem.strKind _ _) (by k_asm) (by k_asm) (by k_updF) (by k_asm) (strKind_is _ _ _ _) (by (rw [sizeLine_eq]; kpa_ne)) ?_); intro _ _ _ q09 _; (try dsimp only at q09); revert q09; intro _)) | ((with_reducible show wpAny _ _ (compareOp CmpOp.In (Value.str _ _) (Value.ref _)) _ _ _); (k_dflt (refine kda_in (knd := PySem.strKind _ _) (by k_asm) (by k_mem) (by k_asm) (by k_asm) (strKind_is _ _ _ _) false (by assumption) ?_))) | ((with_reducible show wpAny _ _ (call (Value.builtin "len") [Value.ref _]) _ _ _); k_dflt (refine Mine.len_tupN (by k_asm) (by k_mem) (by k_asm) (by kpa_ne) ?_)) | ((with_reducible show wpAny _ _ (exec (Stmt.For _ _ _ _ _) _) _ _ _); (k_dflt (refine For_own (by k_asm) (by rfl) (by rfl) ?_))) | ((with_reducible show wpAny _ _ (subscriptTail _ _ (Value.ref _) (Value.int _ _)) _ _ _); k_dflt (refine item_tupleT (by exact News.isTup (by k_asm) (by k_mem)) (by decide) (by decide) (by rfl) (by rfl) ?_; k_whole)) | walk1 | (dsimp only; walk1) | (leave1; walk_say "STEP leave1"; try dsimp only) | fail "no step"))
  refine turn_next (by k_asm) (by k_asm) ?_ ?_
  · exact off_of l0 rfl
  intro h tk F' N'
  (repeat' (first | (k_unfold; (try dsimp only)) | (k_end; wrow_close) | ((with_reducible show wpAny _ _ (setItem (Value.ref _) (Value.str _ _) _) _ _ _); (k_dflt (refine kda_set (knd := PySem.strKind _ _) (by k_asm) (by k_asm) (by k_updF) (by k_asm) (strKind_is _ _ _ _) (by (rw [sizeLine_eq]; kpa_ne)) ?_); intro _ _ _ q09 _; (try dsimp only at q09); revert q09; intro _)) | ((with_reducible show wpAny _ _ (compareOp CmpOp.In (Value.str _ _) (Value.ref _)) _ _ _); (k_dflt (refine kda_in (knd := PySem.strKind _ _) (by k_asm) (by k_mem) (by k_asm) (by k_asm) (strKind_is _ _ _ _) false (by assumption) ?_))) | ((with_reducible show wpAny _ _ (call (Value.builtin "len") [Value.ref _]) _ _ _); k_dflt (refine Mine.len_tupN (by k_asm) (by k_mem) (by k_asm) (by kpa_ne) ?_)) | ((with_reducible show wpAny _ _ (exec (Stmt.For _ _ _ _ _) _) _ _ _); (k_dflt (refine For_own (by k_asm) (by rfl) (by rfl) ?_))) | ((with_reducible show wpAny _ _ (subscriptTail _ _ (Value.ref _) (Value.int _ _)) _ _ _); k_dflt (refine item_tupleT (by exact News.isTup (by k_asm) (by k_mem)) (by decide) (by decide) (by rfl) (by rfl) ?_; k_whole)) | walk1 | (dsimp only; walk1) | (leave1; walk_say "STEP leave1"; try dsimp only) | fail "no step"))
  all_goals
    refine hQ _ _ _ (by assumption) (by k_asm) (News.perm (by k_asm) ?_)
    rw [← List.push_toArray]
    exact fun p hp => .tail _ hp
end
section
variable {VV : Program} {loo : List Str}
theorem led_up2 {p x : Addr × Obj} {l : List (Addr × Obj)} (h : p ∈ l) : ∀ q ∈ p :: l, q ∈ x :: l := fun q hq => by
  rcases List.mem_cons.mp hq with rfl | hq
  · exact .tail _ h
  · exact .tail _ hq
/-- the three shapes of a signature here: its parent, what it is a part of, and both in a row -/
inductive Shp : Str → List Value → List Str → Prop
  | free : Shp (Str.ofString "") [] []
  | kid : Shp (Str.ofString "A") [] [Str.ofString "A"]
  | part (t : Tok) : Shp (Str.ofString "") [.str (Str.ofString "A") t] [Str.ofString "A"]
theorem getItem_str {w : World} {A : Around} {E : Value → Shared → Prop} {s : Shared} {h₀ : Heap} {L d : Addr} {o : Obj} {news : List (Addr × Obj)} {kvs : List (Str × Value)} {x : Str} {t : Tok} {v : Value} {Q : Value → Shared → Prop} (N : News h₀ L s.heap news) (hp : (d, o) ∈ news) (hdd : o.IsDictOf (strKind PySem.Challenge.rw_rr0095_01.row.prog w) kvs) (hl : valueAt kvs x = some v) (h : Q v { s with toks := s.toks + 1 }) :
    wpAny (model PySem.Challenge.rw_rr0095_01.row.prog w) A (getItem (.ref d) (.str x t)) Q E s := wpAny_getItem_of (strKind_is _ _ _ _) (kda_dict N hp hdd).mapOf hl h
set_option maxHeartbeats 0 in
theorem direct_spec {w : World} {mean : ExcName → Option Value} {mg mb : Str → Option Value} {dp unn : Nat} {gd : Option (List Code)} {cn : Str} {sn : List (Str × NameKind)} {sgn sco : Bool} {smo : List (Str × Const)} {a : Addr} {ccd : Value} {cl : List (Str × Addr)} {outer : List Env} {A₀ : Around} {base h₀ : Heap} {L : Addr} {m : Str → Option Value} {own : List (Addr × Obj)} {s : Shared} {Q E : Value → Shared → Prop}
    {sg sd en st op pi pn ps e1 e2 : Addr} {oe : Obj} {u1 u2 u3 u4 un t1 t2 t3 tn : Tok} {pairs : List (Str × Value)} {pvs : List Value} {ds : List Str} {spot : Int} {name parent : Str}
    (B : Below A₀ base outer h₀) (F : Fr h₀ L s.heap m) (X : (K39 w.params).In h₀)
    (N : News h₀ L s.heap ((sg, instObj 269 sd) :: (sd, dictOf (sgE3 w t1 t2 t3 en st op) 3) :: (en, oe) :: (pi, sigO spot u1 u2 u3 u4 pn ps e1 e2 parent) :: (ps, tupO pvs) :: own))
    (T : Top VV loo mean mg mb h₀)
    (hdp : dp + 20 < recursionLimit) (hun : unn + 200 < cLine)
    (hob : Obj.IsDictOf (strKind PySem.Challenge.rw_rr0095_01.row.prog w) oe pairs) (lo : (en == sysModules) = false) (hv : valueAt pairs name = some (.ref pi)) (sh : Shp parent pvs ds)
    (hQ : ∀ q vs h' tk', Fr h₀ L h' m → News h₀ L h' ((q, tupO vs) :: (sg, instObj 269 sd) :: (sd, dictOf (sgE3 w t1 t2 t3 en st op) 3) :: (en, oe) :: (pi, sigO spot u1 u2 u3 u4 pn ps e1 e2 parent) :: (ps, tupO pvs) :: own) → StrsAre vs ds → Q (.ref q) { s with heap := h', toks := tk' })
    :
    wpAny (model PySem.Challenge.rw_rr0095_01.row.prog w) (ktrTop dp unn gd cn ⟨.function, sn, sgn, sco, smo⟩ L a ccd cl outer) (call (.ref 137) [.ref sg, .str name tn]) Q E s := by
  have hkk : (envX cn ⟨.function, sn, sgn, sco, smo⟩ L a ccd cl).scope.kind = .function := rfl
  cases sh
  all_goals
    refine wpAny_call ?_
    k_dflt ktr_enter
    refine tok_gen fun tkA => ?_
    rename Fr _ _ _ _ => FE
    replace FE : Fr _ _ _ (bindFr [(Str.ofString "name", Value.str name tn), (Str.ofString "self", Value.ref sg)]) := FE
    (repeat' (first | (k_unfold; (try dsimp only)) | (k_end; wrow_close) | ((with_reducible show wpAny _ _ (subscriptTail _ _ (Value.ref _) (Value.str _ _)) _ _ _); k_dflt (refine kda_item (knd := PySem.strKind _ _) (by k_asm) (by k_mem) (by k_asm) (strKind_is _ _ _ _) (by assumption) ?_)) | ((with_reducible show wpAny _ _ (subscriptTail _ _ (Value.ref _) (Value.int _ _)) _ _ _); k_dflt (refine item_tupleT (by exact News.isTup (by k_asm) (by k_mem)) (by decide) (by decide) (by rfl) (by rfl) ?_; k_whole)) | ((with_reducible show wpAny _ _ (call (Value.type _) [Value.ref _]) _ _ _); k_dflt (refine call_tuple_tup (by exact News.isTup (by k_asm) (by k_mem)) ?_)) | ((with_reducible show wpAny _ _ (getItem _ _) _ _ _); (k_dflt (refine getItem_str (by k_asm) (by k_mem) (by k_asm) (by assumption) ?_))) | ((with_reducible show wpAny _ _ (getItem (Value.ref _) (Value.str _ _)) _ _ _); (k_dflt (refine getItem_str (by k_asm) (by k_mem) (by k_asm) (by assumption) ?_))) | walk1 | (dsimp only; walk1) | (leave1; walk_say "STEP leave1"; try dsimp only) | fail "no step"))
  all_goals
    show Q _ { s with heap := _, toks := _ }
    first
      | exact hQ _ _ _ _ (by k_asm) (by k_asm) (by repeat constructor)
      | exact hQ _ _ _ _ (by k_asm) (News.perm (by k_asm) (led_up2 (by k_mem))) (by repeat constructor)
end
section
variable {VV : Program} {loo : List Str}
theorem isSome_of {pairs : List (Str × Value)} {x : Str} {v : Value} (h : valueAt pairs x = some v) : (valueAt pairs x).isSome = true := by rw [h]; rfl
theorem direct_K {w : World} {mean : ExcName → Option Value} {mg mb : Str → Option Value} {dp unn : Nat} {gd : Option (List Code)} {cn : Str} {sn : List (Str × NameKind)} {sgn sco : Bool} {smo : List (Str × Const)} {a : Addr} {ccd : Value} {cl : List (Str × Addr)} {outer : List Env} {A₀ : Around} {base h₀ : Heap} {L : Addr} {m : Str → Option Value} {news : List (Addr × Obj)} {s : Shared} {Q E : Value → Shared → Prop}
    {sg sd en st op pi pn ps e1 e2 : Addr} {oe : Obj} {u1 u2 u3 u4 t1 t2 t3 tn : Tok} {pairs : List (Str × Value)} {pvs : List Value} {ds : List Str} {spot : Int} {name parent : Str}
    (B : Below A₀ base outer h₀) (F : Fr h₀ L s.heap m) (X : (K39 w.params).In h₀) (N : News h₀ L s.heap news) (T : Top VV loo mean mg mb h₀)
    (m1 : (sg, instObj 269 sd) ∈ news) (m2 : (sd, dictOf (sgE3 w t1 t2 t3 en st op) 3) ∈ news) (m3 : (en, oe) ∈ news) (hv : valueAt pairs name = some (.ref pi)) (m4 : (pi, sigO spot u1 u2 u3 u4 pn ps e1 e2 parent) ∈ news) (m5 : (ps, tupO pvs) ∈ news)
    (hdp : dp + 20 < recursionLimit) (hun : unn + 200 < cLine)
    (hob : Obj.IsDictOf (strKind PySem.Challenge.rw_rr0095_01.row.prog w) oe pairs) (lo : (en == sysModules) = false) (sh : Shp parent pvs ds)
    (hQ : ∀ q vs h' tk', Fr h₀ L h' m → News h₀ L h' ((q, tupO vs) :: news) → StrsAre vs ds → Q (.ref q) { s with heap := h', toks := tk' }) :
    wpAny (model PySem.Challenge.rw_rr0095_01.row.prog w) (ktrTop dp unn gd cn ⟨.function, sn, sgn, sco, smo⟩ L a ccd cl outer) (call (.ref 137) [.ref sg, .str name tn]) Q E s :=
  direct_spec (un := tn) (own := news) B F X (N.perm (List.forall_mem_cons.mpr ⟨m1, List.forall_mem_cons.mpr ⟨m2, List.forall_mem_cons.mpr ⟨m3, List.forall_mem_cons.mpr ⟨m4, List.forall_mem_cons.mpr ⟨m5, fun _ h => h⟩⟩⟩⟩⟩)) T hdp hun hob lo hv sh
    fun q vs h' tk' F' N' hs => hQ q vs h' tk' F' (N'.perm fun p hp => by
      rcases List.mem_cons.mp hp with rfl | hp
      · exact .head _
      · exact .tail _ (.tail _ (.tail _ (.tail _ (.tail _ (.tail _ hp)))))) hs
set_option maxHeartbeats 0 in
theorem lookAbove_spec {w : World} {mean : ExcName → Option Value} {mg mb : Str → Option Value} {dp unn : Nat} {gd : Option (List Code)} {cn : Str} {sn : List (Str × NameKind)} {sgn sco : Bool} {smo : List (Str × Const)} {a : Addr} {ccd : Value} {cl : List (Str × Addr)} {outer : List Env} {A₀ : Around} {base h₀ : Heap} {L : Addr} {m : Str → Option Value} {own : List (Addr × Obj)} {s : Shared} {Q E : Value → Shared → Prop}
    {sg sd en st op pi pn ps e1 e2 pA pnA psA e1A e2A : Addr} {oe : Obj} {u1 u2 u3 u4 v1 v2 v3 v4 t1 t2 t3 tn : Tok} {pairs : List (Str × Value)} {pvs : List Value} {ds : List Str} {spot spotA : Int} {name parent : Str}
    (B : Below A₀ base outer h₀) (F : Fr h₀ L s.heap m) (X : (K39 w.params).In h₀)
    (N : News h₀ L s.heap ((sg, instObj 269 sd) :: (sd, dictOf (sgE3 w t1 t2 t3 en st op) 3) :: (en, oe) :: (pi, sigO spot u1 u2 u3 u4 pn ps e1 e2 parent) :: (ps, tupO pvs) :: (pA, sigO spotA v1 v2 v3 v4 pnA psA e1A e2A (Str.ofString "")) :: (psA, tupO []) :: own))
    (T : Top VV loo mean mg mb h₀)
    (hdp : dp + 40 < recursionLimit) (hun : unn + 400 < cLine)
    (hob : Obj.IsDictOf (strKind PySem.Challenge.rw_rr0095_01.row.prog w) oe pairs) (lo : (en == sysModules) = false) (hvA : valueAt pairs (Str.ofString "A") = some (.ref pA)) (hv : valueAt pairs name = some (.ref pi)) (sh : Shp parent pvs ds)
    (hQ : ∀ h' tk', Fr h₀ L h' m → News h₀ L h' ((sg, instObj 269 sd) :: (sd, dictOf (sgE3 w t1 t2 t3 en st op) 3) :: (en, oe) :: (pi, sigO spot u1 u2 u3 u4 pn ps e1 e2 parent) :: (ps, tupO pvs) :: (pA, sigO spotA v1 v2 v3 v4 pnA psA e1A e2A (Str.ofString "")) :: (psA, tupO []) :: own) → Q .none { s with heap := h', toks := tk' })
    :
    wpAny (model PySem.Challenge.rw_rr0095_01.row.prog w) (ktrTop dp unn gd cn ⟨.function, sn, sgn, sco, smo⟩ L a ccd cl outer) (call (.ref 130) [.ref sg, .str name tn]) Q E s := by
  have hkk : (envX cn ⟨.function, sn, sgn, sco, smo⟩ L a ccd cl).scope.kind = .function := rfl
  refine wpAny_call ?_
  k_dflt ktr_enter
  refine tok_gen fun tkA => ?_
  rename Fr _ _ _ _ => FE
  replace FE : Fr _ _ _ (bindFr [(Str.ofString "name", Value.str name tn), (Str.ofString "self", Value.ref sg)]) := FE
  (repeat' (first | (k_unfold; (try dsimp only)) | (k_end; wrow_close) | ((with_reducible show wpAny _ _ (compareOp CmpOp.NotIn (Value.str _ _) (Value.ref _)) _ _ _); (k_dflt (refine kdg_notin (knd := PySem.strKind _ _) (by k_asm) (by k_mem) (by k_asm) (by k_asm) (strKind_is _ _ _ _) true (by exact isSome_of (by assumption)) ?_))) | ((with_reducible show wpAny _ _ (exec (Stmt.For _ _ _ _ _) _) _ _ _); (k_dflt (refine For_own (by k_asm) (by rfl) (by rfl) ?_))) | ((with_reducible show wpAny _ _ (call (Value.ref 137) [Value.ref _, Value.str _ _]) _ _ _); k_dflt (refine direct_K (by k_asm) (by k_asm) (by k_asm) (by k_asm) (by k_asm) (by k_mem) (by k_mem) (by k_mem) (by assumption) (by k_mem) (by k_mem) (by ktr_room) (by ktr_units) (by k_asm) (by k_asm) (by assumption) ?_); intro _ _ _ _ _ _ _) | ((with_reducible show wpAny _ _ (subscriptTail _ _ (Value.ref _) (Value.int _ _)) _ _ _); k_dflt (refine item_tupleT (by exact News.isTup (by k_asm) (by k_mem)) (by decide) (by decide) (by rfl) (by rfl) ?_; k_whole)) | ((with_reducible show wpAny _ _ (getItem (Value.ref _) (Value.str _ _)) _ _ _); (k_dflt (refine getItem_str (by k_asm) (by k_mem) (by k_asm) (by assumption) ?_))) | walk1 | (dsimp only; walk1) | (leave1; walk_say "STEP leave1"; try dsimp only) | fail "no step"))
  rename StrsAre _ ds => hs9
  cases sh
  · cases hs9
    refine for_tup0 (by rfl) (by k_asm) (by k_asm) ?_
    intro h tk F' N'
    (repeat' (first | (k_unfold; (try dsimp only)) | (k_end; wrow_close) | ((with_reducible show wpAny _ _ (compareOp CmpOp.NotIn (Value.str _ _) (Value.ref _)) _ _ _); (k_dflt (refine kdg_notin (knd := PySem.strKind _ _) (by k_asm) (by k_mem) (by k_asm) (by k_asm) (strKind_is _ _ _ _) true (by exact isSome_of (by assumption)) ?_))) | ((with_reducible show wpAny _ _ (exec (Stmt.For _ _ _ _ _) _) _ _ _); (k_dflt (refine For_own (by k_asm) (by rfl) (by rfl) ?_))) | ((with_reducible show wpAny _ _ (call (Value.ref 137) [Value.ref _, Value.str _ _]) _ _ _); k_dflt (refine direct_K (by k_asm) (by k_asm) (by k_asm) (by k_asm) (by k_asm) (by k_mem) (by k_mem) (by k_mem) (by assumption) (by k_mem) (by k_mem) (by ktr_room) (by ktr_units) (by k_asm) (by k_asm) (by assumption) ?_); intro _ _ _ _ _ _ _) | ((with_reducible show wpAny _ _ (subscriptTail _ _ (Value.ref _) (Value.int _ _)) _ _ _); k_dflt (refine item_tupleT (by exact News.isTup (by k_asm) (by k_mem)) (by decide) (by decide) (by rfl) (by rfl) ?_; k_whole)) | ((with_reducible show wpAny _ _ (getItem (Value.ref _) (Value.str _ _)) _ _ _); (k_dflt (refine getItem_str (by k_asm) (by k_mem) (by k_asm) (by assumption) ?_))) | walk1 | (dsimp only; walk1) | (leave1; walk_say "STEP leave1"; try dsimp only) | fail "no step"))
    exact hQ _ _ (by k_asm) (News.perm (by k_asm) fun p hp => .tail _ hp)
  all_goals
    cases hs9 with | cons y t9 r => ?_
    cases r
    refine for_tup1 (by rfl) (by k_asm) (by k_asm) ?_
    intro h tk I oI l1 F' N'
    have l0 := fun p hp => l1 p (.tail _ hp)
    (try k_lt l1)
    (repeat' (first | (k_unfold; (try dsimp only)) | (k_end; wrow_close) | ((with_reducible show wpAny _ _ (compareOp CmpOp.NotIn (Value.str _ _) (Value.ref _)) _ _ _); (k_dflt (refine kdg_notin (knd := PySem.strKind _ _) (by k_asm) (by k_mem) (by k_asm) (by k_asm) (strKind_is _ _ _ _) true (by exact isSome_of (by assumption)) ?_))) | ((with_reducible show wpAny _ _ (exec (Stmt.For _ _ _ _ _) _) _ _ _); (k_dflt (refine For_own (by k_asm) (by rfl) (by rfl) ?_))) | ((with_reducible show wpAny _ _ (call (Value.ref 137) [Value.ref _, Value.str _ _]) _ _ _); k_dflt (refine direct_K (by k_asm) (by k_asm) (by k_asm) (by k_asm) (by k_asm) (by k_mem) (by k_mem) (by k_mem) (by assumption) (by k_mem) (by k_mem) (by ktr_room) (by ktr_units) (by k_asm) (by k_asm) (by assumption) ?_); intro _ _ _ _ _ _ _) | ((with_reducible show wpAny _ _ (subscriptTail _ _ (Value.ref _) (Value.int _ _)) _ _ _); k_dflt (refine item_tupleT (by exact News.isTup (by k_asm) (by k_mem)) (by decide) (by decide) (by rfl) (by rfl) ?_; k_whole)) | ((with_reducible show wpAny _ _ (getItem (Value.ref _) (Value.str _ _)) _ _ _); (k_dflt (refine getItem_str (by k_asm) (by k_mem) (by k_asm) (by assumption) ?_))) | walk1 | (dsimp only; walk1) | (leave1; walk_say "STEP leave1"; try dsimp only) | fail "no step"))
    refine turn_next (by k_asm) (by k_asm) ?_ ?_
    · exact off_of l0 rfl
    intro h tk F' N'
    (repeat' (first | (k_unfold; (try dsimp only)) | (k_end; wrow_close) | ((with_reducible show wpAny _ _ (compareOp CmpOp.NotIn (Value.str _ _) (Value.ref _)) _ _ _); (k_dflt (refine kdg_notin (knd := PySem.strKind _ _) (by k_asm) (by k_mem) (by k_asm) (by k_asm) (strKind_is _ _ _ _) true (by exact isSome_of (by assumption)) ?_))) | ((with_reducible show wpAny _ _ (exec (Stmt.For _ _ _ _ _) _) _ _ _); (k_dflt (refine For_own (by k_asm) (by rfl) (by rfl) ?_))) | ((with_reducible show wpAny _ _ (call (Value.ref 137) [Value.ref _, Value.str _ _]) _ _ _); k_dflt (refine direct_K (by k_asm) (by k_asm) (by k_asm) (by k_asm) (by k_asm) (by k_mem) (by k_mem) (by k_mem) (by assumption) (by k_mem) (by k_mem) (by ktr_room) (by ktr_units) (by k_asm) (by k_asm) (by assumption) ?_); intro _ _ _ _ _ _ _) | ((with_reducible show wpAny _ _ (subscriptTail _ _ (Value.ref _) (Value.int _ _)) _ _ _); k_dflt (refine item_tupleT (by exact News.isTup (by k_asm) (by k_mem)) (by decide) (by decide) (by rfl) (by rfl) ?_; k_whole)) | ((with_reducible show wpAny _ _ (getItem (Value.ref _) (Value.str _ _)) _ _ _); (k_dflt (refine getItem_str (by k_asm) (by k_mem) (by k_asm) (by assumption) ?_))) | walk1 | (dsimp only; walk1) | (leave1; walk_say "STEP leave1"; try dsimp only) | fail "no step"))
    exact hQ _ _ (by k_asm) (News.perm (by k_asm) fun p hp => .tail _ hp)
end
section
section
open LCg LCp
variable {prog : Program} {w : World} {A : Around} {E : Value → Shared → Prop} {s : Shared} {h₀ : Heap} {L : Addr} {m : Str → Option Value} {env : Env}
theorem block_ts {RR : Value → Addr → Result → Shared → Prop} {iter ct : Expr} {x : Str} {px pe : Pos} {scope : Scope} {cl : List (Str × Addr)} {pos : Pos} {s₁ : Shared} {ax : Addr} {news : List (Addr × Obj)} {vs : List Value} {xs : List Str} {f : Str → Bool}
    (hcell : ∀ y ∈ scope.names, y.2 ≠ .cell) (hkind : scope.kind = .function)
    (hx : scope.names.lookup x = some .local) (hd₂ : (x == ("__debug__" : Str)) = false)
    (hh : A.handled = none) (F : Fr h₀ L s₁.heap m) (N : News h₀ L s₁.heap news) (hax : (ax, tupO vs) ∈ news) (ps : StrsAre vs xs) (hlen : vs.length ≤ 1000)
    (test : ∀ o ∈ xs, ∀ t1 oI oC I C D ys m₂ h tk (E' : Value → Shared → Prop), NsObj oC m₂ → m₂ x = some (.str o t1) → Fr h₀ L h m → News h₀ L h ((I, oI) :: (C, oC) :: (D, lst ys) :: news) →
      wpAny (model prog w) A (isTrue ct (compEnvC scope cl C env) (eval ct (compEnvC scope cl C env))) (fun ok s' => ok = f o ∧ ∃ tk', s' = { s₁ with heap := h, toks := tk' }) E' { s₁ with heap := h, toks := tk })
    (hRR : ∀ D C ys h tk m', StrsAre ys (xs.filter f) → Fr h₀ L h m → News h₀ L h ((D, lst ys) :: news) → (∀ p ∈ news, p.1 < D) → @LT.lt Nat _ D C → h.Ns C m' → h₀.get? C = none → C ≠ L → RR (.ref D) C (.ok .next) { s₁ with heap := h, toks := tk }) :
    wpAny (model prog w) A (pyIter (.ref ax)) (fun it s₂ => wpAny (model prog w) A (newList []) (fun acc s₃ =>
      wpAny (model prog w) A (newFunctionEnv scope env.globals cl [] env.qual none .none (some env)) (fun cenv s₄ =>
        codeAny (model prog w) A (.compStart (.ListComp (.Name x pe) [⟨.Name x px, iter, [ct], 0⟩] scope pos) 0 it acc { cenv with scope := relabel scope env }) (RR acc cenv.locals) s₄) E s₃) E s₂) E s₁ := by
  have hl : s₁.heap.IsTuple ax vs.toArray := ⟨_, (N _ hax).1, rfl, _, rfl⟩
  have hlt : ax < s₁.heap.objs.size := Heap.lt_size (N _ hax).1
  refine wpAny_pyIter_tuple hl ?_
  generalize hI : s₁.heap.objs.size = I at *
  generalize hH1 : s₁.heap.push { cls := .type "tuple_iterator", data := .fields #[.ref ax, .int 0 0] } = H1
  have k1 : ∀ b o, s₁.heap.get? b = some o → H1.get? b = some o := fun b o e => hH1 ▸ Heap.get?_push_of_some _ e
  have z1 : H1.objs.size = I + 1 := by rw [← hH1, Heap.size_push, hI]
  have it1 : H1.IsTupleIter I ax 0 := ⟨_, hH1 ▸ hI ▸ Heap.get?_push_size _ rfl, rfl, rfl⟩
  refine wpAny_newObj_type (wpAny_newFunctionEnv hcell (by intro y hy; simp at hy) (fun h₁ hns₁ hsb₁ => ?_) hkind)
  dsimp only at hns₁ hsb₁ ⊢
  generalize hH2 : H1.push { cls := .type "list", dict := none, data := .seq ([] : List Value).toArray } = H2 at hns₁ hsb₁ ⊢
  rw [z1]
  have z2 : H2.objs.size = I + 2 := by rw [← hH2, Heap.size_push, z1]
  rw [z2] at hns₁ hsb₁ ⊢
  have k2 : ∀ b o, b < I + 2 → H1.get? b = some o → h₁.get? b = some o := fun b o hb e => hsb₁.extBut b o (Nat.ne_of_lt hb) (Heap.get?_push_of_some _ (hH2 ▸ Heap.get?_push_of_some _ e))
  have acc : h₁.get? (I + 1) = some (lst []) := hsb₁.extBut _ _ (Nat.ne_of_lt (Nat.lt_succ_self _)) (Heap.get?_push_of_some _ (hH2 ▸ z1 ▸ Heap.get?_push_size _ rfl))
  have low : ∀ b o, s₁.heap.get? b = some o → b < I := fun b o e => hI ▸ Heap.lt_size e
  have old : ∀ b o, s₁.heap.get? b = some o → h₁.get? b = some o := fun b o e => k2 b o (Nat.lt_of_lt_of_le (low b o e) (Nat.le_add_right _ 2)) (k1 b o e)
  have f0 : ∀ a, I ≤ a → h₀.get? a = none := fun a ha => by
    cases e : h₀.get? a with
    | none => rfl
    | some o => exact absurd (low a o (F.keep a o e)) (Nat.not_lt.mpr ha)
  have hL : L < I := hI ▸ F.ns.lt
  have apart : ∀ p ∈ news, p.1 < I := fun p hp => low _ _ (N p hp).1
  have haxI : @LT.lt Nat _ ax I := low _ _ (N _ hax).1
  have cL : I + 2 ≠ L := Nat.ne_of_gt (Nat.lt_of_lt_of_le hL (Nat.le_add_right _ 2))
  have W := Walks.tuple (prog := prog) (w := w) hh I ax (Nat.ne_of_lt hlt) vs.toArray
  have start : codeAny (model prog w) A (.compLoop (.ListComp (.Name x pe) [⟨.Name x px, iter, [ct], 0⟩] scope pos) 0 (.ref I) (.ref (I + 1)) (compEnvC scope cl (I + 2) env))
      (RR (.ref (I + 1)) (I + 2)) { s₁ with heap := h₁, toks := s₁.toks + ([] : List (Str × Value)).length } := by
    refine codeAny_compLoop_tests (fun j s' => ∃ h' t i ys m', s' = { s₁ with heap := h', toks := t } ∧ i ≤ vs.length ∧ j = vs.length + 1 - i ∧ StrsAre ys ((xs.take i).filter f) ∧ (h'.IsTupleIter I ax i ∧ h'.IsTuple ax vs.toArray) ∧
        Fr h₀ L h' m ∧ h'.Ns (I + 2) m' ∧ News h₀ L h' ((I + 1, lst ys) :: news)) ?_ (vs.length + 1)
      ⟨h₁, _, 0, [], _, rfl, Nat.zero_le _, rfl, by simpa using StrsAre.nil, ⟨it1.at fun o e => k2 _ o (by kpa_ne) e, hl.at fun o e => old _ o e⟩, F.keeps old, hns₁, fun p hp => ?_⟩
    · rintro j s' ⟨h', t, i, ys, m', rfl, hi, rfl, hys, st, F', hn', N'⟩
      have hIL : L ≠ I := Nat.ne_of_lt hL
      have off1 : ∀ p ∈ (I + 1, lst ys) :: news, p.1 ≠ I := fun p hp => by
        rcases List.mem_cons.mp hp with rfl | hp
        · exact Nat.ne_of_gt (Nat.lt_succ_self _)
        · exact Nat.ne_of_lt (apart p hp)
      have off2 : ∀ p ∈ (I + 1, lst ys) :: news, p.1 ≠ I + 2 := fun p hp => by
        rcases List.mem_cons.mp hp with rfl | hp
        · exact Nat.ne_of_lt (Nat.lt_succ_self _)
        · exact Nat.ne_of_lt (Nat.lt_of_lt_of_le (apart p hp) (Nat.le_add_right _ 2))
      by_cases hlt' : i < vs.length
      · refine W.item i _ _ _ (by simpa using hlt') st fun v h₂ t₂ hv st₂ hk₂ => ?_
        have hv' : vs[i]? = some v := by simpa using hv
        obtain ⟨o, t1, rfl, ho⟩ := ps.item i v hv'
        have F₂ := fr_but F' hk₂ hIL (f0 I (Nat.le_refl _))
        have N₂ := news_but N' hk₂ off1
        have hn₂ := hn'.at' fun o e => hk₂ (I + 2) o (by simp) e
        refine wpAny_assign_Name (wpAny_storeName_local (lookup_relabel_local hx) hn₂ (fun h₃ hn₃ hs₃ => ?_) (by simp [compEnvC, relabel, hkind]))
        refine wpAny_tests_one ?_
        have old3 : ∀ b o, b ≠ I + 2 → h₂.get? b = some o → h₃.get? b = some o := fun b o hb e => hs₃.extBut b o hb e
        have c0 : h₀.get? (I + 2) = none := f0 _ (Nat.le_add_right _ 2)
        have F₃ : Fr h₀ L h₃ m := F₂.change hs₃ cL c0
        have st₃ : h₃.IsTupleIter I ax (i + 1) ∧ h₃.IsTuple ax vs.toArray := ⟨st₂.1.at fun o e => old3 _ o (by kpa_ne) e, st₂.2.at fun o e => old3 _ o (by kpa_ne) e⟩
        obtain ⟨oI, heI, _⟩ := id st₃.1
        obtain ⟨oC, heC, hoC⟩ := ns_obj hn₃
        have N₃ : News h₀ L h₃ ((I, oI) :: (I + 2, oC) :: (I + 1, lst ys) :: news) := fun q hq => by
          rcases List.mem_cons.mp hq with rfl | hq
          · exact ⟨heI, Ne.symm hIL, f0 I (Nat.le_refl _)⟩
          rcases List.mem_cons.mp hq with rfl | hq
          · exact ⟨heC, cL, c0⟩
          · exact ⟨old3 _ _ (off2 q hq) (N₂ q hq).1, (N₂ q hq).2⟩
        have ot : xs.take (i + 1) = xs.take i ++ [o] := by simp [List.take_add_one, ho]
        refine wpAny_mono (test o (List.mem_of_getElem? ho) t1 oI oC I (I + 2) (I + 1) ys _ h₃ _ _ hoC (by simp) F₃ N₃) (fun ok s₄ h₄ => ?_) fun _ _ e => e
        obtain ⟨rfl, t₄, rfl⟩ := h₄
        cases hf : f o with
        | false =>
          simp only [Bool.false_eq_true, if_false]
          refine ⟨vs.length + 1 - (i + 1), by kpa_ne, h₃, _, i + 1, ys, _, rfl, hlt', rfl, ?_, st₃, F₃, hn₃, fun q hq => N₃ q (.tail _ (.tail _ hq))⟩
          rw [ot, List.filter_append, List.filter_cons_of_neg (by simp [hf]), List.filter_nil, List.append_nil]; exact hys
        | true =>
          simp only [if_true]
          refine LCgL.ld_own (m₂ := _) (oC := oC) N₃ (.tail _ (.head _)) hoC (if_pos rfl) ?_ hkind (lookup_relabel_local hx) hd₂
          refine append_at (hsz := by show ys.toArray.size ≤ sizeLine; rw [List.size_toArray, hys.length, sizeLine_eq]; have := List.length_filter_le f (xs.take i); have := List.length_take_le i xs; kpa_ne) (N₃ _ (.tail _ (.tail _ (.head _)))).1 fun h₅ hs₅ hD₅ => ?_
          have d0 : h₀.get? (I + 1) = none := f0 _ (Nat.le_succ _)
          have dL : I + 1 ≠ L := Nat.ne_of_gt (Nat.lt_succ_of_lt hL)
          refine ⟨vs.length + 1 - (i + 1), by kpa_ne, h₅, _, i + 1, ys ++ [.str o t1], _, rfl, hlt', rfl, ?_, ⟨st₃.1.at fun o e => hs₅.extBut I o (Nat.ne_of_lt (Nat.lt_succ_self I)) e, st₃.2.at fun o e => hs₅.extBut ax o (Nat.ne_of_lt (Nat.lt_succ_of_lt haxI)) e⟩, F₃.change hs₅ dL d0, hn₃.sameBut hs₅ (Nat.succ_ne_self (I + 1)), fun q hq => ?_⟩
          · rw [ot, List.filter_append, List.filter_cons_of_pos (by simp [hf]), List.filter_nil]
            exact strs_snoc hys
          · rcases List.mem_cons.mp hq with rfl | hq
            · exact ⟨hD₅.trans (congrArg some (lst_snoc ys _)), dL, d0⟩
            · exact ⟨hs₅.extBut _ _ (Nat.ne_of_lt (Nat.lt_succ_of_lt (apart q hq))) (N₃ q (.tail _ (.tail _ (.tail _ hq)))).1, (N q hq).2⟩
      · obtain rfl : i = vs.length := Nat.le_antisymm hi (Nat.not_lt.mp hlt')
        refine W.done _ _ _ (by simpa using st) fun h₂ t₂ hk₂ => ?_
        have F₂ := fr_but F' hk₂ hIL (f0 I (Nat.le_refl _))
        have N₂ := news_but N' hk₂ off1
        have hn₂ := hn'.at' fun o e => hk₂ (I + 2) o (by simp) e
        refine hRR (I + 1) (I + 2) ys h₂ _ m' ?_ F₂ N₂ (fun q hq => Nat.lt_succ_of_lt (apart q hq)) (Nat.lt_succ_self _) hn₂ (f0 _ (Nat.le_add_right _ 2)) cL
        rw [ps.length, List.take_length] at hys
        exact hys
    · rcases List.mem_cons.mp hp with rfl | hp
      · exact ⟨acc, Nat.ne_of_gt (Nat.lt_succ_of_lt hL), f0 _ (Nat.le_succ _)⟩
      · exact ⟨old _ _ (N p hp).1, (N p hp).2⟩
  exact codeAny_compStart_list start (W.self 0 _ _ _ ⟨it1.at fun o e => k2 _ o (by kpa_ne) e, hl.at fun o e => old _ o e⟩ start)
def SrcTS (prog : Program) (w : World) (A : Around) (h₀ : Heap) (L : Addr) (m : Str → Option Value) (env : Env) (ct : Expr) (x : Str) (scope : Scope) (cl : List (Str × Addr)) (Q : Value → Shared → Prop) (xv : Value) (s₁ : Shared) : Prop :=
  ∃ (ax : Addr) (news : List (Addr × Obj)) (vs : List Value) (xs : List Str) (f : Str → Bool), xv = .ref ax ∧ A.handled = none ∧ Fr h₀ L s₁.heap m ∧ News h₀ L s₁.heap news ∧ (ax, tupO vs) ∈ news ∧ StrsAre vs xs ∧ vs.length ≤ 1000 ∧
    (∀ o ∈ xs, ∀ t1 oI oC I C D ys m₂ h tk (E' : Value → Shared → Prop), NsObj oC m₂ → m₂ x = some (.str o t1) → Fr h₀ L h m → News h₀ L h ((I, oI) :: (C, oC) :: (D, lst ys) :: news) →
      wpAny (model prog w) A (isTrue ct (compEnvC scope cl C env) (eval ct (compEnvC scope cl C env))) (fun ok s' => ok = f o ∧ ∃ tk', s' = { s₁ with heap := h, toks := tk' }) E' { s₁ with heap := h, toks := tk }) ∧
    (∀ D ys h tk, StrsAre ys (xs.filter f) → Fr h₀ L h m → News h₀ L h ((D, lst ys) :: news) → (∀ p ∈ news, p.1 < D) → Q (.ref D) { s₁ with heap := h, toks := tk })
theorem comp_ts {iter ct : Expr} {x : Str} {px pe : Pos} {scope : Scope} {cl : List (Str × Addr)} {pos : Pos} {Q : Value → Shared → Prop} (_F₀ : Fr h₀ L s.heap m)
    (hclos : closureFor scope env = pure cl) (hcell : ∀ y ∈ scope.names, y.2 ≠ .cell) (hkind : scope.kind = .function)
    (hnames : ∀ y ∈ scope.names, y.2 = .local → scope.names.lookup y.1 = some .local) (hx : scope.names.lookup x = some .local) (hd₂ : (x == ("__debug__" : Str)) = false)
    (h : wpAny (model prog w) A (eval iter env) (SrcTS prog w A h₀ L m env ct x scope cl Q) E s)
    (hs : ∀ x, foldedSetIterable iter env x = pure x := by intro _; rfl) :
    wpAny (model prog w) A (eval (.ListComp (.Name x pe) [⟨.Name x px, iter, [ct], 0⟩] scope pos) env) Q E s := by
  rw [eval_ListComp]
  refine wpAny_comprehension_free (use := none) rfl hs hclos hkind hnames (wpAny_mono h (fun xv s₁ h₁ => ?_) fun _ _ e => e)
  obtain ⟨ax, news, vs, xs, f, rfl, hh, F, N, hax, ps, hlen, test, fin⟩ := h₁
  exact block_ts hcell hkind hx hd₂ hh F N hax ps hlen test fun D C ys h tk m' hys F' N' lt dc hn c0 cL => by
    refine ⟨m', hn, fun h'' hs'' => fin D ys h'' tk hys (F'.change hs'' cL c0) (fun q hq => ⟨hs''.extBut _ _ ?_ (N' q hq).1, (N' q hq).2⟩) lt⟩
    rcases List.mem_cons.mp hq with rfl | hq
    · exact Nat.ne_of_lt dc
    · exact Nat.ne_of_lt (Nat.lt_trans (lt q hq) dc)
end
end
section
theorem strs_eraseIdx : ∀ {vs : List Value} {xs : List Str} (j : Nat), StrsAre vs xs → StrsAre (vs.eraseIdx j) (xs.eraseIdx j)
  | _, _, _, .nil => .nil
  | _, _, 0, .cons _ _ r => r
  | _, _, j + 1, .cons y t r => .cons y t (strs_eraseIdx j r)
theorem isStr_at {k : Str} : ∀ {vs : List Value} {xs : List Str}, StrsAre vs xs → ∀ (i : Nat) (hi : i < vs.length) (hj : i < xs.length), isStrOf k vs[i] = (xs[i] == k)
  | _, _, .cons y t r, 0, _, _ => rfl
  | _, _, .cons y t r, i + 1, hi, hj => isStr_at r i (Nat.lt_of_succ_lt_succ hi) (Nat.lt_of_succ_lt_succ hj)
theorem strs_remove {prog : Program} {w : World} {A : Around} {E : Value → Shared → Prop} {s : Shared} {h₀ : Heap} {L D : Addr} {m : Str → Option Value} {news : List (Addr × Obj)} {gN : Obj → List (Addr × Obj)} {vs : List Value} {xs : List Str} {n : Nat} {k : Str} {t : Tok} {Q : Value → Shared → Prop}
    (F : Fr h₀ L s.heap m) (N : News h₀ L s.heap news) (U : UpdF D (PySem.W.listOf vs.toArray n) news gN) (hi : StrsAre vs xs) (hk : k ∈ xs) (hz : vs.length ≤ 1000)
    (h : ∀ h' vs', StrsAre vs' (xs.erase k) → vs'.length ≤ 1000 → Fr h₀ L h' m → News h₀ L h' (gN (PySem.W.listOf vs'.toArray (n + 1))) → Q .none { s with heap := h' }) :
    wpAny (model prog w) A (call (.builtin "list.remove") [.ref D, .str k t]) Q E s := by
  obtain ⟨pre, post, rfl, hg, a', b'⟩ := U.split
  have z := N (D, PySem.W.listOf vs.toArray n) (List.mem_append.mpr (.inr (.head _)))
  have hj : xs.idxOf k < xs.length := List.idxOf_lt_length_iff.mpr hk
  have hl := hi.length
  have hjv : xs.idxOf k < vs.length := by kpa_ne
  refine call_meets PySem.F.slot_list_remove ⟨_, z.1, rfl⟩ PySem.F.entry_list_remove (PySem.F.args_list_remove_2 _ _)
    (MeetsSeq.list_remove D vs.toArray n (.str k t) (isStrOf k) (fun y hy => eq_isStrOf k t hi y (by simpa using hy)) (xs.idxOf k) (by simpa using hjv) ?_ ?_ (by rw [List.size_toArray, sizeLine_eq]; kpa_ne)) ⟨z.1, ?_⟩
  · have := isStr_at (k := k) hi (xs.idxOf k) hjv hj
    simp only [List.getElem_toArray]
    rw [this, List.getElem_idxOf]; simp
  · intro i hi' hlt
    have hi2 : i < vs.length := by simpa using hi'
    have := isStr_at (k := k) hi i hi2 (by kpa_ne)
    simp only [List.getElem_toArray]
    rw [this]
    have := List.not_of_lt_findIdx (p := (· == k)) (xs := xs) (i := i) (by simpa [List.idxOf] using hlt)
    simpa using this
  · refine h _ (vs.eraseIdx (xs.idxOf k)) ?_ ?_ (F.change (Heap.SameBut.update ..) z.2.1 z.2.2) (hg _ ▸ ki_turn _ N a' b' ?_ ?_)
    · rw [show xs.erase k = xs.eraseIdx (xs.idxOf k) from List.erase_eq_eraseIdx_of_idxOf rfl]
      exact strs_eraseIdx _ hi
    · have := List.length_eraseIdx_le vs (xs.idxOf k); kpa_ne
    · show vs.toArray.eraseIdxIfInBounds (xs.idxOf k) = _
      simp
    · have : (vs.eraseIdx (xs.idxOf k)).length ≠ vs.length := by rw [List.length_eraseIdx_of_lt hjv]; kpa_ne
      rw [if_neg (by simpa using this)]
section
variable {prog : Program} {w : World} {A : Around} {E : Value → Shared → Prop} {s : Shared} {env : Env} {h₀ : Heap} {L : Addr} {Q : Flow → Shared → Prop}
def LapEnd (h₀ : Heap) (L : Addr) (x : Str) (m₀ : Str → Option Value) (J : Nat → List (Addr × Obj) → Prop) (n : Nat) (s : Shared) (f : Flow) (s₃ : Shared) : Prop :=
  f = .next ∧ ∃ h' tk' av' nw' n', s₃ = { s with heap := h', toks := tk' } ∧ Fr h₀ L h' (fun y => if y = x then av' else m₀ y) ∧ News h₀ L h' nw' ∧ n' < n ∧ J n' nw'
theorem lap_end {x : Str} {m₀ : Str → Option Value} {J : Nat → List (Addr × Obj) → Prop} {n n' : Nat} {h' : Heap} {tk' : Nat} {v av : Option Value} {nw' : List (Addr × Obj)} (F : Fr h₀ L h' (fun y => if y = x then v else if y = x then av else m₀ y)) (N : News h₀ L h' nw') (hn : n' < n) (j : J n' nw') :
    LapEnd h₀ L x m₀ J n s .next { s with heap := h', toks := tk' } := by
  refine ⟨rfl, h', tk', v, nw', n', rfl, ?_, N, hn, j⟩
  have e : (fun y => if y = x then v else if y = x then av else m₀ y) = fun y => if y = x then v else m₀ y := by
    funext y; by_cases h : y = x <;> simp [h]
  exact e ▸ F
theorem while_fr {test : Expr} {body : List Stmt} {pos : Pos} {m₀ : Str → Option Value} {news : List (Addr × Obj)} {n₀ : Nat} (x : Str) (J : Nat → List (Addr × Obj) → Prop) (F : Fr h₀ L s.heap m₀) (N : News h₀ L s.heap news) (hJ : J n₀ news)
    (turn : ∀ n av nw h tk, Fr h₀ L h (fun y => if y = x then av else m₀ y) → News h₀ L h nw → J n nw →
      wpAny (model prog w) A (isTrue test env (eval test env)) (fun b s₂ => if b = true then wpAny (model prog w) A (execs body env) (LapEnd h₀ L x m₀ J n s) E s₂ else Q .next s₂) E { s with heap := h, toks := tk })
    (hE : PassesOwn (model prog w) A env E := by passes_own) : wpAny (model prog w) A (exec (.While test body [] pos) env) Q E s := by
  refine While_inv (fun n m nw => (∃ av, m = fun y => if y = x then av else m₀ y) ∧ J n nw) F N ⟨⟨m₀ x, by funext y; by_cases h : y = x <;> simp [h]⟩, hJ⟩ (fun n m nw h tk F' N' hj => ?_) hE
  obtain ⟨⟨av, rfl⟩, hj⟩ := hj
  refine wpAny_mono (turn n av nw h tk F' N' hj) (fun b s₂ z => ?_) fun _ _ z => z
  cases b with
  | false => exact z
  | true =>
    simp only [if_true] at z ⊢
    refine wpAny_mono z (fun f s₃ y => ?_) fun _ _ z => z
    obtain ⟨rfl, h', tk', av', nw', n', rfl, F2, N2, hn, j⟩ := y
    exact ⟨rfl, h', tk', _, nw', n', rfl, F2, N2, hn, ⟨av', rfl⟩, j⟩
end
end
section
section
open LCg LCt
variable {prog : Program} {w : World} {A : Around} {E : Value → Shared → Prop} {s : Shared} {h₀ : Heap} {L : Addr} {m : Str → Option Value} {env : Env}
theorem rest_T {ct : Expr} {x : Str} {px : Pos} {scope : Scope} {cl : List (Str × Addr)} {S : List (Addr × Obj) → Prop} {Fin : List Value → List (Addr × Obj) → Prop} {rvs : List Value} {R : List Str} {its : Array Value} {news : List (Addr × Obj)} {f : Str → Bool}
    (hi : its = rvs.toArray) (hR : StrsAre rvs R) (hS : S news) (hf : ∀ ys, StrsAre ys (R.filter f) → Fin ys news)
    (test : ∀ o ∈ R, ∀ t1 I oI C oC D oD m₂ h tk (E' : Value → Shared → Prop), NsObj oC m₂ → m₂ x = some (.str o t1) → Fr h₀ L h m → News h₀ L h ((I, oI) :: (C, oC) :: (D, oD) :: news) → Off3 I C D news → ((@Ne Nat I C) ∧ (@Ne Nat I D) ∧ (@Ne Nat C D)) →
      wpAny (model prog w) A (isTrue ct (compEnvC scope cl C env) (eval ct (compEnvC scope cl C env))) (fun ok s' => ok = f o ∧ ∃ h' tk', s' = { s with heap := h', toks := tk' } ∧ Fr h₀ L h' m ∧ News h₀ L h' ((I, oI) :: (C, oC) :: (D, oD) :: news)) E' { s with heap := h, toks := tk })
    (hk : (compEnvC scope cl 0 env).scope.kind = .function) (hl : (compEnvC scope cl 0 env).kindOf x = some .local) (hd : (x == ("__debug__" : Str)) = false) :
    CompRestT prog w A h₀ L m env ct (.Name x px) x scope cl s S (fun i v => its[i]? = some v) Fin its.size 0 [] news := by
  subst hi
  have main : ∀ k i ys, i + k = rvs.length → StrsAre ys ((R.take i).filter f) → CompRestT prog w A h₀ L m env ct (.Name x px) x scope cl s S (fun i v => rvs.toArray[i]? = some v) Fin k i ys news := by
    intro k
    induction k with
    | zero =>
      intro i ys e hy
      have e' : i = rvs.length := by kpa_ne
      rw [e', hR.length, List.take_length] at hy
      exact CompRestT.zero (hf ys hy)
    | succ k ih =>
      intro i ys e hy
      refine CompRestT.succ fun v I oI C oC D m₂ h tk E' hv hC hx F N off ne => ?_
      have hv' : rvs[i]? = some v := by simpa using hv
      obtain ⟨o, t1, rfl, ho⟩ := hR.item i v hv'
      have ot : R.take (i + 1) = R.take i ++ [o] := by simp [List.take_add_one, ho]
      refine wpAny_mono (test o (List.mem_of_getElem? ho) t1 I oI C oC D _ m₂ h tk E' hC hx F N off ne) (fun ok s' z => ?_) fun _ _ z => z
      obtain ⟨rfl, h', tk', rfl, F', N'⟩ := z
      cases hfo : f o with
      | true =>
        simp only [if_true]
        refine LCgL.ld_own (m₂ := m₂) (oC := oC) N' (.tail _ (.head _)) hC hx ?_ hk hl hd
        refine CompEnd.intro F' N' news (fun _ h => h) off hS (ih (i + 1) _ (by kpa_ne) ?_)
        rw [ot, List.filter_append, List.filter_cons_of_pos (by simp [hfo]), List.filter_nil]
        exact strs_snoc hy
      | false =>
        simp only [Bool.false_eq_true, if_false]
        refine CompEnd.intro F' N' news (fun _ h => h) off hS (ih (i + 1) _ (by kpa_ne) ?_)
        rw [ot, List.filter_append, List.filter_cons_of_neg (by simp [hfo]), List.filter_nil, List.append_nil]
        exact hy
  exact main _ 0 [] (by simp) .nil
end
end
section
def All2 {α β : Type} (R : α → β → Prop) : List α → List β → Prop
  | [], [] => True
  | a :: as, b :: bs => R a b ∧ All2 R as bs
  | _, _ => False
namespace All2
variable {α β : Type} {R S : α → β → Prop}
theorem length : ∀ {as : List α} {bs : List β}, All2 R as bs → as.length = bs.length
  | [], [], _ => rfl
  | _ :: _, _ :: _, h => congrArg (· + 1) (length h.2)
theorem get : ∀ {as : List α} {bs : List β} {i : Nat} {a : α}, All2 R as bs → as[i]? = some a → ∃ b, bs[i]? = some b ∧ R a b
  | a :: _, b :: _, 0, _, h, e => by cases e; exact ⟨b, rfl, h.1⟩
  | _ :: as, _ :: bs, i + 1, _, h, e => get (as := as) (bs := bs) (i := i) h.2 e
theorem mono (s : ∀ a b, R a b → S a b) : ∀ {as : List α} {bs : List β}, All2 R as bs → All2 S as bs
  | [], [], _ => trivial
  | _ :: _, _ :: _, h => ⟨s _ _ h.1, mono s h.2⟩
theorem append : ∀ {as : List α} {bs : List β} {cs : List α} {ds : List β}, All2 R as bs → All2 R cs ds → All2 R (as ++ cs) (bs ++ ds)
  | [], [], _, _, _, k => k
  | _ :: _, _ :: _, _, _, h, k => ⟨h.1, append h.2 k⟩
theorem snoc {as : List α} {bs : List β} {a : α} {b : β} (h : All2 R as bs) (k : R a b) : All2 R (as ++ [a]) (bs ++ [b]) := append h ⟨k, trivial⟩
theorem left_mem : ∀ {as : List α} {bs : List β} {a : α}, All2 R as bs → a ∈ as → ∃ b, b ∈ bs ∧ R a b
  | _ :: _, b :: _, _, h, .head _ => ⟨b, .head _, h.1⟩
  | _ :: as, _ :: bs, _, h, .tail _ m => by
    obtain ⟨b, hb, r⟩ := left_mem (as := as) (bs := bs) h.2 m
    exact ⟨b, .tail _ hb, r⟩
theorem map_right {γ : Type} {f : β → γ} {T : α → γ → Prop} (s : ∀ a b, R a b → T a (f b)) : ∀ {as : List α} {bs : List β}, All2 R as bs → All2 T as (bs.map f)
  | [], [], _ => trivial
  | _ :: _, _ :: _, h => ⟨s _ _ h.1, map_right s h.2⟩
theorem tail : ∀ {a : α} {as : List α} {bs : List β}, All2 R (a :: as) bs → ∃ b bs', bs = b :: bs' ∧ R a b ∧ All2 R as bs'
  | _, _, b :: bs, h => ⟨b, bs, rfl, h.1, h.2⟩
end All2
def four : List Str := [Str.ofString "A", Str.ofString "B", Str.ofString "C", Str.ofString "D"]
def dOf (x : Str) : List Str := if x = Str.ofString "B" ∨ x = Str.ofString "C" then [Str.ofString "A"] else []
/-- the ledger bears at v the signature x -/
def SigV (led : List (Addr × Obj)) (v : Value) (x : Str) : Prop :=
  ∃ pi pn ps e1 e2 spot u1 u2 u3 u4 un parent pvs, v = .ref pi ∧ (pi, sigO spot u1 u2 u3 u4 pn ps e1 e2 parent) ∈ led ∧ (pn, tupO [.str x un]) ∈ led ∧ (ps, tupO pvs) ∈ led ∧ (e1, tupO []) ∈ led ∧ Shp parent pvs (dOf x)
theorem SigV.mono {led led' : List (Addr × Obj)} (s : ∀ p ∈ led, p ∈ led') {v : Value} {x : Str} (h : SigV led v x) : SigV led' v x := by
  obtain ⟨pi, pn, ps, e1, e2, spot, u1, u2, u3, u4, un, parent, pvs, e, a, b, c, d, k⟩ := h
  exact ⟨pi, pn, ps, e1, e2, spot, u1, u2, u3, u4, un, parent, pvs, e, s _ a, s _ b, s _ c, s _ d, k⟩
theorem SigV.ch {led : List (Addr × Obj)} {v : Value} {x : Str} (h : SigV led v x) (CC : Prop) (k : ∀ pi pn ps e1 e2 spot u1 u2 u3 u4 un parent pvs, v = .ref pi → (pi, sigO spot u1 u2 u3 u4 pn ps e1 e2 parent) ∈ led → (pn, tupO [.str x un]) ∈ led → (ps, tupO pvs) ∈ led → (e1, tupO []) ∈ led → Shp parent pvs (dOf x) → CC) : CC := by
  obtain ⟨pi, pn, ps, e1, e2, spot, u1, u2, u3, u4, un, parent, pvs, e, a, b, c, d, j⟩ := h
  exact k pi pn ps e1 e2 spot u1 u2 u3 u4 un parent pvs e a b c d j
/-- an order's data -/
structure OpD where
  spot : Int
  module : Str
  args : List Str
  (alias : Str)
/-- the ledger bears at v the order d -/
def OpenV (led : List (Addr × Obj)) (v : Value) (d : OpD) : Prop :=
  ∃ ai aa u1 u2 u3 u4 avs, v = .ref ai ∧ (ai, tupO [.str (Str.ofString "open") u1, .int d.spot u2, .str d.module u3, .ref aa, .str d.alias u4]) ∈ led ∧ (aa, tupO avs) ∈ led ∧ StrsAre avs d.args
theorem OpenV.mono {led led' : List (Addr × Obj)} (s : ∀ p ∈ led, p ∈ led') {v : Value} {d : OpD} (h : OpenV led v d) : OpenV led' v d := by
  obtain ⟨ai, aa, u1, u2, u3, u4, avs, e, a, b, c⟩ := h
  exact ⟨ai, aa, u1, u2, u3, u4, avs, e, s _ a, s _ b, c⟩
theorem OpenV.ch {led : List (Addr × Obj)} {v : Value} {d : OpD} (h : OpenV led v d) (CC : Prop) (k : ∀ ai aa u1 u2 u3 u4 avs, v = .ref ai → (ai, tupO [.str (Str.ofString "open") u1, .int d.spot u2, .str d.module u3, .ref aa, .str d.alias u4]) ∈ led → (aa, tupO avs) ∈ led → StrsAre avs d.args → CC) : CC := by
  obtain ⟨ai, aa, u1, u2, u3, u4, avs, e, a, b, c⟩ := h
  exact k ai aa u1 u2 u3 u4 avs e a b c
inductive It where
  | sig (x : Str)
  | opn (d : OpD)
def ItV (led : List (Addr × Obj)) (v : Value) : It → Prop
  | .sig x => SigV led v x
  | .opn d => OpenV led v d
theorem ItV.mono {led led' : List (Addr × Obj)} (s : ∀ p ∈ led, p ∈ led') {v : Value} : ∀ {i : It}, ItV led v i → ItV led' v i
  | .sig _, h => SigV.mono s h
  | .opn _, h => OpenV.mono s h
def OpD.Ok (d : OpD) : Prop := ItemOk d.module d.args d.alias
def sigNames : List It → List Str
  | [] => []
  | .sig x :: r => x :: sigNames r
  | .opn _ :: r => sigNames r
def opensOf : List It → List OpD
  | [] => []
  | .sig _ :: r => opensOf r
  | .opn d :: r => d :: opensOf r
theorem sigNames_append : ∀ (a b : List It), sigNames (a ++ b) = sigNames a ++ sigNames b
  | [], _ => rfl
  | .sig x :: r, b => congrArg (x :: ·) (sigNames_append r b)
  | .opn _ :: r, b => sigNames_append r b
theorem opensOf_append : ∀ (a b : List It), opensOf (a ++ b) = opensOf a ++ opensOf b
  | [], _ => rfl
  | .sig _ :: r, b => opensOf_append r b
  | .opn d :: r, b => congrArg (d :: ·) (opensOf_append r b)
theorem sigNames_sigs : ∀ (xs : List Str), sigNames (xs.map It.sig) = xs
  | [] => rfl
  | x :: r => congrArg (x :: ·) (sigNames_sigs r)
theorem opensOf_sigs : ∀ (xs : List Str), opensOf (xs.map It.sig) = []
  | [] => rfl
  | _ :: r => opensOf_sigs r
/-- the four names, each once -/
def Fours (xs : List Str) : Prop := xs.Nodup ∧ (∀ x, x ∈ xs ↔ x ∈ four) ∧ xs.length = 4
def takeOne (os : List (Str × Str)) (d : OpD) : Option (List (Str × Str)) :=
  if lawTakes os d.module d.args d.alias = true then some (os ++ [(ordName d.alias, d.args.headD (Str.ofString ""))]) else none
/-- the orders told one behind the other: those taken, or the spot of the first refused -/
def runOpens : List (Str × Str) → List OpD → Except Int (List (Str × Str))
  | os, [] => .ok os
  | os, d :: r => match takeOne os d with
    | none => .error d.spot
    | some os' => runOpens os' r
end
section
variable {VV : Program} {loo : List Str}
def SigAt (own : List (Addr × Obj)) (pairs : List (Str × Value)) (x : Str) : Prop := ∃ v, valueAt pairs x = some v ∧ SigV own v x
theorem SigAt.ch {own : List (Addr × Obj)} {pairs : List (Str × Value)} {x : Str} (h : SigAt own pairs x) (CC : Prop) (k : ∀ v, valueAt pairs x = some v → ∀ pi pn ps e1 e2 spot u1 u2 u3 u4 un parent pvs, v = .ref pi → (pi, sigO spot u1 u2 u3 u4 pn ps e1 e2 parent) ∈ own → (pn, tupO [.str x un]) ∈ own → (ps, tupO pvs) ∈ own → (e1, tupO []) ∈ own → Shp parent pvs (dOf x) → CC) : CC := by
  obtain ⟨v, e, h⟩ := h
  exact SigV.ch h CC (k v e)
def WhileHere (P : Prop) : Prop := P
theorem while_mark {M : Model} {α : Type} {A : Around} {t : Sem α} {Q : α → Shared → Prop} {E : Value → Shared → Prop} {s : Shared} (h : WhileHere (wpAny M A t Q E s)) : wpAny M A t Q E s := h
theorem found_eq {prog : Program} {w : World} {A : Around} {E : Value → Shared → Prop} {s : Shared} {h₀ : Heap} {L a b : Addr} {news : List (Addr × Obj)} {ys : List Value} {xs : List Str} {Q : Value → Shared → Prop} (N : News h₀ L s.heap news) (ma : (a, LCg.lst ys) ∈ news) (mb : (b, PySem.W.listOf #[] 0) ∈ news) (Sy : StrsAre ys xs)
    (ok : ∀ d ∈ xs.map Dat.str, kqdOk 8 d = true) (hu : A.units + 64 < cLine) (h : Q (.bool xs.isEmpty) s) : wpAny (model prog w) A (compareOp .Eq (.ref a) (.ref b)) Q E s := by
  refine kqd_eq N ma rfl rfl (strs_dat Sy) (fun _ h => nomatch h) mb rfl (ys := []) rfl (es := []) (n₂ := []) .nil (fun _ h => nomatch h) ok (fun _ h => nomatch h) hu ?_
  have e : ∀ i : Decidable (xs.map Dat.str = []), @decide _ i = xs.isEmpty := fun i => by cases xs <;> simp
  exact (e _).symm ▸ h
theorem dOf_ok {f : Str → Bool} (o : Str) : ∀ d ∈ ((dOf o).filter f).map Dat.str, kqdOk 8 d = true := by
  have : dOf o = [] ∨ dOf o = [Str.ofString "A"] := by unfold dOf; split <;> simp
  intro d hd
  obtain ⟨x, hx, rfl⟩ := List.mem_map.mp hd
  have hx := (List.mem_filter.mp hx).1
  rcases this with e | e <;> rw [e] at hx
  · cases hx
  · obtain rfl := List.mem_singleton.mp hx
    decide +kernel
section
variable {prog : Program} {w : World} {A : Around} {E : Value → Shared → Prop} {s : Shared} {h₀ : Heap} {L D : Addr} {news : List (Addr × Obj)} {v : Value} {ys : List Value} {Q : Value → Shared → Prop}
theorem len_lst (N : News h₀ L s.heap news) (hm : (D, LCg.lst (v :: ys)) ∈ news) (hl : (v :: ys).length ≤ 1000) (h : Q (.int ((ys.length : Int) + 1) (s.toks + 1)) { s with toks := s.toks + 1 + 1 }) : wpAny (model prog w) A (call (.builtin "len") [.ref D]) Q E s := by
  refine len_list (items := (v :: ys).toArray) (isList_of N hm) (by rw [List.size_toArray]; kpa_ne) ?_
  rw [List.size_toArray, List.length_cons]; exact h
theorem item0_lst {value slice : Expr} {u : Tok} (N : News h₀ L s.heap news) (hm : (D, LCg.lst (v :: ys)) ∈ news) (h : Q v s)
    (hs : subscripted slice false (.ref D) (.int 0 u) = operate [.ref D, .int 0 u] (getItem (.ref D) (.int 0 u))) (hg : ∀ r, letTemporaryGo value (.ref D) r = pure ()) : wpAny (model prog w) A (subscriptTail value slice (.ref D) (.int 0 u)) Q E s :=
  item_listL (l := v :: ys) (isList_of N hm) (by decide) (by decide) rfl h hs hg
end
theorem eq_succ0 {prog : Program} {w : World} {A : Around} {E : Value → Shared → Prop} {s : Shared} {n : Nat} {t u : Tok} {Q : Value → Shared → Prop} (h : Q (.bool false) s) : wpAny (model prog w) A (compareOp .Eq (.int ((n : Int) + 1) t) (.int 0 u)) Q E s := by
  refine eq_int ?_
  have e : (((n : Int) + 1) == 0) = false := by simp; kpa_ne
  rw [e]; exact h
theorem dOf_two (o : Str) : dOf o = [] ∨ dOf o = [Str.ofString "A"] := by unfold dOf; split <;> simp
theorem able_some {Fs R : List Str} (h0 : 0 < R.length) (hA : Str.ofString "A" ∈ Fs ∨ Str.ofString "A" ∈ R) : ∃ y r, (R.filter fun o => ((dOf o).filter fun y => !Fs.any fun x => x == y).isEmpty) = y :: r := by
  have : ∃ y, y ∈ R.filter fun o => ((dOf o).filter fun y => !Fs.any fun x => x == y).isEmpty := by
    rcases hA with h | h
    · obtain ⟨o, r, rfl⟩ : ∃ o r, R = o :: r := by cases R with | nil => cases h0 | cons o r => exact ⟨o, r, rfl⟩
      refine ⟨o, List.mem_filter.mpr ⟨.head _, ?_⟩⟩
      rcases dOf_two o with e | e <;> rw [e]
      · rfl
      · have : (Fs.any fun x => x == Str.ofString "A") = true := List.any_eq_true.mpr ⟨_, h, by simp⟩
        simp [this]
    · refine ⟨_, List.mem_filter.mpr ⟨h, ?_⟩⟩
      have : dOf (Str.ofString "A") = [] := by decide
      rw [this]; rfl
  obtain ⟨y, hy⟩ := this
  generalize R.filter _ = l at hy
  cases l with
  | nil => cases hy
  | cons y r => exact ⟨y, r, rfl⟩
theorem filter_head {R : List Str} {f : Str → Bool} {y : Str} {r : List Str} (e : R.filter f = y :: r) : y ∈ R ∧ f y = true := by
  have : y ∈ R.filter f := e ▸ .head _
  exact List.mem_filter.mp this
theorem dOf_len (o : Str) : (dOf o).length ≤ 1 := by unfold dOf; split <;> simp
set_option maxHeartbeats 0 in
theorem parents_spec {w : World} {mean : ExcName → Option Value} {mg mb : Str → Option Value} {dp unn : Nat} {gd : Option (List Code)} {cn : Str} {sn : List (Str × NameKind)} {sgn sco : Bool} {smo : List (Str × Const)} {a : Addr} {ccd : Value} {cl : List (Str × Addr)} {outer : List Env} {A₀ : Around} {base h₀ : Heap} {L : Addr} {m : Str → Option Value} {own : List (Addr × Obj)} {s : Shared} {Q E : Value → Shared → Prop}
    {sg sd en st op : Addr} {oe : Obj} {t1 t2 t3 : Tok} {pairs : List (Str × Value)} {svs : List Value} {ns : List Str} {k : Nat}
    (B : Below A₀ base outer h₀) (F : Fr h₀ L s.heap m) (X : (K39 w.params).In h₀)
    (N : News h₀ L s.heap ((sg, instObj 269 sd) :: (sd, dictOf (sgE3 w t1 t2 t3 en st op) 3) :: (en, oe) :: (st, PySem.W.listOf svs.toArray k) :: own))
    (T : Top VV loo mean mg mb h₀)
    (hdp : dp + 60 < recursionLimit) (hun : unn + 600 < cLine)
    (hob : Obj.IsDictOf (strKind PySem.Challenge.rw_rr0095_01.row.prog w) oe pairs) (lo : (en == sysModules) = false) (hsv : StrsAre svs ns) (hsl : svs.length ≤ 4) (hall : ∀ x ∈ ns, x ∈ four) (hA : Str.ofString "A" ∈ ns) (hsig : ∀ x ∈ four, SigAt own pairs x)
    (hQ : ∀ fl Fs fvs kf h' tk', Fr h₀ L h' m → News h₀ L h' ((fl, PySem.W.listOf fvs.toArray kf) :: (sg, instObj 269 sd) :: (sd, dictOf (sgE3 w t1 t2 t3 en st op) 3) :: (en, oe) :: (st, PySem.W.listOf svs.toArray k) :: own) → StrsAre fvs Fs → Fs.length ≤ 4 → (∀ x ∈ Fs, x ∈ four) →
      (@LT.lt Nat _ sg fl ∧ @LT.lt Nat _ sd fl ∧ @LT.lt Nat _ en fl ∧ @LT.lt Nat _ st fl ∧ AllLt fl own) → Q (.ref fl) { s with heap := h', toks := tk' })
    :
    wpAny (model PySem.Challenge.rw_rr0095_01.row.prog w) (ktrTop dp unn gd cn ⟨.function, sn, sgn, sco, smo⟩ L a ccd cl outer) (call (.ref 142) [.ref sg]) Q E s := by
  have hkk : (envX cn ⟨.function, sn, sgn, sco, smo⟩ L a ccd cl).scope.kind = .function := rfl
  (refine wpAny_call ?_; k_enter)
  have hlow := (‹@LT.lt Nat _ sg _ ∧ _ ∧ _ ∧ _ ∧ AllLt _ own›).2.2.2.2
  have hlow1 := allLt_succ hlow
  have hlow2 := allLt_succ hlow1
  (repeat' (first | (k_unfold; (try dsimp only)) | (k_end; wrow_close) | ((with_reducible show wpAny _ _ (call (Value.builtin "list.remove") _) _ _ _); (k_dflt (refine strs_remove (by k_asm) (by k_asm) (by k_updF) (by assumption) (by assumption) (by assumption) ?_); intro _ _ _ _ _ q09; (try dsimp only at q09); revert q09; intro _)) | ((with_reducible show wpAny _ _ (compareOp CmpOp.Eq (Value.int _ _) (Value.int _ _)) _ _ _); (k_dflt (refine eq_succ0 ?_))) | ((with_reducible show wpAny _ _ (subscriptTail _ _ (Value.ref _) (Value.int 0 _)) _ _ _); k_dflt (refine item0_lst (by k_asm) (by k_mem) ?_ (by with_unfolding_all rfl) (by kmk_pure))) | ((with_reducible show wpAny _ _ (call (Value.builtin "len") _) _ _ _); (k_dflt (refine len_lst (by k_asm) (by k_mem) (by assumption) ?_))) | ((with_reducible show wpAny _ _ (compareOp CmpOp.Eq (Value.ref _) (Value.ref _)) _ _ _); (k_dflt (refine found_eq (by k_asm) (by k_mem) (by k_mem) (by assumption) (by exact dOf_ok _) (by ktr_units) ?_))) | ((with_reducible show wpAny _ _ (compareOp CmpOp.NotIn (Value.str _ _) (Value.ref _)) _ _ _); (k_dflt (refine notin_list_strs (by exact News.isList (by k_asm) (by k_mem)) (by assumption) ?_))) | ((with_reducible show wpAny _ _ (exec (Stmt.While _ _ _ _) _) _ _ _); (refine while_mark ?_)) | ((with_reducible show wpAny _ _ (call (Value.ref 137) [Value.ref _, Value.str _ _]) _ _ _); k_dflt (refine direct_K (by k_asm) (by k_asm) (by k_asm) (by k_asm) (by k_asm) (by k_mem) (by k_mem) (by k_mem) (by assumption) (by k_mem) (by k_mem) (by ktr_room) (by ktr_units) (by k_asm) (by k_asm) (by assumption) ?_); intro _ _ _ _ _ _ _) | ((with_reducible show wpAny _ _ (eval (PySem.Expr.ListComp _ _ _ _) _) _ _ _); (k_dflt (refine comp_ts (by k_asm) (by with_unfolding_all rfl) (by decide) (by rfl) (by decide) (by rfl) (by decide) ?_))) | ((with_reducible show wpAny _ _ (exec (Stmt.Assign _ (PySem.Expr.ListComp _ _ _ _) _) _) _ _ _); (refine while_mark ?_)) | ((with_reducible show wpAny _ _ (exec (Stmt.While _ _ _ _) _) _ _ _); (refine while_mark ?_)) | walk1 | (dsimp only; walk1) | (leave1; walk_say "STEP leave1"; try dsimp only) | fail "no step"))
  change wpAny _ _ _ _ _ _
  rename_i o1 o2 d1 d2 fl h5 la rl cc h4 lb tup h3 lc h2 h1 o9 d9 h0 F9 N9
  refine while_fr (Str.ofString "able") (fun n nw => ∀ CC : Prop, (∀ (Fs R : List Str) (fvs rvs : List Value) (kf kr : Nat), (StrsAre fvs Fs) → (StrsAre rvs R) → (n = R.length) → (Fs.length + R.length ≤ 4) → ((∀ x ∈ Fs, x ∈ four)) → ((∀ x ∈ R, x ∈ four)) → ((Str.ofString "A" ∈ Fs ∨ Str.ofString "A" ∈ R)) → (nw = (rl, PySem.W.listOf rvs.toArray kr) :: (fl, PySem.W.listOf fvs.toArray kf) :: (_, o9) :: (_, o2) :: (sg, instObj 269 sd) :: (sd, dictOf (sgE3 w t1 t2 t3 en st op) 3) :: (en, oe) :: (st, PySem.W.listOf svs.toArray k) :: own) → CC) → CC) F9 (N9.perm fun p hp => .tail _ hp)
    (fun CC kQ9 => kQ9 [] ns [] svs 0 cc .nil hsv rfl (by rw [← hsv.length]; simpa using hsl) (fun _ h => nomatch h) hall (.inr hA) rfl) ?_
  intro n av nw h tk F8 N8 hJ1
  refine hJ1 _ ?_; clear hJ1; rintro Fs R fvs rvs kf kr hF hR rfl hle hF4 hR4 hAA rfl
  (repeat' (first | (k_unfold; (try dsimp only)) | (k_end; wrow_close) | ((with_reducible show wpAny _ _ (call (Value.builtin "list.remove") _) _ _ _); (k_dflt (refine strs_remove (by k_asm) (by k_asm) (by k_updF) (by assumption) (by assumption) (by assumption) ?_); intro _ _ _ _ _ q09; (try dsimp only at q09); revert q09; intro _)) | ((with_reducible show wpAny _ _ (compareOp CmpOp.Eq (Value.int _ _) (Value.int _ _)) _ _ _); (k_dflt (refine eq_succ0 ?_))) | ((with_reducible show wpAny _ _ (subscriptTail _ _ (Value.ref _) (Value.int 0 _)) _ _ _); k_dflt (refine item0_lst (by k_asm) (by k_mem) ?_ (by with_unfolding_all rfl) (by kmk_pure))) | ((with_reducible show wpAny _ _ (call (Value.builtin "len") _) _ _ _); (k_dflt (refine len_lst (by k_asm) (by k_mem) (by assumption) ?_))) | ((with_reducible show wpAny _ _ (compareOp CmpOp.Eq (Value.ref _) (Value.ref _)) _ _ _); (k_dflt (refine found_eq (by k_asm) (by k_mem) (by k_mem) (by assumption) (by exact dOf_ok _) (by ktr_units) ?_))) | ((with_reducible show wpAny _ _ (compareOp CmpOp.NotIn (Value.str _ _) (Value.ref _)) _ _ _); (k_dflt (refine notin_list_strs (by exact News.isList (by k_asm) (by k_mem)) (by assumption) ?_))) | ((with_reducible show wpAny _ _ (exec (Stmt.While _ _ _ _) _) _ _ _); (refine while_mark ?_)) | ((with_reducible show wpAny _ _ (call (Value.ref 137) [Value.ref _, Value.str _ _]) _ _ _); k_dflt (refine direct_K (by k_asm) (by k_asm) (by k_asm) (by k_asm) (by k_asm) (by k_mem) (by k_mem) (by k_mem) (by assumption) (by k_mem) (by k_mem) (by ktr_room) (by ktr_units) (by k_asm) (by k_asm) (by assumption) ?_); intro _ _ _ _ _ _ _) | ((with_reducible show wpAny _ _ (eval (PySem.Expr.ListComp _ _ _ _) _) _ _ _); (k_dflt (refine comp_ts (by k_asm) (by with_unfolding_all rfl) (by decide) (by rfl) (by decide) (by rfl) (by decide) ?_))) | ((with_reducible show wpAny _ _ (exec (Stmt.Assign _ (PySem.Expr.ListComp _ _ _ _) _) _) _ _ _); (refine while_mark ?_)) | ((with_reducible show wpAny _ _ (exec (Stmt.While _ _ _ _) _) _ _ _); (refine while_mark ?_)) | walk1 | (dsimp only; walk1) | (leave1; walk_say "STEP leave1"; try dsimp only) | fail "no step"))
  · change wpAny _ _ _ _ _ _
    refine LCt.Assign_ListComp_T (F₀ := by k_asm) (by rfl) (by with_unfolding_all rfl) (by with_unfolding_all rfl) (by decide) (by rfl) (by decide) (by rfl) (by rfl) (by rfl) ?_
    walk1
    refine LCt.CompSrcT.ledger (by rfl) (by k_asm) (by k_asm) (by k_mem) (by simp only [List.size_toArray, sizeLine_eq]; have := (‹StrsAre rvs R›).length; kpa_ne) ?_
    intro g9
    refine rest_T (f := fun o => ((dOf o).filter fun y => !Fs.any fun x => x == y).isEmpty) rfl (by assumption) ?_ ?_ ?_ (by rfl) (by rfl) (by decide)
    · exact .inr ⟨_, by k_mem, rfl, _, rfl⟩
    · intro ys hys
      obtain ⟨y0, r0, e0⟩ := able_some (Fs := Fs) (R := R) (by kpa_ne) hAA
      rw [e0] at hys
      obtain ⟨hy0, hy1⟩ := filter_head e0
      cases hys with | cons _ ty hr => ?_
      have hrl : (Value.str y0 ty :: _).length ≤ 1000 := Nat.le_trans (Nat.le_of_eq (StrsAre.cons y0 ty hr).length) (by rw [← e0]; have := List.length_filter_le (fun o => ((dOf o).filter fun y => !Fs.any fun x => x == y).isEmpty) R; kpa_ne)
      unfold LCg.FinA
      intro D7 h7 tk7 F7 N7 o7
      (try simp only [LCg.Off1, and_true] at o7)
      (try simp only [List.nil_append, List.cons_append] at N7)
      have hrv : rvs.length ≤ 1000 := by have := (‹StrsAre rvs R›).length; kpa_ne
      have o7a : @Ne Nat rl D7 := o7.1
      have o7b : @Ne Nat fl D7 := o7.2.1
      (try dsimp only)
      (repeat' (first | (k_unfold; (try dsimp only)) | (k_end; wrow_close) | ((with_reducible show wpAny _ _ (call (Value.builtin "list.remove") _) _ _ _); (k_dflt (refine strs_remove (by k_asm) (by k_asm) (by k_updF) (by assumption) (by assumption) (by assumption) ?_); intro _ _ _ _ _ q09; (try dsimp only at q09); revert q09; intro _)) | ((with_reducible show wpAny _ _ (compareOp CmpOp.Eq (Value.int _ _) (Value.int _ _)) _ _ _); (k_dflt (refine eq_succ0 ?_))) | ((with_reducible show wpAny _ _ (subscriptTail _ _ (Value.ref _) (Value.int 0 _)) _ _ _); k_dflt (refine item0_lst (by k_asm) (by k_mem) ?_ (by with_unfolding_all rfl) (by kmk_pure))) | ((with_reducible show wpAny _ _ (call (Value.builtin "len") _) _ _ _); (k_dflt (refine len_lst (by k_asm) (by k_mem) (by assumption) ?_))) | ((with_reducible show wpAny _ _ (compareOp CmpOp.Eq (Value.ref _) (Value.ref _)) _ _ _); (k_dflt (refine found_eq (by k_asm) (by k_mem) (by k_mem) (by assumption) (by exact dOf_ok _) (by ktr_units) ?_))) | ((with_reducible show wpAny _ _ (compareOp CmpOp.NotIn (Value.str _ _) (Value.ref _)) _ _ _); (k_dflt (refine notin_list_strs (by exact News.isList (by k_asm) (by k_mem)) (by assumption) ?_))) | ((with_reducible show wpAny _ _ (exec (Stmt.While _ _ _ _) _) _ _ _); (refine while_mark ?_)) | ((with_reducible show wpAny _ _ (call (Value.ref 137) [Value.ref _, Value.str _ _]) _ _ _); k_dflt (refine direct_K (by k_asm) (by k_asm) (by k_asm) (by k_asm) (by k_asm) (by k_mem) (by k_mem) (by k_mem) (by assumption) (by k_mem) (by k_mem) (by ktr_room) (by ktr_units) (by k_asm) (by k_asm) (by assumption) ?_); intro _ _ _ _ _ _ _) | ((with_reducible show wpAny _ _ (eval (PySem.Expr.ListComp _ _ _ _) _) _ _ _); (k_dflt (refine comp_ts (by k_asm) (by with_unfolding_all rfl) (by decide) (by rfl) (by decide) (by rfl) (by decide) ?_))) | ((with_reducible show wpAny _ _ (exec (Stmt.Assign _ (PySem.Expr.ListComp _ _ _ _) _) _) _ _ _); (refine while_mark ?_)) | ((with_reducible show wpAny _ _ (exec (Stmt.While _ _ _ _) _) _ _ _); (refine while_mark ?_)) | walk1 | (dsimp only; walk1) | (leave1; walk_say "STEP leave1"; try dsimp only) | fail "no step"))
      rename_i F6 N6
      rw [List.push_toArray] at N6
      refine lap_end F6 (N6.perm fun p hp => .tail _ hp) ?_ (fun CC kQ9 => kQ9 (Fs ++ [y0]) (R.erase y0) (fvs ++ [Value.str y0 ty]) _ (kf + 1) (kr + 1) (strs_snoc hF) (by assumption : StrsAre _ (R.erase y0)) rfl ?_ ?_ ?_ ?_ rfl)
      · rw [List.length_erase_of_mem hy0]; kpa_ne
      · rw [List.length_erase_of_mem hy0, List.length_append, List.length_singleton]; kpa_ne
      · intro x hx
        rcases List.mem_append.mp hx with q | q
        · exact hF4 x q
        · exact List.mem_singleton.mp q ▸ hR4 y0 hy0
      · exact fun x hx => hR4 x (List.mem_of_mem_erase hx)
      · rcases hAA with q | q
        · exact .inl (List.mem_append.mpr (.inl q))
        · by_cases e : Str.ofString "A" = y0
          · exact .inl (List.mem_append.mpr (.inr (e ▸ .head _)))
          · exact .inr ((List.mem_erase_of_ne e).mpr q)
    · intro o ho t1 I oI C oC D oD m₂ h tk E' hC hx F' N' off ne
      refine (hsig o (hR4 o ho)).ch _ ?_; rintro v9 hv pi pn ps e1 e2 spot u1 u2 u3 u4 un parent pvs rfl hm1 hm0 hm2 hm3 sh
      have N2 := N'.perm (led_up (p := (pi, sigO spot u1 u2 u3 u4 pn ps e1 e2 parent)) (by repeat (first | exact hm1 | apply List.mem_cons_of_mem)))
      have N3 := N2.perm (led_up (p := (ps, tupO pvs)) (by repeat (first | exact hm2 | apply List.mem_cons_of_mem)))
      (repeat' (first | (k_unfold; (try dsimp only)) | (k_end; wrow_close) | ((with_reducible show wpAny _ _ (call (Value.builtin "list.remove") _) _ _ _); (k_dflt (refine strs_remove (by k_asm) (by k_asm) (by k_updF) (by assumption) (by assumption) (by assumption) ?_); intro _ _ _ _ _ q09; (try dsimp only at q09); revert q09; intro _)) | ((with_reducible show wpAny _ _ (compareOp CmpOp.Eq (Value.int _ _) (Value.int _ _)) _ _ _); (k_dflt (refine eq_succ0 ?_))) | ((with_reducible show wpAny _ _ (subscriptTail _ _ (Value.ref _) (Value.int 0 _)) _ _ _); k_dflt (refine item0_lst (by k_asm) (by k_mem) ?_ (by with_unfolding_all rfl) (by kmk_pure))) | ((with_reducible show wpAny _ _ (call (Value.builtin "len") _) _ _ _); (k_dflt (refine len_lst (by k_asm) (by k_mem) (by assumption) ?_))) | ((with_reducible show wpAny _ _ (compareOp CmpOp.Eq (Value.ref _) (Value.ref _)) _ _ _); (k_dflt (refine found_eq (by k_asm) (by k_mem) (by k_mem) (by assumption) (by exact dOf_ok _) (by ktr_units) ?_))) | ((with_reducible show wpAny _ _ (compareOp CmpOp.NotIn (Value.str _ _) (Value.ref _)) _ _ _); (k_dflt (refine notin_list_strs (by exact News.isList (by k_asm) (by k_mem)) (by assumption) ?_))) | ((with_reducible show wpAny _ _ (exec (Stmt.While _ _ _ _) _) _ _ _); (refine while_mark ?_)) | ((with_reducible show wpAny _ _ (call (Value.ref 137) [Value.ref _, Value.str _ _]) _ _ _); k_dflt (refine direct_K (by k_asm) (by k_asm) (by k_asm) (by k_asm) (by k_asm) (by k_mem) (by k_mem) (by k_mem) (by assumption) (by k_mem) (by k_mem) (by ktr_room) (by ktr_units) (by k_asm) (by k_asm) (by assumption) ?_); intro _ _ _ _ _ _ _) | ((with_reducible show wpAny _ _ (eval (PySem.Expr.ListComp _ _ _ _) _) _ _ _); (k_dflt (refine comp_ts (by k_asm) (by with_unfolding_all rfl) (by decide) (by rfl) (by decide) (by rfl) (by decide) ?_))) | ((with_reducible show wpAny _ _ (exec (Stmt.Assign _ (PySem.Expr.ListComp _ _ _ _) _) _) _ _ _); (refine while_mark ?_)) | ((with_reducible show wpAny _ _ (exec (Stmt.While _ _ _ _) _) _ _ _); (refine while_mark ?_)) | walk1 | (dsimp only; walk1) | (leave1; walk_say "STEP leave1"; try dsimp only) | fail "no step"))
      rename StrsAre _ (dOf o) => hs9
      refine ⟨_, _, _, _, fun y => !Fs.any fun x => x == y, rfl, rfl, by k_asm, by k_asm, by k_mem, hs9, by have := hs9.length; have := dOf_len o; kpa_ne, ?_, ?_⟩
      · intro y hy u1 oI2 oC2 I2 C2 D2 ys2 m3 h2 tk2 E2 hC2 hx2 F2 N2
        (repeat' (first | (k_unfold; (try dsimp only)) | (k_end; wrow_close) | ((with_reducible show wpAny _ _ (call (Value.builtin "list.remove") _) _ _ _); (k_dflt (refine strs_remove (by k_asm) (by k_asm) (by k_updF) (by assumption) (by assumption) (by assumption) ?_); intro _ _ _ _ _ q09; (try dsimp only at q09); revert q09; intro _)) | ((with_reducible show wpAny _ _ (compareOp CmpOp.Eq (Value.int _ _) (Value.int _ _)) _ _ _); (k_dflt (refine eq_succ0 ?_))) | ((with_reducible show wpAny _ _ (subscriptTail _ _ (Value.ref _) (Value.int 0 _)) _ _ _); k_dflt (refine item0_lst (by k_asm) (by k_mem) ?_ (by with_unfolding_all rfl) (by kmk_pure))) | ((with_reducible show wpAny _ _ (call (Value.builtin "len") _) _ _ _); (k_dflt (refine len_lst (by k_asm) (by k_mem) (by assumption) ?_))) | ((with_reducible show wpAny _ _ (compareOp CmpOp.Eq (Value.ref _) (Value.ref _)) _ _ _); (k_dflt (refine found_eq (by k_asm) (by k_mem) (by k_mem) (by assumption) (by exact dOf_ok _) (by ktr_units) ?_))) | ((with_reducible show wpAny _ _ (compareOp CmpOp.NotIn (Value.str _ _) (Value.ref _)) _ _ _); (k_dflt (refine notin_list_strs (by exact News.isList (by k_asm) (by k_mem)) (by assumption) ?_))) | ((with_reducible show wpAny _ _ (exec (Stmt.While _ _ _ _) _) _ _ _); (refine while_mark ?_)) | ((with_reducible show wpAny _ _ (call (Value.ref 137) [Value.ref _, Value.str _ _]) _ _ _); k_dflt (refine direct_K (by k_asm) (by k_asm) (by k_asm) (by k_asm) (by k_asm) (by k_mem) (by k_mem) (by k_mem) (by assumption) (by k_mem) (by k_mem) (by ktr_room) (by ktr_units) (by k_asm) (by k_asm) (by assumption) ?_); intro _ _ _ _ _ _ _) | ((with_reducible show wpAny _ _ (eval (PySem.Expr.ListComp _ _ _ _) _) _ _ _); (k_dflt (refine comp_ts (by k_asm) (by with_unfolding_all rfl) (by decide) (by rfl) (by decide) (by rfl) (by decide) ?_))) | ((with_reducible show wpAny _ _ (exec (Stmt.Assign _ (PySem.Expr.ListComp _ _ _ _) _) _) _ _ _); (refine while_mark ?_)) | ((with_reducible show wpAny _ _ (exec (Stmt.While _ _ _ _) _) _ _ _); (refine while_mark ?_)) | walk1 | (dsimp only; walk1) | (leave1; walk_say "STEP leave1"; try dsimp only) | fail "no step"))
      · intro D2 ys2 h2 tk2 hys2 F2 N2 l2
        (try k_lt l2)
        (repeat' (first | (k_unfold; (try dsimp only)) | (k_end; wrow_close) | ((with_reducible show wpAny _ _ (call (Value.builtin "list.remove") _) _ _ _); (k_dflt (refine strs_remove (by k_asm) (by k_asm) (by k_updF) (by assumption) (by assumption) (by assumption) ?_); intro _ _ _ _ _ q09; (try dsimp only at q09); revert q09; intro _)) | ((with_reducible show wpAny _ _ (compareOp CmpOp.Eq (Value.int _ _) (Value.int _ _)) _ _ _); (k_dflt (refine eq_succ0 ?_))) | ((with_reducible show wpAny _ _ (subscriptTail _ _ (Value.ref _) (Value.int 0 _)) _ _ _); k_dflt (refine item0_lst (by k_asm) (by k_mem) ?_ (by with_unfolding_all rfl) (by kmk_pure))) | ((with_reducible show wpAny _ _ (call (Value.builtin "len") _) _ _ _); (k_dflt (refine len_lst (by k_asm) (by k_mem) (by assumption) ?_))) | ((with_reducible show wpAny _ _ (compareOp CmpOp.Eq (Value.ref _) (Value.ref _)) _ _ _); (k_dflt (refine found_eq (by k_asm) (by k_mem) (by k_mem) (by assumption) (by exact dOf_ok _) (by ktr_units) ?_))) | ((with_reducible show wpAny _ _ (compareOp CmpOp.NotIn (Value.str _ _) (Value.ref _)) _ _ _); (k_dflt (refine notin_list_strs (by exact News.isList (by k_asm) (by k_mem)) (by assumption) ?_))) | ((with_reducible show wpAny _ _ (exec (Stmt.While _ _ _ _) _) _ _ _); (refine while_mark ?_)) | ((with_reducible show wpAny _ _ (call (Value.ref 137) [Value.ref _, Value.str _ _]) _ _ _); k_dflt (refine direct_K (by k_asm) (by k_asm) (by k_asm) (by k_asm) (by k_asm) (by k_mem) (by k_mem) (by k_mem) (by assumption) (by k_mem) (by k_mem) (by ktr_room) (by ktr_units) (by k_asm) (by k_asm) (by assumption) ?_); intro _ _ _ _ _ _ _) | ((with_reducible show wpAny _ _ (eval (PySem.Expr.ListComp _ _ _ _) _) _ _ _); (k_dflt (refine comp_ts (by k_asm) (by with_unfolding_all rfl) (by decide) (by rfl) (by decide) (by rfl) (by decide) ?_))) | ((with_reducible show wpAny _ _ (exec (Stmt.Assign _ (PySem.Expr.ListComp _ _ _ _) _) _) _ _ _); (refine while_mark ?_)) | ((with_reducible show wpAny _ _ (exec (Stmt.While _ _ _ _) _) _ _ _); (refine while_mark ?_)) | walk1 | (dsimp only; walk1) | (leave1; walk_say "STEP leave1"; try dsimp only) | fail "no step"))
        · k_asm
        · refine News.perm (by k_asm) ?_
          intro p hp
          repeat (first | exact hp | apply List.mem_cons_of_mem)
  · refine hQ _ Fs _ _ _ _ (by k_asm) (News.perm (by k_asm) (List.forall_mem_cons.mpr ⟨by k_mem, ?_⟩)) hF (by kpa_ne) hF4 ?_
    · intro p hp
      repeat (first | exact hp | apply List.mem_cons_of_mem)
    · refine ⟨?_, ?_, ?_, ?_, ?_⟩ <;> simp only [*]
end
section
variable {VV : Program} {loo : List Str}
def Here (P : Prop) : Prop := P
theorem here_mark {M : Model} {α : Type} {A : Around} {t : Sem α} {Q : α → Shared → Prop} {E : Value → Shared → Prop} {s : Shared} (h : Here (wpAny M A t Q E s)) : wpAny M A t Q E s := h
inductive Cut (rest : List (Addr × Obj)) : List (Addr × Obj) → List (Addr × Obj) → Prop
  | nil : Cut rest rest []
  | cons {p l pre} : Cut rest l pre → Cut rest (p :: l) (p :: pre)
theorem Cut.eq {rest l pre : List (Addr × Obj)} (h : Cut rest l pre) : l = pre ++ rest := by
  induction h with
  | nil => rfl
  | cons _ ih => rw [ih]; rfl
theorem four_of {r : Int} (h0 : 0 ≤ r) (h1 : r < 4) : r = 0 ∨ r = 1 ∨ r = 2 ∨ r = 3 := by kpa_ne
theorem two_of {r : Int} (h0 : 0 ≤ r) (h1 : r < 2) : r = 0 ∨ r = 1 := by kpa_ne
local macro_rules | `(tactic| walk_at "call ref") => `(tactic| (k_here; (with_reducible show wpAny _ _ (call (Value.ref 524) [Value.ref _, Value.int 4 _]) _ _ _); refine here_mark ?_))
local macro_rules | `(tactic| walk_at "call ref") => `(tactic| (k_here; (with_reducible show wpAny _ _ (call (Value.ref 524) [Value.ref _, Value.int 2 _]) _ _ _); k_dflt (refine' draw_K ?k1 ?k2 ?k3 ?k4 ?k5 ?k6 ?k7 ?k8 ?k9 ?k10 ?k11 ?k12 ?k13 ?k14 ?k15 ?k16 ?k17 ?_; (case k1 => k_asm); (case k2 => k_asm); (case k3 => k_asm); (case k4 => k_asm); (case k5 => k_asm); (case k6 => k_updF); (case k8 => k_asm); (case k7 => k_mem); (case k9 => kpa_ne); (case k10 => ktr_room); (case k11 => ktr_units); (case k12 => assumption); (case k13 => assumption); (case k14 => assumption); (case k15 => assumption); (case k16 => decide); (case k17 => decide)); intro r' t' h' tk' ob' r0' r1' F' N' hb'; (try dsimp only at N'); rcases two_of r0' r1' with e1 | e1 <;> subst e1))
theorem cut_news {h₀ h : Heap} {L l : Addr} {lo : Obj} {x y : Addr × Obj} {led pre own : List (Addr × Obj)} (N : News h₀ L h ((l, lo) :: led)) (C : Cut (x :: y :: own) led pre) : News h₀ L h ((l, lo) :: x :: y :: (pre ++ own)) := N.perm fun p hp => by
  rw [C.eq]
  rcases List.mem_cons.mp hp with rfl | hp
  · exact .head _
  refine .tail _ (List.mem_append.mpr ?_)
  rcases List.mem_cons.mp hp with rfl | hp
  · exact .inr (.head _)
  rcases List.mem_cons.mp hp with rfl | hp
  · exact .inr (.tail _ (.head _))
  rcases List.mem_append.mp hp with hp | hp
  · exact .inl hp
  · exact .inr (.tail _ (.tail _ hp))
theorem allLt_append {d : Addr} {own : List (Addr × Obj)} (h : AllLt d own) : ∀ {pre : List (Addr × Obj)}, AllLt d pre → AllLt d (pre ++ own)
  | [], _ => h
  | _ :: _, k => ⟨k.1, allLt_append h k.2⟩
theorem off_append {b : Addr} {own : List (Addr × Obj)} (h : OwnOff own [b]) {pre : List (Addr × Obj)} (k : ∀ p ∈ pre, p.1 ≠ b) : OwnOff (pre ++ own) [b] := fun p hp d hd => by
  rcases List.mem_append.mp hp with q | q
  · obtain rfl := List.mem_singleton.mp hd
    exact k p q
  · exact h p q d hd
theorem sigV_of {led : List (Addr × Obj)} {pi pn ps e1 e2 spot u1 u2 u3 u4 un parent pvs} {x : Str} (a : (pi, sigO spot u1 u2 u3 u4 pn ps e1 e2 parent) ∈ led) (b : (pn, tupO [.str x un]) ∈ led) (c : (ps, tupO pvs) ∈ led) (d : (e1, tupO []) ∈ led) (k : Shp parent pvs (dOf x)) : SigV led (.ref pi) x :=
  ⟨pi, pn, ps, e1, e2, spot, u1, u2, u3, u4, un, parent, pvs, rfl, a, b, c, d, k⟩
theorem shp_free {x : Str} (h : dOf x = []) : Shp (Str.ofString "") [] (dOf x) := h ▸ .free
theorem shp_kid {x : Str} (h : dOf x = [Str.ofString "A"]) : Shp (Str.ofString "A") [] (dOf x) := h ▸ .kid
theorem shp_part {x : Str} {t : Tok} (h : dOf x = [Str.ofString "A"]) : Shp (Str.ofString "") [.str (Str.ofString "A") t] (dOf x) := h ▸ .part t
theorem pack {h₀ h : Heap} {L l b : Addr} {ob : Obj} {y : Addr × Obj} {svs : List Value} {led pre own : List (Addr × Obj)} {goal : Prop} (N : News h₀ L h ((l, PySem.W.listOf svs.toArray 0) :: led)) (C : Cut ((b, ob) :: y :: own) led pre)
    (hS : All2 (SigV pre) svs four) (off : OwnOff own [b]) (off' : ∀ p ∈ pre, p.1 ≠ b) (lt : AllLt l own) (lt' : AllLt l pre)
    (k : ∀ own', News h₀ L h ((l, PySem.W.listOf svs.toArray 0) :: (b, ob) :: y :: own') → All2 (SigV own') svs four → OwnOff own' [b] → AllLt l own' → (∀ p ∈ own, p ∈ own') → goal) : goal :=
  k _ (cut_news N C) (hS.mono fun _ _ z => z.mono fun p hp => List.mem_append.mpr (.inl hp)) (off_append off off') (allLt_append lt lt') fun p hp => List.mem_append.mpr (.inr hp)
theorem all4 {R : Value → Str → Prop} {v1 v2 v3 v4 : Value} {x1 x2 x3 x4 : Str} (h1 : R v1 x1) (h2 : R v2 x2) (h3 : R v3 x3) (h4 : R v4 x4) : All2 R [v1, v2, v3, v4] [x1, x2, x3, x4] := ⟨h1, h2, h3, h4, trivial⟩
theorem fours_of {xs : List Str} (h : (decide xs.Nodup && xs.all (fun x => four.contains x) && four.all (fun x => xs.contains x) && (xs.length == 4)) = true) : Fours xs := by
  simp only [Bool.and_eq_true, decide_eq_true_eq, List.all_eq_true, List.contains_iff_mem, beq_iff_eq] at h
  exact ⟨h.1.1.1, fun x => ⟨fun hx => h.1.1.2 x hx, fun hx => h.1.2 x hx⟩, h.2⟩
set_option maxHeartbeats 0 in
theorem sigs_spec {w : World} {mean : ExcName → Option Value} {mg mb : Str → Option Value} {dp un : Nat} {gd : Option (List Code)} {cn : Str} {sn : List (Str × NameKind)} {sgn sco : Bool} {smo : List (Str × Const)} {a : Addr} {ccd : Value} {cl : List (Str × Addr)} {outer : List Env} {A₀ : Around} {base h₀ : Heap} {L : Addr} {m : Str → Option Value} {own : List (Addr × Obj)} {s : Shared} {Q E : Value → Shared → Prop}
    {b c : Addr} {ob : Obj} {vs : List Value} {ns : List Int} {n0 n : Nat}
    (B : Below A₀ base outer h₀) (F : Fr h₀ L s.heap m) (X : (K39 w.params).In h₀) (N : News h₀ L s.heap ((b, ob) :: (c, PySem.W.listOf vs.toArray n0) :: own)) (T : Top VV loo mean mg mb h₀)
    (hb : BellTo w ob c n) (hn : n < 900)
    (hdp : dp + 10 < recursionLimit) (hun : un + 100 < cLine) (lo : (b == sysModules) = false) (hbc : @Ne Nat b c) (hown : OwnOff own [b])
    (hI : IntsAre vs ns) (hl : ns.length ≤ 63)
    (hQ : ∀ l ob' own' svs xs h' tk', Fr h₀ L h' m → News h₀ L h' ((l, PySem.W.listOf svs.toArray 0) :: (b, ob') :: (c, PySem.W.listOf vs.toArray n0) :: own') → All2 (SigV own') svs xs → Fours xs → BellTo w ob' c (n + 2) →
      (∀ p ∈ own, p ∈ own') → OwnOff own' [b] → (@LT.lt Nat _ b l ∧ @LT.lt Nat _ c l ∧ AllLt l own') → Q (.ref l) { s with heap := h', toks := tk' }) :
    wpAny (model PySem.Challenge.rw_rr0095_01.row.prog w) (ktrTop dp un gd cn ⟨.function, sn, sgn, sco, smo⟩ L a ccd cl outer) (call (.ref 531) [.ref b]) Q E s := by
  have hkk : (envX cn ⟨.function, sn, sgn, sco, smo⟩ L a ccd cl).scope.kind = .function := rfl
  refine wpAny_call ?_
  k_dflt ktr_enter
  rename Fr _ _ _ _ => FE
  replace FE : Fr _ _ _ (bindFr [(Str.ofString "bell", Value.ref b)]) := FE
  k_steps
  change wpAny _ _ _ _ _ _
  rename News _ _ _ _ => N9
  refine pack N9 (by repeat (first | exact Cut.nil | apply Cut.cons)) ?_ hown ?_ ?_ ?_ ?_
  · exact ⟨sigV_of (by k_mem) (by k_mem) (by k_mem) (by k_mem) (shp_free (by decide)), sigV_of (by k_mem) (by k_mem) (by k_mem) (by k_mem) (shp_kid (by decide)), sigV_of (by k_mem) (by k_mem) (by k_mem) (by k_mem) (shp_part (by decide)), sigV_of (by k_mem) (by k_mem) (by k_mem) (by k_mem) (shp_free (by decide)), trivial⟩
  · (iterate 22 (refine List.forall_mem_cons.mpr ⟨Nat.ne_of_gt (by show @LT.lt Nat _ _ _; simp only [*]), ?_⟩))
    exact List.forall_mem_nil _
  · (simp only [*])
  · (refine ⟨?_, ?_, ?_, ?_, ?_, ?_, ?_, ?_, ?_, ?_, ?_, ?_, ?_, ?_, ?_, ?_, ?_, ?_, ?_, ?_, ?_, ?_, trivial⟩ <;> (show @LT.lt Nat _ _ _; simp only [*]))
  clear N9
  intro own2 N9 hS2 hoff2 hlt2 hsub2
  clear hown N B
  refine' draw_K ?e1 ?e2 ?e3 ?e4 ?e5 ?e6 ?e7 ?e8 ?e9 ?e10 ?e11 ?e12 ?e13 ?e14 ?e15 ?e16 ?e17 ?_
  (case e1 => k_asm); (case e2 => k_asm); (case e3 => k_asm); (case e4 => k_asm); (case e5 => k_asm)
  (case e6 => k_updF)
  (case e8 => k_asm); (case e7 => k_mem); (case e9 => kpa_ne); (case e10 => ktr_room); (case e11 => ktr_units); (case e12 => assumption); (case e13 => assumption); (case e14 => assumption); (case e15 => assumption); (case e16 => decide); (case e17 => decide)
  intro r8 t8 h8 tk8 ob8 r0 r1 F8 N8 hb8
  try dsimp only at N8
  clear N9
  obtain ⟨sA, sB, sC, sD, _⟩ := hS2
  rcases four_of r0 r1 with rfl | rfl | rfl | rfl
  all_goals k_steps
  all_goals
    refine hQ _ _ own2 _ _ _ _ (by k_asm) (News.perm (by k_asm) (List.forall_mem_cons.mpr ⟨by k_mem, List.forall_mem_cons.mpr ⟨by k_mem, List.forall_mem_cons.mpr ⟨by k_mem, ?_⟩⟩⟩)) (by first | exact all4 sA sB sC sD | exact all4 sB sC sD sA | exact all4 sC sD sA sB | exact all4 sD sA sB sC | exact all4 sD sC sB sA | exact all4 sA sD sC sB | exact all4 sB sA sD sC | exact all4 sC sB sA sD) (fours_of (by decide)) ((by assumption : BellTo w _ c (n + 1 + 1)).mono (by kpa_ne)) hsub2 hoff2 ?_
    · intro p hp
      repeat (first | exact hp | apply List.mem_cons_of_mem)
    · refine ⟨?_, ?_, ?_⟩ <;> simp only [*]
end
section
variable {VV : Program} {loo : List Str}
section
variable {prog : Program} {w : World} {A : Around} {E : Value → Shared → Prop} {s : Shared} {env : Env} {h₀ : Heap} {x : Str} {body : List Stmt} {Q : Flow → Shared → Prop}
def KeepX (x : Str) (m₀ : Str → Option Value) (J : List (Addr × Obj) → Prop) (m : Str → Option Value) (nw : List (Addr × Obj)) : Prop := (∃ av, m = fun y => if y = x then av else m₀ y) ∧ J nw
/-- a loop over a list of the ledger: of the names it turns its own alone -/
theorem for_listX {l : Addr} {vs : List Value} {k : Nat} {m₀ : Str → Option Value} {nw₀ : List (Addr × Obj)} (J : Nat → List (Addr × Obj) → Prop)
    (hh : A.handled = none) (F : Fr h₀ env.locals s.heap m₀) (N : News h₀ env.locals s.heap ((l, PySem.W.listOf vs.toArray k) :: nw₀)) (hj : J 0 nw₀)
    (turn : ∀ i v nw h tk I oI, I = s.heap.objs.size → vs[i]? = some v → J i nw → (∀ p ∈ nw, p.1 ≠ I) → Fr h₀ env.locals h (fun y => if y = x then some v else m₀ y) → News h₀ env.locals h ((I, oI) :: (l, PySem.W.listOf vs.toArray k) :: nw) →
      wpAny (model prog w) A (execs body env) (TurnEnd h₀ env.locals I l oI (PySem.W.listOf vs.toArray k) (KeepX x m₀ (J (i + 1))) { s with heap := h, toks := tk } Q) E { s with heap := h, toks := tk })
    (done : ∀ av nw h tk, J vs.length nw → Fr h₀ env.locals h (fun y => if y = x then av else m₀ y) → News h₀ env.locals h ((l, PySem.W.listOf vs.toArray k) :: nw) → Q .next { s with heap := h, toks := tk }) :
    wpAny (model prog w) A (pyIter (.ref l)) (fun it s₂ => LoopAtV prog w A h₀ env x body Q E it s₂) E s :=
  for_list (fun i => KeepX x m₀ (J i)) hh F N ⟨⟨m₀ x, by funext y; by_cases h : y = x <;> simp [h]⟩, hj⟩
    (fun i v m nw h tk I oI hI hv hJ off F' N' => by
      obtain ⟨⟨av, rfl⟩, hJ⟩ := hJ
      have e : (fun y => if y = x then some v else (fun y => if y = x then av else m₀ y) y) = fun y => if y = x then some v else m₀ y := by
        funext y; by_cases h : y = x <;> simp [h]
      exact turn i v nw h tk I oI hI hv hJ off (e ▸ F') N')
    fun m nw h tk hJ F' N' => by
      obtain ⟨⟨av, rfl⟩, hJ⟩ := hJ
      exact done av nw h tk hJ F' N'
theorem turn_nextX {L I l : Addr} {oI lo : Obj} {J : List (Addr × Obj) → Prop} {m₀ : Str → Option Value} {h' : Heap} {tk' : Nat} {av : Option Value} {nw' : List (Addr × Obj)} (F : Fr h₀ L h' (fun y => if y = x then av else m₀ y)) (N : News h₀ L h' ((I, oI) :: (l, lo) :: nw')) (off : ∀ p ∈ nw', p.1 ≠ I) (j : J nw') :
    TurnEnd h₀ L I l oI lo (KeepX x m₀ J) s Q .next { s with heap := h', toks := tk' } := turn_next F N off ⟨⟨av, rfl⟩, j⟩
end
section
variable {prog : Program} {w : World} {A : Around} {E : Value → Shared → Prop} {s : Shared} {env : Env} {h₀ : Heap} {target : Expr} {body : List Stmt} {Q : Flow → Shared → Prop}
theorem for_none_tup {l : Addr} {m₀ : Str → Option Value} {news : List (Addr × Obj)} (hh : A.handled = none) (F : Fr h₀ env.locals s.heap m₀) (N : News h₀ env.locals s.heap news) (hm : (l, tupO []) ∈ news)
    (done : ∀ h tk, Fr h₀ env.locals h m₀ → News h₀ env.locals h news → Q .next { s with heap := h, toks := tk }) :
    wpAny (model prog w) A (pyIter (.ref l)) (fun it s₂ => UnrAt prog w A h₀ env target body Q E it s₂) E s := by
  have hls : s.heap.IsTuple l #[] := ⟨_, (N _ hm).1, rfl, _, rfl⟩
  have hlt : l < s.heap.objs.size := Heap.lt_size (N _ hm).1
  refine wpAny_pyIter_tuple hls ?_
  have W := Walks.tuple (prog := prog) (w := w) hh s.heap.objs.size l (Nat.ne_of_lt hlt) #[]
  refine ⟨_, _, _, 0, _, _, m₀, news, rfl, W, ?_, ?_, ?_, ⟨⟨_, Heap.get?_push_size _ rfl, rfl, rfl⟩, hls.push _⟩, F.push _, (fun p hp => ⟨Heap.get?_push_of_some _ (N p hp).1, (N p hp).2⟩), (fun i s' v Q' st q => letGo_tupleiter st.1 q), Unr.zero fun h' tk F' N' => done h' tk F' N'⟩
  · intro hm'
    rcases List.mem_cons.mp hm' with e | hm'
    · exact absurd F.ns.lt (e ▸ Nat.lt_irrefl _)
    · exact (N _ hm).2.1 (List.mem_singleton.mp hm').symm
  · intro b hb
    rw [List.mem_singleton.mp hb]
    exact next_is_new F
  · intro p hp hI
    exact absurd (Heap.lt_size (N p hp).1) ((List.mem_singleton.mp hI) ▸ Nat.lt_irrefl _)
theorem for_none_list {l : Addr} {k : Nat} {m₀ : Str → Option Value} {news : List (Addr × Obj)} (hh : A.handled = none) (F : Fr h₀ env.locals s.heap m₀) (N : News h₀ env.locals s.heap news) (hm : (l, PySem.W.listOf #[] k) ∈ news)
    (done : ∀ h tk, Fr h₀ env.locals h m₀ → News h₀ env.locals h news → Q .next { s with heap := h, toks := tk }) :
    wpAny (model prog w) A (pyIter (.ref l)) (fun it s₂ => UnrAt prog w A h₀ env target body Q E it s₂) E s := by
  have hls : s.heap.IsList l #[] := ⟨_, (N _ hm).1, rfl, _, rfl⟩
  have hlt : l < s.heap.objs.size := Heap.lt_size (N _ hm).1
  refine wpAny_pyIter_list hls ?_
  have W := Walks.list (prog := prog) (w := w) hh s.heap.objs.size l (Nat.ne_of_lt hlt) #[]
  refine ⟨_, _, _, 0, _, _, m₀, news, rfl, W, ?_, ?_, ?_, ⟨⟨_, Heap.get?_push_size _ rfl, rfl, rfl⟩, hls.at fun o e => Heap.get?_push_of_some _ e⟩, F.push _, (fun p hp => ⟨Heap.get?_push_of_some _ (N p hp).1, (N p hp).2⟩), (fun i s' v Q' st q => letGo_listiter st.1 q), Unr.zero fun h' tk F' N' => done h' tk F' N'⟩
  · intro hm'
    rcases List.mem_cons.mp hm' with e | hm'
    · exact absurd F.ns.lt (e ▸ Nat.lt_irrefl _)
    · exact (N _ hm).2.1 (List.mem_singleton.mp hm').symm
  · intro b hb
    rw [List.mem_singleton.mp hb]
    exact next_is_new F
  · intro p hp hI
    exact absurd (Heap.lt_size (N p hp).1) ((List.mem_singleton.mp hI) ▸ Nat.lt_irrefl _)
end
abbrev sgE4 (w : World) (t1 t2 t3 t4 : Tok) (en st op od : Addr) : List DictEntry :=
  [⟨PyData.keyHash w.params (Str.ofString "entries"), .str (Str.ofString "entries") t1, .ref en⟩,
   ⟨PyData.keyHash w.params (Str.ofString "stands"), .str (Str.ofString "stands") t2, .ref st⟩,
   ⟨PyData.keyHash w.params (Str.ofString "opened"), .str (Str.ofString "opened") t3, .ref op⟩,
   ⟨PyData.keyHash w.params (Str.ofString "ordered"), .str (Str.ofString "ordered") t4, .ref od⟩]
local macro_rules | `(tactic| k_mem) => `(tactic| ((repeat (first | assumption | apply List.mem_cons_of_mem)); done))
set_option maxHeartbeats 0 in
theorem allFields_spec {w : World} {mean : ExcName → Option Value} {mg mb : Str → Option Value} {dp unn : Nat} {gd : Option (List Code)} {cn : Str} {sn : List (Str × NameKind)} {sgn sco : Bool} {smo : List (Str × Const)} {a : Addr} {ccd : Value} {cl : List (Str × Addr)} {outer : List Env} {A₀ : Around} {base h₀ : Heap} {L : Addr} {m : Str → Option Value} {own : List (Addr × Obj)} {s : Shared} {Q E : Value → Shared → Prop}
    {sg sd en st op od : Addr} {oe : Obj} {t1 t2 t3 t4 : Tok} {pairs : List (Str × Value)} {fvs : List Value} {Fs : List Str} {k : Nat}
    (B : Below A₀ base outer h₀) (F : Fr h₀ L s.heap m) (X : (K39 w.params).In h₀)
    (N : News h₀ L s.heap ((sg, instObj 269 sd) :: (sd, dictOf (sgE4 w t1 t2 t3 t4 en st op od) 4) :: (en, oe) :: (od, PySem.W.listOf fvs.toArray k) :: own))
    (T : Top VV loo mean mg mb h₀)
    (hdp : dp + 20 < recursionLimit) (hun : unn + 200 < cLine)
    (hob : Obj.IsDictOf (strKind PySem.Challenge.rw_rr0095_01.row.prog w) oe pairs) (lo : (en == sysModules) = false) (hsv : StrsAre fvs Fs) (hsl : Fs.length ≤ 4) (hall : ∀ x ∈ Fs, x ∈ four) (hsig : ∀ x ∈ four, SigAt own pairs x)
    (hQ : ∀ fl h' tk', Fr h₀ L h' m → News h₀ L h' ((fl, PySem.W.listOf #[] 0) :: (sg, instObj 269 sd) :: (sd, dictOf (sgE4 w t1 t2 t3 t4 en st op od) 4) :: (en, oe) :: (od, PySem.W.listOf fvs.toArray k) :: own) →
      (@LT.lt Nat _ sg fl ∧ @LT.lt Nat _ sd fl ∧ @LT.lt Nat _ en fl ∧ @LT.lt Nat _ od fl ∧ AllLt fl own) → Q (.ref fl) { s with heap := h', toks := tk' })
    :
    wpAny (model PySem.Challenge.rw_rr0095_01.row.prog w) (ktrTop dp unn gd cn ⟨.function, sn, sgn, sco, smo⟩ L a ccd cl outer) (call (.ref 149) [.ref sg]) Q E s := by
  have hkk : (envX cn ⟨.function, sn, sgn, sco, smo⟩ L a ccd cl).scope.kind = .function := rfl
  refine wpAny_call ?_
  k_dflt ktr_enter
  refine tok_gen fun tkA => ?_
  rename Fr _ _ _ _ => FE
  replace FE : Fr _ _ _ (bindFr [(Str.ofString "self", Value.ref sg)]) := FE
  (repeat' (first | (k_unfold; (try dsimp only)) | (k_end; wrow_close) | ((with_reducible show wpAny _ _ (eval (PySem.Expr.Dict [] [] _) _) _ _ _); (k_dflt (refine newDict_K (by k_asm) (by k_asm) (TopRead.nolimit (by k_asm)) ?_; k_whole); intro _ _ _ _ _ q09 _ _ _ _ _; (try k_lt q09); revert q09; intro _)) | ((with_reducible show wpAny _ _ (pyIter (Value.ref _)) _ _ _); (k_dflt (first | (refine for_none_tup (by rfl) (by k_asm) (by k_asm) (by k_mem) ?_) | (refine for_none_list (by rfl) (by k_asm) (by k_asm) (by k_mem) ?_)); intro _ _ _ _)) | ((with_reducible show wpAny _ _ (exec (Stmt.For _ _ _ _ _) _) _ _ _); (k_dflt (first | refine For_own (by k_asm) (by rfl) (by rfl) ?_ | ((with_reducible show wpAny _ _ (exec (Stmt.For (Expr.Tuple _ _ _) _ _ _ _) _) _ _ _); (with_reducible rename Fr _ _ _ _ => kF9); with_unfolding_all refine' For_unrF kF9 ?_ ?ks; (case ks => (intro _; rfl)))))) | ((with_reducible show wpAny _ _ (subscriptTail _ _ (Value.ref _) (Value.str _ _)) _ _ _); k_dflt (refine kda_item (knd := PySem.strKind _ _) (by k_asm) (by k_mem) (by k_asm) (strKind_is _ _ _ _) (by assumption) ?_)) | ((with_reducible show wpAny _ _ (subscriptTail _ _ (Value.ref _) (Value.int _ _)) _ _ _); k_dflt (refine item_tupleT (by exact News.isTup (by k_asm) (by k_mem)) (by decide) (by decide) (by rfl) (by rfl) ?_; k_whole)) | ((with_reducible show wpAny _ _ (getItem (Value.ref _) (Value.str _ _)) _ _ _); (k_dflt (refine getItem_str (by k_asm) (by k_mem) (by k_asm) (by assumption) ?_))) | walk1 | (dsimp only; walk1) | (leave1; walk_say "STEP leave1"; try dsimp only) | fail "no step"))
  rename_i N9
  refine for_listX (fun i nw => nw = _) (by rfl) (by k_asm) (N9.perm (led_up (by k_mem))) rfl ?_ ?_
  · rintro i v nw h tk I oI hI hv rfl off F8 N8
    obtain ⟨x, t9, rfl, hx⟩ := hsv.item i v hv
    refine (hsig x (hall x (List.mem_of_getElem? hx))).ch _ ?_; rintro v9 hv9 pi pn ps e1 e2 spot u1 u2 u3 u4 un parent pvs rfl hm1 hm0 hm2 hm3 sh
    (repeat' (first | (k_unfold; (try dsimp only)) | (k_end; wrow_close) | ((with_reducible show wpAny _ _ (eval (PySem.Expr.Dict [] [] _) _) _ _ _); (k_dflt (refine newDict_K (by k_asm) (by k_asm) (TopRead.nolimit (by k_asm)) ?_; k_whole); intro _ _ _ _ _ q09 _ _ _ _ _; (try k_lt q09); revert q09; intro _)) | ((with_reducible show wpAny _ _ (pyIter (Value.ref _)) _ _ _); (k_dflt (first | (refine for_none_tup (by rfl) (by k_asm) (by k_asm) (by k_mem) ?_) | (refine for_none_list (by rfl) (by k_asm) (by k_asm) (by k_mem) ?_)); intro _ _ _ _)) | ((with_reducible show wpAny _ _ (exec (Stmt.For _ _ _ _ _) _) _ _ _); (k_dflt (first | refine For_own (by k_asm) (by rfl) (by rfl) ?_ | ((with_reducible show wpAny _ _ (exec (Stmt.For (Expr.Tuple _ _ _) _ _ _ _) _) _ _ _); (with_reducible rename Fr _ _ _ _ => kF9); with_unfolding_all refine' For_unrF kF9 ?_ ?ks; (case ks => (intro _; rfl)))))) | ((with_reducible show wpAny _ _ (subscriptTail _ _ (Value.ref _) (Value.str _ _)) _ _ _); k_dflt (refine kda_item (knd := PySem.strKind _ _) (by k_asm) (by k_mem) (by k_asm) (strKind_is _ _ _ _) (by assumption) ?_)) | ((with_reducible show wpAny _ _ (subscriptTail _ _ (Value.ref _) (Value.int _ _)) _ _ _); k_dflt (refine item_tupleT (by exact News.isTup (by k_asm) (by k_mem)) (by decide) (by decide) (by rfl) (by rfl) ?_; k_whole)) | ((with_reducible show wpAny _ _ (getItem (Value.ref _) (Value.str _ _)) _ _ _); (k_dflt (refine getItem_str (by k_asm) (by k_mem) (by k_asm) (by assumption) ?_))) | walk1 | (dsimp only; walk1) | (leave1; walk_say "STEP leave1"; try dsimp only) | fail "no step"))
    exact turn_nextX (by k_asm) (by k_asm) off rfl
  · intro av nw h tk hj F8 N8
    subst hj
    (repeat' (first | (k_unfold; (try dsimp only)) | (k_end; wrow_close) | ((with_reducible show wpAny _ _ (eval (PySem.Expr.Dict [] [] _) _) _ _ _); (k_dflt (refine newDict_K (by k_asm) (by k_asm) (TopRead.nolimit (by k_asm)) ?_; k_whole); intro _ _ _ _ _ q09 _ _ _ _ _; (try k_lt q09); revert q09; intro _)) | ((with_reducible show wpAny _ _ (pyIter (Value.ref _)) _ _ _); (k_dflt (first | (refine for_none_tup (by rfl) (by k_asm) (by k_asm) (by k_mem) ?_) | (refine for_none_list (by rfl) (by k_asm) (by k_asm) (by k_mem) ?_)); intro _ _ _ _)) | ((with_reducible show wpAny _ _ (exec (Stmt.For _ _ _ _ _) _) _ _ _); (k_dflt (first | refine For_own (by k_asm) (by rfl) (by rfl) ?_ | ((with_reducible show wpAny _ _ (exec (Stmt.For (Expr.Tuple _ _ _) _ _ _ _) _) _ _ _); (with_reducible rename Fr _ _ _ _ => kF9); with_unfolding_all refine' For_unrF kF9 ?_ ?ks; (case ks => (intro _; rfl)))))) | ((with_reducible show wpAny _ _ (subscriptTail _ _ (Value.ref _) (Value.str _ _)) _ _ _); k_dflt (refine kda_item (knd := PySem.strKind _ _) (by k_asm) (by k_mem) (by k_asm) (strKind_is _ _ _ _) (by assumption) ?_)) | ((with_reducible show wpAny _ _ (subscriptTail _ _ (Value.ref _) (Value.int _ _)) _ _ _); k_dflt (refine item_tupleT (by exact News.isTup (by k_asm) (by k_mem)) (by decide) (by decide) (by rfl) (by rfl) ?_; k_whole)) | ((with_reducible show wpAny _ _ (getItem (Value.ref _) (Value.str _ _)) _ _ _); (k_dflt (refine getItem_str (by k_asm) (by k_mem) (by k_asm) (by assumption) ?_))) | walk1 | (dsimp only; walk1) | (leave1; walk_say "STEP leave1"; try dsimp only) | fail "no step"))
    refine hQ _ _ _ (by k_asm) (News.perm (by k_asm) ?_) (by refine ⟨?_, ?_, ?_, ?_, ?_⟩ <;> simp only [*])
    intro p hp
    repeat (first | exact hp | apply List.mem_cons_of_mem)
set_option maxHeartbeats 0 in
theorem lookFields_spec {w : World} {mean : ExcName → Option Value} {mg mb : Str → Option Value} {dp unn : Nat} {gd : Option (List Code)} {cn : Str} {sn : List (Str × NameKind)} {sgn sco : Bool} {smo : List (Str × Const)} {a : Addr} {ccd : Value} {cl : List (Str × Addr)} {outer : List Env} {A₀ : Around} {base h₀ : Heap} {L : Addr} {m : Str → Option Value} {own : List (Addr × Obj)} {s : Shared} {Q E : Value → Shared → Prop}
    {sg sd en st op od ow : Addr} {t1 t2 t3 t4 t5 : Tok}
    (B : Below A₀ base outer h₀) (F : Fr h₀ L s.heap m) (X : (K39 w.params).In h₀)
    (N : News h₀ L s.heap ((sg, instObj 269 sd) :: (sd, dictOf (sgEs w t1 t2 t3 t4 t5 en st op od ow) 5) :: (ow, PySem.W.listOf #[] 0) :: own))
    (T : Top VV loo mean mg mb h₀)
    (hdp : dp + 20 < recursionLimit) (hun : unn + 200 < cLine)
    (hQ : ∀ h' tk', Fr h₀ L h' m → News h₀ L h' ((sg, instObj 269 sd) :: (sd, dictOf (sgEs w t1 t2 t3 t4 t5 en st op od ow) 5) :: (ow, PySem.W.listOf #[] 0) :: own) → Q .none { s with heap := h', toks := tk' })
    :
    wpAny (model PySem.Challenge.rw_rr0095_01.row.prog w) (ktrTop dp unn gd cn ⟨.function, sn, sgn, sco, smo⟩ L a ccd cl outer) (call (.ref 156) [.ref sg]) Q E s := by
  have hkk : (envX cn ⟨.function, sn, sgn, sco, smo⟩ L a ccd cl).scope.kind = .function := rfl
  refine wpAny_call ?_
  k_dflt ktr_enter
  refine tok_gen fun tkA => ?_
  rename Fr _ _ _ _ => FE
  replace FE : Fr _ _ _ (bindFr [(Str.ofString "self", Value.ref sg)]) := FE
  (repeat' (first | (k_unfold; (try dsimp only)) | (k_end; wrow_close) | ((with_reducible show wpAny _ _ (eval (PySem.Expr.Dict [] [] _) _) _ _ _); (k_dflt (refine newDict_K (by k_asm) (by k_asm) (TopRead.nolimit (by k_asm)) ?_; k_whole); intro _ _ _ _ _ q09 _ _ _ _ _; (try k_lt q09); revert q09; intro _)) | ((with_reducible show wpAny _ _ (pyIter (Value.ref _)) _ _ _); (k_dflt (first | (refine for_none_tup (by rfl) (by k_asm) (by k_asm) (by k_mem) ?_) | (refine for_none_list (by rfl) (by k_asm) (by k_asm) (by k_mem) ?_)); intro _ _ _ _)) | ((with_reducible show wpAny _ _ (exec (Stmt.For _ _ _ _ _) _) _ _ _); (k_dflt (first | refine For_own (by k_asm) (by rfl) (by rfl) ?_ | ((with_reducible show wpAny _ _ (exec (Stmt.For (Expr.Tuple _ _ _) _ _ _ _) _) _ _ _); (with_reducible rename Fr _ _ _ _ => kF9); with_unfolding_all refine' For_unrF kF9 ?_ ?ks; (case ks => (intro _; rfl)))))) | ((with_reducible show wpAny _ _ (subscriptTail _ _ (Value.ref _) (Value.str _ _)) _ _ _); k_dflt (refine kda_item (knd := PySem.strKind _ _) (by k_asm) (by k_mem) (by k_asm) (strKind_is _ _ _ _) (by assumption) ?_)) | ((with_reducible show wpAny _ _ (subscriptTail _ _ (Value.ref _) (Value.int _ _)) _ _ _); k_dflt (refine item_tupleT (by exact News.isTup (by k_asm) (by k_mem)) (by decide) (by decide) (by rfl) (by rfl) ?_; k_whole)) | ((with_reducible show wpAny _ _ (getItem (Value.ref _) (Value.str _ _)) _ _ _); (k_dflt (refine getItem_str (by k_asm) (by k_mem) (by k_asm) (by assumption) ?_))) | walk1 | (dsimp only; walk1) | (leave1; walk_say "STEP leave1"; try dsimp only) | fail "no step"))
  exact hQ _ _ (by k_asm) (News.perm (by k_asm) fun p hp => .tail _ hp)
end
section
variable {VV : Program} {loo : List Str}
def SigPairs (own : List (Addr × Obj)) (pairs : List (Str × Value)) (ns : List Str) : Prop := pairs.map (·.1) = ns ∧ ∀ p ∈ pairs, SigV own p.2 p.1
theorem valueAt_none {pairs : List (Str × Value)} {x : Str} (h : x ∉ pairs.map (·.1)) : valueAt pairs x = none := by
  unfold valueAt
  rw [List.find?_eq_none.mpr]
  · rfl
  · intro p hp
    have : p.1 ≠ x := fun e => h (List.mem_map.mpr ⟨p, hp, e⟩)
    simpa using this
theorem valueAt_some {pairs : List (Str × Value)} {x : Str} (h : x ∈ pairs.map (·.1)) : ∃ v, valueAt pairs x = some v ∧ (x, v) ∈ pairs := by
  unfold valueAt
  obtain ⟨p, hp, e⟩ := List.mem_map.mp h
  cases q : pairs.find? fun kv => kv.1 = x with
  | none => exact absurd e (by simpa using List.find?_eq_none.mp q p hp)
  | some r =>
    have h1 := List.find?_some q
    have h2 := List.mem_of_find?_eq_some q
    have h1 : r.1 = x := by simpa using h1
    exact ⟨r.2, rfl, by subst h1; exact h2⟩
theorem SigPairs.at {own : List (Addr × Obj)} {pairs : List (Str × Value)} {ns : List Str} (h : SigPairs own pairs ns) {x : Str} (hx : x ∈ ns) : SigAt own pairs x := by
  obtain ⟨v, e, hm⟩ := valueAt_some (h.1 ▸ hx)
  exact ⟨v, e, h.2 _ hm⟩
theorem SigPairs.snoc {own : List (Addr × Obj)} {pairs : List (Str × Value)} {ns : List Str} (h : SigPairs own pairs ns) {x : Str} {v : Value} (hx : x ∉ ns) (hv : SigV own v x) : SigPairs own (stored pairs x v) (ns ++ [x]) := by
  rw [stored_absent (valueAt_none (h.1 ▸ hx))]
  refine ⟨by rw [List.map_append, h.1]; rfl, fun p hp => ?_⟩
  rcases List.mem_append.mp hp with q | q
  · exact h.2 p q
  · rw [List.mem_singleton.mp q]; exact hv
theorem SigPairs.new {own : List (Addr × Obj)} {pairs : List (Str × Value)} {ns : List Str} (h : SigPairs own pairs ns) {x : Str} (hx : x ∉ ns) : (valueAt pairs x).isSome = false := by
  rw [valueAt_none (h.1 ▸ hx)]; rfl
theorem SigPairs.len {own : List (Addr × Obj)} {pairs : List (Str × Value)} {ns : List Str} (h : SigPairs own pairs ns) : pairs.length = ns.length := by rw [← h.1, List.length_map]
theorem off_map {nw nw' : List (Addr × Obj)} {I : Addr} (h : ∀ p ∈ nw, p.1 ≠ I) (e : nw'.map (·.1) = nw.map (·.1)) : ∀ p ∈ nw', p.1 ≠ I := fun p hp => by
  have : p.1 ∈ nw.map (·.1) := e ▸ List.mem_map.mpr ⟨p, hp, rfl⟩
  obtain ⟨q, hq, z⟩ := List.mem_map.mp this
  exact z ▸ h q hq
theorem names_take {its : List It} {i : Nat} {x : Str} (h : its[i]? = some (.sig x)) : sigNames (its.take (i + 1)) = sigNames (its.take i) ++ [x] := by
  have : its.take (i + 1) = its.take i ++ [.sig x] := by simp [List.take_add_one, h]
  rw [this, sigNames_append]; rfl
theorem names_take_opn {its : List It} {i : Nat} {d : OpD} (h : its[i]? = some (.opn d)) : sigNames (its.take (i + 1)) = sigNames (its.take i) := by
  have : its.take (i + 1) = its.take i ++ [.opn d] := by simp [List.take_add_one, h]
  rw [this, sigNames_append]; exact List.append_nil _
theorem names_split (its : List It) (i : Nat) : sigNames its = sigNames (its.take i) ++ sigNames (its.drop i) := by rw [← sigNames_append, List.take_append_drop]
theorem names_new {its : List It} {i : Nat} {x : Str} (hn : (sigNames its).Nodup) (h : its[i]? = some (.sig x)) : x ∉ sigNames (its.take i) := by
  have e := names_split its (i + 1)
  rw [names_take h] at e
  rw [e] at hn
  have := (List.nodup_append.mp (List.nodup_append.mp hn).1).2.2
  exact fun hx => this x hx x (.head _) rfl
theorem names_len {its : List It} (i : Nat) (h : (sigNames its).length = 4) : (sigNames (its.take i)).length ≤ 4 := by
  have e := congrArg List.length (names_split its i)
  rw [List.length_append] at e
  kpa_ne
local macro_rules | `(tactic| k_mem) => `(tactic| ((repeat (first | assumption | apply List.mem_cons_of_mem)); done))
theorem runOpens_append : ∀ (l₁ l₂ : List OpD) (os : List (Str × Str)), runOpens os (l₁ ++ l₂) = match runOpens os l₁ with
    | .ok os' => runOpens os' l₂
    | .error e => .error e
  | [], _, _ => rfl
  | d :: r, l₂, os => by
    simp only [List.cons_append, runOpens]
    cases takeOne os d with
    | none => rfl
    | some os' => exact runOpens_append r l₂ os'
theorem opens_take {its : List It} {i : Nat} {d : OpD} (h : its[i]? = some (.opn d)) : opensOf (its.take (i + 1)) = opensOf (its.take i) ++ [d] := by
  have : its.take (i + 1) = its.take i ++ [.opn d] := by simp [List.take_add_one, h]
  rw [this, opensOf_append]; rfl
theorem opens_take_sig {its : List It} {i : Nat} {x : Str} (h : its[i]? = some (.sig x)) : opensOf (its.take (i + 1)) = opensOf (its.take i) := by
  have : its.take (i + 1) = its.take i ++ [.sig x] := by simp [List.take_add_one, h]
  rw [this, opensOf_append]; exact List.append_nil _
theorem opens_split (its : List It) (i : Nat) : opensOf its = opensOf (its.take i) ++ opensOf (its.drop i) := by rw [← opensOf_append, List.take_append_drop]
theorem opens_mem {its : List It} {i : Nat} {d : OpD} (h : its[i]? = some (.opn d)) : d ∈ opensOf its := by
  rw [opens_split its (i + 1), opens_take h]
  exact List.mem_append.mpr (.inl (List.mem_append.mpr (.inr (.head _))))
theorem run_ok_len : ∀ {l : List OpD} {os os' : List (Str × Str)}, runOpens os l = .ok os' → os'.length = os.length + l.length
  | [], _, _, h => by cases h; rfl
  | d :: r, os, os', h => by
    simp only [runOpens, takeOne] at h
    split at h
    · cases h
    · rename_i z
      split at z
      · cases z
        have := run_ok_len h
        simp only [List.length_append, List.length_cons, List.length_nil] at this ⊢
        kpa_ne
      · cases z
theorem takes_law {pairs : List (Str × Value)} {os : List (Str × Str)} {module : Str} {args : List Str} {alias : Str} (hk : ∀ x, (valueAt pairs x).isSome = true ↔ x ∈ four) : Takes pairs os module args alias ↔ lawTakes os module args alias = true := by
  have h1 : ∀ x : Str, ([Str.ofString "A", Str.ofString "B", Str.ofString "C", Str.ofString "D"].any (· == x)) = true ↔ x ∈ four := fun x => by
    rw [List.any_eq_true]
    constructor
    · rintro ⟨y, hy, e⟩; exact (beq_iff_eq.mp e) ▸ hy
    · exact fun h => ⟨x, h, by simp⟩
  have h2 : ∀ x : Str, (!(os.map (·.1)).any (· == x)) = true ↔ x ∉ os.map (·.1) := fun x => by
    rw [Bool.not_eq_true', ← Bool.not_eq_true, List.any_eq_true]
    constructor
    · exact fun h hx => h ⟨x, hx, by simp⟩
    · rintro h ⟨y, hy, e⟩; exact h ((beq_iff_eq.mp e) ▸ hy)
  unfold Takes lawTakes
  constructor
  · rintro ⟨rfl, x, rfl, hv, hn⟩
    rw [Bool.and_eq_true]
    refine ⟨by simp, ?_⟩
    simp only [Bool.and_eq_true]
    exact ⟨(h1 x).mpr ((hk x).mp hv), (h2 _).mpr hn⟩
  · intro h
    rw [Bool.and_eq_true] at h
    obtain ⟨a, b⟩ := h
    match args, b with
    | [x], b =>
      simp only [Bool.and_eq_true] at b
      exact ⟨by simpa using a, x, rfl, (hk x).mpr ((h1 x).mp b.1), (h2 _).mp b.2⟩
theorem one_alias {x : Str} (h : x ∈ lawAliases) : x.length ≤ 100 ∧ PyData.strOk x = true ∧ (ordName x).length ≤ 100 ∧ PyData.strOk (ordName x) = true := by
  have : ∀ y ∈ lawAliases, decide (y.length ≤ 100) && PyData.strOk y && decide ((ordName y).length ≤ 100) && PyData.strOk (ordName y) = true := by decide +kernel
  simpa [and_assoc] using this x h
theorem one_sig {x : Str} (h : x ∈ lawSigs) : x.length ≤ 100 ∧ PyData.strOk x = true := by
  have : ∀ y ∈ lawSigs, decide (y.length ≤ 100) && PyData.strOk y = true := by decide +kernel
  simpa using this x h
theorem mod_len {x : Str} (h : x = Str.ofString "util/ordering" ∨ x = Str.ofString "util/order") : x.length ≤ 100 := by
  rcases h with rfl | rfl <;> decide +kernel
theorem OsOk.dat {os : List (Str × Str)} (h : OsOk os) : ∀ d ∈ os.map fun o => Dat.str o.1, kqdOk 8 d = true := by
  intro d hd
  obtain ⟨o, ho, rfl⟩ := List.mem_map.mp hd
  exact (h o ho).1
theorem OsOk.snoc {os : List (Str × Str)} (h : OsOk os) {d : OpD} (hd : d.Ok) {x : Str} (hx : d.args = [x]) : OsOk (os ++ [(ordName d.alias, x)]) := fun o ho => by
  rcases List.mem_append.mp ho with q | q
  · exact h o q
  · rw [List.mem_singleton.mp q]
    have a := one_alias hd.2.2.2
    have b := one_sig (hd.2.1 x (hx ▸ .head _))
    exact ⟨a.2.2.2, b.2, a.2.2.1, b.1⟩
theorem allLt_mem {d : Addr} : ∀ {l : List (Addr × Obj)}, (∀ p ∈ l, @LT.lt Nat _ p.1 d) → AllLt d l
  | [], _ => trivial
  | p :: _, h => ⟨h p (.head _), allLt_mem fun q hq => h q (.tail _ hq)⟩
theorem shp_strs {p : Str} {pvs : List Value} {ds : List Str} (h : Shp p pvs ds) : ∃ ps, StrsAre pvs ps ∧ ps.length ≤ 10 := by
  cases h
  · exact ⟨[], .nil, by decide⟩
  · exact ⟨[], .nil, by decide⟩
  · exact ⟨_, .cons _ _ .nil, by decide⟩
theorem offOf {own : List (Addr × Obj)} {a : Addr} (h : AllLt a own) : ∀ {ds : List Addr}, (∀ d ∈ ds, @LE.le Nat _ a d) → OwnOff own ds := fun hd p hp b hb => Nat.ne_of_lt (Nat.lt_of_lt_of_le (kst_ltOf h p hp) (hd b hb))
theorem neOf {own : List (Addr × Obj)} {a b : Addr} {p : Addr × Obj} (h : AllLt a own) (hp : p ∈ own) (e : @LE.le Nat _ a b) : @Ne Nat p.1 b := Nat.ne_of_lt (Nat.lt_of_lt_of_le (kst_ltOf h p hp) e)
theorem off_cons {own : List (Addr × Obj)} {p : Addr × Obj} {a b : Addr} (h : OwnOff own [a, b]) (h1 : @Ne Nat p.1 a) (h2 : @Ne Nat p.1 b) : OwnOff (p :: own) [a, b] := fun q hq d hd => by
  rcases List.mem_cons.mp hq with rfl | hq
  · rcases List.mem_cons.mp hd with rfl | hd
    · exact h1
    · exact List.mem_singleton.mp hd ▸ h2
  · exact h q hq d hd
set_option maxHeartbeats 0 in
theorem init_spec {w : World} {mean : ExcName → Option Value} {mg mb : Str → Option Value} {dp un : Nat} {gd : Option (List Code)} {cn : Str} {sn : List (Str × NameKind)} {sgn sco : Bool} {smo : List (Str × Const)} {a : Addr} {ccd : Value} {cl : List (Str × Addr)} {outer : List Env} {A₀ : Around} {base h₀ : Heap} {L : Addr} {m : Str → Option Value} {own : List (Addr × Obj)} {s : Shared} {Q E : Value → Shared → Prop}
    {il : Addr} {ivs : List Value} {its : List It} {k0 : Nat}
    (B : Below A₀ base outer h₀) (F : Fr h₀ L s.heap m) (X : (K39 w.params).In h₀)
    (N : News h₀ L s.heap ((il, PySem.W.listOf ivs.toArray k0) :: own))
    (T : Top VV loo mean mg mb h₀)
    (hdp : dp + 100 < recursionLimit) (hun : un + 1000 < cLine)
    (hits : All2 (ItV own) ivs its) (hF : Fours (sigNames its)) (hok : ∀ d ∈ opensOf its, d.Ok) (hol : (opensOf its).length ≤ 20)
    (hQ : ∀ sg sd en st op od ow oe os ovs kn nws t1 t2 t3 t4 t5 pairs h' tk', runOpens [] (opensOf its) = .ok os → Fr h₀ L h' m →
      News h₀ L h' ((sg, instObj 269 sd) :: (sd, dictOf (sgEs w t1 t2 t3 t4 t5 en st op od ow) 5) :: (op, PySem.W.listOf ovs.toArray kn) :: (en, oe) :: (il, PySem.W.listOf ivs.toArray k0) :: (nws ++ own)) →
      Obj.IsDictOf (strKind PySem.Challenge.rw_rr0095_01.row.prog w) oe pairs → (en == sysModules) = false → (∀ x, (valueAt pairs x).isSome = true ↔ x ∈ four) → PairsAt nws ovs os → OsOk os → (∀ p ∈ nws, @LT.lt Nat _ op p.1) →
      (@LT.lt Nat _ il sd ∧ AllLt sd own ∧ @LT.lt Nat _ sd sg ∧ @LT.lt Nat _ sg en ∧ @LT.lt Nat _ en op) → Q (.ref sg) { s with heap := h', toks := tk' })
    (hE : ∀ spot, runOpens [] (opensOf its) = .error spot → ∀ g h' e dx tk' what u k1 k2 k3, Fr h₀ L g m → g.UpToSlots h' →
      RaisedD base (envX cn ⟨.function, sn, sgn, sco, smo⟩ L a ccd cl :: outer) e dx ((dx, dictOf [⟨PyData.keyHash w.params (Str.ofString "what"), .str (Str.ofString "what") k1, .str what k2⟩, ⟨PyData.keyHash w.params (Str.ofString "spot"), .str (Str.ofString "spot") k3, .int spot u⟩] 2) ::
        (il, PySem.W.listOf ivs.toArray k0) :: own) h' → (g.get? e = none ∧ g.get? dx = none) →
      E (.ref e) { s with heap := h', toks := tk' })
    :
    wpAny (model PySem.Challenge.rw_rr0095_01.row.prog w) (ktrTop dp un gd cn ⟨.function, sn, sgn, sco, smo⟩ L a ccd cl outer) (call (.ref 269) [.ref il]) Q E s := by
  have hkk : (envX cn ⟨.function, sn, sgn, sco, smo⟩ L a ccd cl).scope.kind = .function := rfl
  (repeat' (first | (k_unfold; (try dsimp only)) | (k_end; wrow_close) | ((with_reducible show wpAny _ _ (pyIter (Value.ref _)) _ _ _); (refine here_mark ?_)) | ((with_reducible show wpAny _ _ (exec (Stmt.For _ _ _ _ _) _) _ _ _); (k_dflt (refine For_own (by k_asm) (by rfl) (by rfl) ?_))) | ((with_reducible show wpAny _ _ (subscriptTail _ _ (Value.ref _) (Value.int _ _)) _ _ _); k_dflt (refine item_tupleT (by exact News.isTup (by k_asm) (by k_mem)) (by decide) (by decide) (by rfl) (by rfl) ?_; k_whole)) | ((first | (with_reducible show wpAny _ _ (call (Value.ref 123) _) _ _ _) | (with_reducible show wpAny _ _ (call (Value.ref 130) _) _ _ _) | (with_reducible show wpAny _ _ (call (Value.ref 142) _) _ _ _) | (with_reducible show wpAny _ _ (call (Value.ref 149) _) _ _ _) | (with_reducible show wpAny _ _ (call (Value.ref 156) _) _ _ _) | (with_reducible show wpAny _ _ (call (Value.ref 161) _) _ _ _)); refine here_mark ?_) | walk1 | (dsimp only; walk1) | (leave1; walk_say "STEP leave1"; try dsimp only) | fail "no step"))
  change wpAny _ _ _ _ _ _
  rename_i sg sd hA FA NA la1 la2 g L1 h1 FG BG XG TG tk0 en hB oe lo9 hs9 fs9 hi9 fi9 lb hC st hD lc hE9 op hF' ld hG F9 N9
  clear hi9 fi9 fs9 NA FA
  obtain ⟨hnd, hmem, hlen⟩ := id hF
  obtain ⟨t1, t2, t3, N8⟩ : ∃ t1 t2 t3, News g L1 hG ((il, PySem.W.listOf ivs.toArray k0) :: (op, PySem.W.listOf #[] 0) :: (st, PySem.W.listOf ([] : List Value).toArray 0) :: (en, oe) :: (sg, instObj 269 sd) :: (sd, dictOf (sgE3 w t1 t2 t3 en st op) 3) :: own) := ⟨tk0 + 1, tk0 + 2 + 1, tk0 + 2 + 2 + 1, N9.perm (by
    iterate 6 refine List.forall_mem_cons.mpr ⟨by k_mem, ?_⟩
    intro p hp
    repeat (first | exact hp | apply List.mem_cons_of_mem))⟩
  clear N9
  refine inv_gen (fun (i : Nat) (nw : List (Addr × Obj)) => ∀ CC : Prop, (∀ oe' pairs svs kk, (nw = (op, PySem.W.listOf #[] 0) :: (st, PySem.W.listOf svs.toArray kk) :: (en, oe') :: (sg, instObj 269 sd) :: (sd, dictOf (sgE3 w t1 t2 t3 en st op) 3) :: own) → (oe'.IsDictOf (strKind PySem.Challenge.rw_rr0095_01.row.prog w) pairs) → (SigPairs own pairs (sigNames (its.take i))) → (StrsAre svs (sigNames (its.take i))) → CC) → CC) ?_
  intro J hJ
  refine for_listX J (by rfl) F9 N8 (of_inv2 hJ fun CC kQ9 => kQ9 oe [] [] 0 rfl hs9 ⟨rfl, fun _ h => nomatch h⟩ .nil) ?_ ?_
  · rintro i v nw h tk I oI hI hv hJ1 off F8 N8
    refine abs_both fun TT EE hTT => ?_
    refine to_inv2 hJ hJ1 _ ?_; rintro oe' pairs svs kk rfl hdd hpr hst
    clear hJ1
    obtain ⟨it, hit, hiv⟩ := hits.get hv
    cases it with
    | opn d =>
      refine OpenV.ch hiv _ ?_; clear hiv; rintro ai aa u1 u2 u3 u4 avs rfl hm1 hm2 hargs
      (repeat' (first | (k_unfold; (try dsimp only)) | (k_end; wrow_close) | ((with_reducible show wpAny _ _ (pyIter (Value.ref _)) _ _ _); (refine here_mark ?_)) | ((with_reducible show wpAny _ _ (exec (Stmt.For _ _ _ _ _) _) _ _ _); (k_dflt (refine For_own (by k_asm) (by rfl) (by rfl) ?_))) | ((with_reducible show wpAny _ _ (subscriptTail _ _ (Value.ref _) (Value.int _ _)) _ _ _); k_dflt (refine item_tupleT (by exact News.isTup (by k_asm) (by k_mem)) (by decide) (by decide) (by rfl) (by rfl) ?_; k_whole)) | ((first | (with_reducible show wpAny _ _ (call (Value.ref 123) _) _ _ _) | (with_reducible show wpAny _ _ (call (Value.ref 130) _) _ _ _) | (with_reducible show wpAny _ _ (call (Value.ref 142) _) _ _ _) | (with_reducible show wpAny _ _ (call (Value.ref 149) _) _ _ _) | (with_reducible show wpAny _ _ (call (Value.ref 156) _) _ _ _) | (with_reducible show wpAny _ _ (call (Value.ref 161) _) _ _ _)); refine here_mark ?_) | walk1 | (dsimp only; walk1) | (leave1; walk_say "STEP leave1"; try dsimp only) | fail "no step"))
      exact hTT _ _ (turn_nextX (by k_asm) (by k_asm) off (of_inv2 hJ fun CC kQ9 => kQ9 oe' pairs svs kk rfl hdd (by rw [names_take_opn hit]; exact hpr) (by rw [names_take_opn hit]; exact hst)))
    | sig x =>
      have hiv2 := hiv
      refine SigV.ch hiv _ ?_; clear hiv; rintro pi pn ps e1 e2 spot u1 u2 u3 u4 ux parent pvs rfl hm1 hm0 hm2 hm3 sh
      (repeat' (first | (k_unfold; (try dsimp only)) | (k_end; wrow_close) | ((with_reducible show wpAny _ _ (pyIter (Value.ref _)) _ _ _); (refine here_mark ?_)) | ((with_reducible show wpAny _ _ (exec (Stmt.For _ _ _ _ _) _) _ _ _); (k_dflt (refine For_own (by k_asm) (by rfl) (by rfl) ?_))) | ((with_reducible show wpAny _ _ (subscriptTail _ _ (Value.ref _) (Value.int _ _)) _ _ _); k_dflt (refine item_tupleT (by exact News.isTup (by k_asm) (by k_mem)) (by decide) (by decide) (by rfl) (by rfl) ?_; k_whole)) | ((first | (with_reducible show wpAny _ _ (call (Value.ref 123) _) _ _ _) | (with_reducible show wpAny _ _ (call (Value.ref 130) _) _ _ _) | (with_reducible show wpAny _ _ (call (Value.ref 142) _) _ _ _) | (with_reducible show wpAny _ _ (call (Value.ref 149) _) _ _ _) | (with_reducible show wpAny _ _ (call (Value.ref 156) _) _ _ _) | (with_reducible show wpAny _ _ (call (Value.ref 161) _) _ _ _)); refine here_mark ?_) | walk1 | (dsimp only; walk1) | (leave1; walk_say "STEP leave1"; try dsimp only) | fail "no step"))
      change wpAny _ _ _ _ _ _
      obtain ⟨pn', hps, hpl⟩ := shp_strs sh
      have hl4 := names_len i hlen
      have e1' := hpr.len
      have e2' := hst.length
      have oI1 : @Ne Nat I en := fun z => off (en, oe') (.tail _ (.tail _ (.head _))) z.symm
      have oI2 : @Ne Nat I st := fun z => off (st, PySem.W.listOf svs.toArray kk) (.tail _ (.head _)) z.symm
      obtain ⟨q1, q2, q3, q4⟩ := id lb
      obtain ⟨r1, r2, r3, r4, r5⟩ := id lc
      obtain ⟨z1, z2, z3, z4, z5, z6⟩ := id ld
      have N7 : News g L1 h ((sg, instObj 269 sd) :: (sd, dictOf (sgE3 w t1 t2 t3 en st op) 3) :: (en, oe') :: (st, PySem.W.listOf svs.toArray kk) :: (pi, sigO spot u1 u2 u3 u4 pn ps e1 e2 parent) :: (pn, tupO [.str x ux]) :: (ps, tupO pvs) :: (I, oI) :: (il, PySem.W.listOf ivs.toArray k0) :: (op, PySem.W.listOf #[] 0) :: own) := N8.perm (by
        iterate 10 refine List.forall_mem_cons.mpr ⟨by k_mem, ?_⟩
        intro p hp
        repeat (first | exact hp | apply List.mem_cons_of_mem))
      refine takeSig_spec (ns := []) BG F8 XG N7 TG (by ktr_room) (by ktr_units) hdd lo9 (hpr.new (names_new hnd hit)) hps hpl (by kpa_ne) (by kpa_ne)
        (Nat.ne_of_lt r2) (Nat.ne_of_lt r3) (Nat.ne_of_lt r1) (neOf q4 hm1 (Nat.le_of_lt r1)) (neOf q4 hm0 (Nat.le_of_lt r1)) (neOf q4 hm2 (Nat.le_of_lt r1))
        (Nat.ne_of_lt q1) (Nat.ne_of_lt q2) (neOf q4 hm1 (Nat.le_refl _)) (neOf q4 hm0 (Nat.le_refl _)) (neOf q4 hm2 (Nat.le_refl _)) ?_ ?_
      · refine off_cons (off_cons (off_cons (offOf q4 ?_) (Nat.ne_of_gt z2) (Nat.ne_of_gt z1)) (Nat.ne_of_lt q3) (Nat.ne_of_lt r4)) oI1 oI2
        exact List.forall_mem_cons.mpr ⟨Nat.le_refl _, List.forall_mem_cons.mpr ⟨Nat.le_of_lt r1, List.forall_mem_nil _⟩⟩
      · intro oe2 h2 tk2 hdd2 F2 N2
        (repeat' (first | (k_unfold; (try dsimp only)) | (k_end; wrow_close) | ((with_reducible show wpAny _ _ (pyIter (Value.ref _)) _ _ _); (refine here_mark ?_)) | ((with_reducible show wpAny _ _ (exec (Stmt.For _ _ _ _ _) _) _ _ _); (k_dflt (refine For_own (by k_asm) (by rfl) (by rfl) ?_))) | ((with_reducible show wpAny _ _ (subscriptTail _ _ (Value.ref _) (Value.int _ _)) _ _ _); k_dflt (refine item_tupleT (by exact News.isTup (by k_asm) (by k_mem)) (by decide) (by decide) (by rfl) (by rfl) ?_; k_whole)) | ((first | (with_reducible show wpAny _ _ (call (Value.ref 123) _) _ _ _) | (with_reducible show wpAny _ _ (call (Value.ref 130) _) _ _ _) | (with_reducible show wpAny _ _ (call (Value.ref 142) _) _ _ _) | (with_reducible show wpAny _ _ (call (Value.ref 149) _) _ _ _) | (with_reducible show wpAny _ _ (call (Value.ref 156) _) _ _ _) | (with_reducible show wpAny _ _ (call (Value.ref 161) _) _ _ _)); refine here_mark ?_) | walk1 | (dsimp only; walk1) | (leave1; walk_say "STEP leave1"; try dsimp only) | fail "no step"))
        refine hTT _ _ ?_
        refine turn_nextX (nw' := (op, PySem.W.listOf #[] 0) :: (st, PySem.W.listOf (svs ++ [Value.str x ux]).toArray (kk + 1)) :: (en, oe2) :: (sg, instObj 269 sd) :: (sd, dictOf (sgE3 w t1 t2 t3 en st op) 3) :: own)
          (by k_asm) (News.perm (by k_asm) ?_) (off_map off rfl) (of_inv2 hJ fun CC kQ9 => kQ9 oe2 _ (svs ++ [Value.str x ux]) (kk + 1) rfl hdd2 (by rw [names_take hit]; exact hpr.snoc (names_new hnd hit) hiv2) (by rw [names_take hit]; exact strs_snoc hst))
        iterate 7 refine List.forall_mem_cons.mpr ⟨by k_mem, ?_⟩
        intro p hp
        repeat (first | exact hp | apply List.mem_cons_of_mem)
  · intro av nw h tk hj F8 N8
    refine to_inv2 hJ hj _ ?_; rintro oe' pairs svs kk rfl hdd hpr hst
    clear hj
    rw [hits.length, List.take_length] at hpr hst
    have hA := hpr.at ((hmem _).mpr (by decide : Str.ofString "A" ∈ four))
    refine hA.ch _ ?_; rintro vA hvA piA pnA psA e1A e2A spotA v1 v2 v3 v4 uxA parentA pvsA rfl hmA1 hmA0 hmA2 hmA3 shA
    rw [show dOf (Str.ofString "A") = [] by decide] at shA
    cases shA
    have hl4 : svs.length ≤ 4 := by have := hst.length; kpa_ne
    (repeat' (first | (k_unfold; (try dsimp only)) | (k_end; wrow_close) | ((with_reducible show wpAny _ _ (pyIter (Value.ref _)) _ _ _); (refine here_mark ?_)) | ((with_reducible show wpAny _ _ (exec (Stmt.For _ _ _ _ _) _) _ _ _); (k_dflt (refine For_own (by k_asm) (by rfl) (by rfl) ?_))) | ((with_reducible show wpAny _ _ (subscriptTail _ _ (Value.ref _) (Value.int _ _)) _ _ _); k_dflt (refine item_tupleT (by exact News.isTup (by k_asm) (by k_mem)) (by decide) (by decide) (by rfl) (by rfl) ?_; k_whole)) | ((first | (with_reducible show wpAny _ _ (call (Value.ref 123) _) _ _ _) | (with_reducible show wpAny _ _ (call (Value.ref 130) _) _ _ _) | (with_reducible show wpAny _ _ (call (Value.ref 142) _) _ _ _) | (with_reducible show wpAny _ _ (call (Value.ref 149) _) _ _ _) | (with_reducible show wpAny _ _ (call (Value.ref 156) _) _ _ _) | (with_reducible show wpAny _ _ (call (Value.ref 161) _) _ _ _)); refine here_mark ?_) | walk1 | (dsimp only; walk1) | (leave1; walk_say "STEP leave1"; try dsimp only) | fail "no step"))
    change wpAny _ _ _ _ _ _
    refine inv_gen (fun (i : Nat) (nw : List (Addr × Obj)) => nw = (il, PySem.W.listOf ivs.toArray k0) :: (op, PySem.W.listOf #[] 0) :: (en, oe') :: (sg, instObj 269 sd) :: (sd, dictOf (sgE3 w t1 t2 t3 en st op) 3) :: own) ?_
    intro J2 hJ2
    refine for_listX J2
      (vs := svs) (k := kk) (by rfl) (by k_asm) (News.perm (by k_asm) ?_) (of_inv2 hJ2 rfl) ?_ ?_
    · iterate 6 refine List.forall_mem_cons.mpr ⟨by k_mem, ?_⟩
      intro p hp
      repeat (first | exact hp | apply List.mem_cons_of_mem)
    · rintro i v nw h2 tk2 I oI hI hv hJ3 off F7 N7
      refine abs_both fun TT EE hTT => ?_
      obtain rfl := to_inv2 hJ2 hJ3
      clear hJ3
      obtain ⟨x, t9, rfl, hx⟩ := hst.item i v hv
      refine (hpr.at (List.mem_of_getElem? hx)).ch _ ?_; rintro v9 hv9 pi pn ps e1 e2 spot u1 u2 u3 u4 ux parent pvs rfl hm1 hm0 hm2 hm3 sh
      (repeat' (first | (k_unfold; (try dsimp only)) | (k_end; wrow_close) | ((with_reducible show wpAny _ _ (pyIter (Value.ref _)) _ _ _); (refine here_mark ?_)) | ((with_reducible show wpAny _ _ (exec (Stmt.For _ _ _ _ _) _) _ _ _); (k_dflt (refine For_own (by k_asm) (by rfl) (by rfl) ?_))) | ((with_reducible show wpAny _ _ (subscriptTail _ _ (Value.ref _) (Value.int _ _)) _ _ _); k_dflt (refine item_tupleT (by exact News.isTup (by k_asm) (by k_mem)) (by decide) (by decide) (by rfl) (by rfl) ?_; k_whole)) | ((first | (with_reducible show wpAny _ _ (call (Value.ref 123) _) _ _ _) | (with_reducible show wpAny _ _ (call (Value.ref 130) _) _ _ _) | (with_reducible show wpAny _ _ (call (Value.ref 142) _) _ _ _) | (with_reducible show wpAny _ _ (call (Value.ref 149) _) _ _ _) | (with_reducible show wpAny _ _ (call (Value.ref 156) _) _ _ _) | (with_reducible show wpAny _ _ (call (Value.ref 161) _) _ _ _)); refine here_mark ?_) | walk1 | (dsimp only; walk1) | (leave1; walk_say "STEP leave1"; try dsimp only) | fail "no step"))
      change wpAny _ _ _ _ _ _
      have N6 : News g L1 h2 ((sg, instObj 269 sd) :: (sd, dictOf (sgE3 w t1 t2 t3 en st op) 3) :: (en, oe') :: (pi, sigO spot u1 u2 u3 u4 pn ps e1 e2 parent) :: (ps, tupO pvs) :: (piA, sigO spotA v1 v2 v3 v4 pnA psA e1A e2A (Str.ofString "")) :: (psA, tupO []) :: (I, oI) :: (st, PySem.W.listOf svs.toArray kk) :: (il, PySem.W.listOf ivs.toArray k0) :: (op, PySem.W.listOf #[] 0) :: own) := News.perm (by k_asm) (by
        iterate 11 refine List.forall_mem_cons.mpr ⟨by k_mem, ?_⟩
        intro p hp
        repeat (first | exact hp | apply List.mem_cons_of_mem))
      refine lookAbove_spec BG (by k_asm) XG N6 TG (by ktr_room) (by ktr_units) hdd lo9 hvA hv9 sh ?_
      · intro h3 tk3 F3 N3
        (repeat' (first | (k_unfold; (try dsimp only)) | (k_end; wrow_close) | ((with_reducible show wpAny _ _ (pyIter (Value.ref _)) _ _ _); (refine here_mark ?_)) | ((with_reducible show wpAny _ _ (exec (Stmt.For _ _ _ _ _) _) _ _ _); (k_dflt (refine For_own (by k_asm) (by rfl) (by rfl) ?_))) | ((with_reducible show wpAny _ _ (subscriptTail _ _ (Value.ref _) (Value.int _ _)) _ _ _); k_dflt (refine item_tupleT (by exact News.isTup (by k_asm) (by k_mem)) (by decide) (by decide) (by rfl) (by rfl) ?_; k_whole)) | ((first | (with_reducible show wpAny _ _ (call (Value.ref 123) _) _ _ _) | (with_reducible show wpAny _ _ (call (Value.ref 130) _) _ _ _) | (with_reducible show wpAny _ _ (call (Value.ref 142) _) _ _ _) | (with_reducible show wpAny _ _ (call (Value.ref 149) _) _ _ _) | (with_reducible show wpAny _ _ (call (Value.ref 156) _) _ _ _) | (with_reducible show wpAny _ _ (call (Value.ref 161) _) _ _ _)); refine here_mark ?_) | walk1 | (dsimp only; walk1) | (leave1; walk_say "STEP leave1"; try dsimp only) | fail "no step"))
        refine hTT _ _ ?_
        refine turn_nextX (by k_asm) (News.perm (by k_asm) ?_) off (of_inv2 hJ2 rfl)
        iterate 7 refine List.forall_mem_cons.mpr ⟨by k_mem, ?_⟩
        intro p hp
        repeat (first | exact hp | apply List.mem_cons_of_mem)
    · intro av2 nw h2 tk2 hj F7 N7
      obtain rfl := to_inv2 hJ2 hj
      clear hj
      (repeat' (first | (k_unfold; (try dsimp only)) | (k_end; wrow_close) | ((with_reducible show wpAny _ _ (pyIter (Value.ref _)) _ _ _); (refine here_mark ?_)) | ((with_reducible show wpAny _ _ (exec (Stmt.For _ _ _ _ _) _) _ _ _); (k_dflt (refine For_own (by k_asm) (by rfl) (by rfl) ?_))) | ((with_reducible show wpAny _ _ (subscriptTail _ _ (Value.ref _) (Value.int _ _)) _ _ _); k_dflt (refine item_tupleT (by exact News.isTup (by k_asm) (by k_mem)) (by decide) (by decide) (by rfl) (by rfl) ?_; k_whole)) | ((first | (with_reducible show wpAny _ _ (call (Value.ref 123) _) _ _ _) | (with_reducible show wpAny _ _ (call (Value.ref 130) _) _ _ _) | (with_reducible show wpAny _ _ (call (Value.ref 142) _) _ _ _) | (with_reducible show wpAny _ _ (call (Value.ref 149) _) _ _ _) | (with_reducible show wpAny _ _ (call (Value.ref 156) _) _ _ _) | (with_reducible show wpAny _ _ (call (Value.ref 161) _) _ _ _)); refine here_mark ?_) | walk1 | (dsimp only; walk1) | (leave1; walk_say "STEP leave1"; try dsimp only) | fail "no step"))
      change wpAny _ _ _ _ _ _
      have N6 : News g L1 h2 ((sg, instObj 269 sd) :: (sd, dictOf (sgE3 w t1 t2 t3 en st op) 3) :: (en, oe') :: (st, PySem.W.listOf svs.toArray kk) :: (il, PySem.W.listOf ivs.toArray k0) :: (op, PySem.W.listOf #[] 0) :: own) := News.perm (by k_asm) (by
        iterate 6 refine List.forall_mem_cons.mpr ⟨by k_mem, ?_⟩
        intro p hp
        repeat (first | exact hp | apply List.mem_cons_of_mem))
      have hsig : ∀ x ∈ four, SigAt ((il, PySem.W.listOf ivs.toArray k0) :: (op, PySem.W.listOf #[] 0) :: own) pairs x := fun x hx => by
        obtain ⟨v, e, h⟩ := hpr.at ((hmem x).mpr hx)
        exact ⟨v, e, h.mono fun p hp => .tail _ (.tail _ hp)⟩
      refine parents_spec BG (by k_asm) XG N6 TG (by ktr_room) (by ktr_units) hdd lo9 hst hl4 (fun x hx => (hmem x).mp hx) ((hmem _).mpr (by decide)) hsig ?_
      intro od Fs fvs kf h3 tk3 F3 N3 hfv hfl hf4 lod
      simp only [AllLt] at lod
      clear N6 hsig
      (repeat' (first | (k_unfold; (try dsimp only)) | (k_end; wrow_close) | ((with_reducible show wpAny _ _ (pyIter (Value.ref _)) _ _ _); (refine here_mark ?_)) | ((with_reducible show wpAny _ _ (exec (Stmt.For _ _ _ _ _) _) _ _ _); (k_dflt (refine For_own (by k_asm) (by rfl) (by rfl) ?_))) | ((with_reducible show wpAny _ _ (subscriptTail _ _ (Value.ref _) (Value.int _ _)) _ _ _); k_dflt (refine item_tupleT (by exact News.isTup (by k_asm) (by k_mem)) (by decide) (by decide) (by rfl) (by rfl) ?_; k_whole)) | ((first | (with_reducible show wpAny _ _ (call (Value.ref 123) _) _ _ _) | (with_reducible show wpAny _ _ (call (Value.ref 130) _) _ _ _) | (with_reducible show wpAny _ _ (call (Value.ref 142) _) _ _ _) | (with_reducible show wpAny _ _ (call (Value.ref 149) _) _ _ _) | (with_reducible show wpAny _ _ (call (Value.ref 156) _) _ _ _) | (with_reducible show wpAny _ _ (call (Value.ref 161) _) _ _ _)); refine here_mark ?_) | walk1 | (dsimp only; walk1) | (leave1; walk_say "STEP leave1"; try dsimp only) | fail "no step"))
      change wpAny _ _ _ _ _ _
      rename_i h4 F4 N4
      have N5 : News g L1 h4 ((sg, instObj 269 sd) :: (sd, dictOf (sgE4 w t1 t2 t3 (tk3 + 1) en st op od) 4) :: (en, oe') :: (od, PySem.W.listOf fvs.toArray kf) :: (st, PySem.W.listOf svs.toArray kk) :: (il, PySem.W.listOf ivs.toArray k0) :: (op, PySem.W.listOf #[] 0) :: own) := N4.perm (by
        iterate 7 refine List.forall_mem_cons.mpr ⟨by k_mem, ?_⟩
        intro p hp
        repeat (first | exact hp | apply List.mem_cons_of_mem))
      have hsig : ∀ x ∈ four, SigAt ((st, PySem.W.listOf svs.toArray kk) :: (il, PySem.W.listOf ivs.toArray k0) :: (op, PySem.W.listOf #[] 0) :: own) pairs x := fun x hx => by
        obtain ⟨v, e, h⟩ := hpr.at ((hmem x).mpr hx)
        exact ⟨v, e, h.mono fun p hp => .tail _ (.tail _ (.tail _ hp))⟩
      refine allFields_spec BG F4 XG N5 TG (by ktr_room) (by ktr_units) hdd lo9 hfv hfl hf4 hsig ?_
      clear N4 N5 hsig
      intro ow h5 tk5 F5 N5 low
      simp only [AllLt] at low
      (repeat' (first | (k_unfold; (try dsimp only)) | (k_end; wrow_close) | ((with_reducible show wpAny _ _ (pyIter (Value.ref _)) _ _ _); (refine here_mark ?_)) | ((with_reducible show wpAny _ _ (exec (Stmt.For _ _ _ _ _) _) _ _ _); (k_dflt (refine For_own (by k_asm) (by rfl) (by rfl) ?_))) | ((with_reducible show wpAny _ _ (subscriptTail _ _ (Value.ref _) (Value.int _ _)) _ _ _); k_dflt (refine item_tupleT (by exact News.isTup (by k_asm) (by k_mem)) (by decide) (by decide) (by rfl) (by rfl) ?_; k_whole)) | ((first | (with_reducible show wpAny _ _ (call (Value.ref 123) _) _ _ _) | (with_reducible show wpAny _ _ (call (Value.ref 130) _) _ _ _) | (with_reducible show wpAny _ _ (call (Value.ref 142) _) _ _ _) | (with_reducible show wpAny _ _ (call (Value.ref 149) _) _ _ _) | (with_reducible show wpAny _ _ (call (Value.ref 156) _) _ _ _) | (with_reducible show wpAny _ _ (call (Value.ref 161) _) _ _ _)); refine here_mark ?_) | walk1 | (dsimp only; walk1) | (leave1; walk_say "STEP leave1"; try dsimp only) | fail "no step"))
      change wpAny _ _ _ _ _ _
      rename_i h6 F6 N6
      refine lookFields_spec (sd := sd) (ow := ow) (t1 := t1) (t2 := t2) (t3 := t3) (t4 := tk3 + 1) (t5 := tk5 + 1) (en := en) (st := st) (op := op) (od := od) (own := (en, oe') :: (od, PySem.W.listOf fvs.toArray kf) :: (st, PySem.W.listOf svs.toArray kk) :: (il, PySem.W.listOf ivs.toArray k0) :: (op, PySem.W.listOf #[] 0) :: own) BG F6 XG (N6.perm ?_) TG (by ktr_room) (by ktr_units) ?_
      · iterate 8 refine List.forall_mem_cons.mpr ⟨by k_mem, ?_⟩
        intro p hp
        repeat (first | exact hp | apply List.mem_cons_of_mem)
      intro h7 tk7 F7 N7
      clear N6 F6
      (repeat' (first | (k_unfold; (try dsimp only)) | (k_end; wrow_close) | ((with_reducible show wpAny _ _ (pyIter (Value.ref _)) _ _ _); (refine here_mark ?_)) | ((with_reducible show wpAny _ _ (exec (Stmt.For _ _ _ _ _) _) _ _ _); (k_dflt (refine For_own (by k_asm) (by rfl) (by rfl) ?_))) | ((with_reducible show wpAny _ _ (subscriptTail _ _ (Value.ref _) (Value.int _ _)) _ _ _); k_dflt (refine item_tupleT (by exact News.isTup (by k_asm) (by k_mem)) (by decide) (by decide) (by rfl) (by rfl) ?_; k_whole)) | ((first | (with_reducible show wpAny _ _ (call (Value.ref 123) _) _ _ _) | (with_reducible show wpAny _ _ (call (Value.ref 130) _) _ _ _) | (with_reducible show wpAny _ _ (call (Value.ref 142) _) _ _ _) | (with_reducible show wpAny _ _ (call (Value.ref 149) _) _ _ _) | (with_reducible show wpAny _ _ (call (Value.ref 156) _) _ _ _) | (with_reducible show wpAny _ _ (call (Value.ref 161) _) _ _ _)); refine here_mark ?_) | walk1 | (dsimp only; walk1) | (leave1; walk_say "STEP leave1"; try dsimp only) | fail "no step"))
      change wpAny _ _ _ _ _ _
      have hkeys : ∀ x, (valueAt pairs x).isSome = true ↔ x ∈ four := fun x => by
        rw [← hmem x]
        constructor
        · intro h
          by_cases hx : x ∈ sigNames its
          · exact hx
          · rw [hpr.new hx] at h; cases h
        · intro hx
          obtain ⟨v, e, _⟩ := hpr.at hx
          rw [e]; rfl
      have N8 : News g L1 h7 ((il, PySem.W.listOf ivs.toArray k0) :: (op, PySem.W.listOf ([] : List Value).toArray 0) :: (sg, instObj 269 sd) :: (sd, dictOf (sgEs w t1 t2 t3 (tk3 + 1) (tk5 + 1) en st op od ow) 5) :: (en, oe') :: ([] ++ own)) := N7.perm (by
        iterate 5 refine List.forall_mem_cons.mpr ⟨by k_mem, ?_⟩
        intro p hp
        repeat (first | exact hp | apply List.mem_cons_of_mem))
      clear N7
      refine inv_gen (fun (i : Nat) (nw : List (Addr × Obj)) => ∀ CC : Prop, (∀ os ovs kn nws, (nw = (op, PySem.W.listOf ovs.toArray kn) :: (sg, instObj 269 sd) :: (sd, dictOf (sgEs w t1 t2 t3 (tk3 + 1) (tk5 + 1) en st op od ow) 5) :: (en, oe') :: (nws ++ own)) → (runOpens [] (opensOf (its.take i)) = .ok os) → (PairsAt nws ovs os) → (OsOk os) → (∀ p ∈ nws, @LT.lt Nat _ op p.1) → CC) → CC) ?_
      intro J4 hJ4
      refine for_listX J4 (by rfl) F7 N8 (of_inv2 hJ4 fun CC kQ9 => kQ9 [] [] 0 [] rfl rfl trivial (fun _ h => nomatch h) (fun _ h => nomatch h)) ?_ ?_
      · rintro i v nw h8 tk8 I oI hI hv hJ5 off F6 N6
        refine abs_post fun TT hTT => ?_
        refine to_inv2 hJ4 hJ5 _ ?_; rintro os ovs kn nws rfl hrun hps hos hgt
        clear hJ5
        obtain ⟨it, hit, hiv⟩ := hits.get hv
        cases it with
        | sig x =>
          refine SigV.ch hiv _ ?_; clear hiv; rintro pi pn ps e1 e2 spot u1 u2 u3 u4 ux parent pvs rfl hm1 hm0 hm2 hm3 sh
          have hm1' := List.mem_append.mpr (.inr hm1 : _ ∈ nws ∨ _)
          (repeat' (first | (k_unfold; (try dsimp only)) | (k_end; wrow_close) | ((with_reducible show wpAny _ _ (pyIter (Value.ref _)) _ _ _); (refine here_mark ?_)) | ((with_reducible show wpAny _ _ (exec (Stmt.For _ _ _ _ _) _) _ _ _); (k_dflt (refine For_own (by k_asm) (by rfl) (by rfl) ?_))) | ((with_reducible show wpAny _ _ (subscriptTail _ _ (Value.ref _) (Value.int _ _)) _ _ _); k_dflt (refine item_tupleT (by exact News.isTup (by k_asm) (by k_mem)) (by decide) (by decide) (by rfl) (by rfl) ?_; k_whole)) | ((first | (with_reducible show wpAny _ _ (call (Value.ref 123) _) _ _ _) | (with_reducible show wpAny _ _ (call (Value.ref 130) _) _ _ _) | (with_reducible show wpAny _ _ (call (Value.ref 142) _) _ _ _) | (with_reducible show wpAny _ _ (call (Value.ref 149) _) _ _ _) | (with_reducible show wpAny _ _ (call (Value.ref 156) _) _ _ _) | (with_reducible show wpAny _ _ (call (Value.ref 161) _) _ _ _)); refine here_mark ?_) | walk1 | (dsimp only; walk1) | (leave1; walk_say "STEP leave1"; try dsimp only) | fail "no step"))
          exact hTT _ _ (turn_nextX (by k_asm) (by k_asm) off (of_inv2 hJ4 fun CC kQ9 => kQ9 os ovs kn nws rfl (by rw [opens_take_sig hit]; exact hrun) hps hos hgt))
        | opn d =>
          refine OpenV.ch hiv _ ?_; clear hiv; rintro ai aa u1 u2 u3 u4 avs rfl hm1 hm2 hargs
          have hm1' := List.mem_append.mpr (.inr hm1 : _ ∈ nws ∨ _)
          (repeat' (first | (k_unfold; (try dsimp only)) | (k_end; wrow_close) | ((with_reducible show wpAny _ _ (pyIter (Value.ref _)) _ _ _); (refine here_mark ?_)) | ((with_reducible show wpAny _ _ (exec (Stmt.For _ _ _ _ _) _) _ _ _); (k_dflt (refine For_own (by k_asm) (by rfl) (by rfl) ?_))) | ((with_reducible show wpAny _ _ (subscriptTail _ _ (Value.ref _) (Value.int _ _)) _ _ _); k_dflt (refine item_tupleT (by exact News.isTup (by k_asm) (by k_mem)) (by decide) (by decide) (by rfl) (by rfl) ?_; k_whole)) | ((first | (with_reducible show wpAny _ _ (call (Value.ref 123) _) _ _ _) | (with_reducible show wpAny _ _ (call (Value.ref 130) _) _ _ _) | (with_reducible show wpAny _ _ (call (Value.ref 142) _) _ _ _) | (with_reducible show wpAny _ _ (call (Value.ref 149) _) _ _ _) | (with_reducible show wpAny _ _ (call (Value.ref 156) _) _ _ _) | (with_reducible show wpAny _ _ (call (Value.ref 161) _) _ _ _)); refine here_mark ?_) | walk1 | (dsimp only; walk1) | (leave1; walk_say "STEP leave1"; try dsimp only) | fail "no step"))
          change wpAny _ _ _ _ _ _
          obtain ⟨q1, q2, q3, q4⟩ := id lb
          obtain ⟨z1, z2, z3, z4, z5, z6⟩ := id ld
          have oI1 : @Ne Nat I op := fun z => off (op, PySem.W.listOf ovs.toArray kn) (.head _) z.symm
          have hdo := hok d (opens_mem hit)
          have ha := one_alias hdo.2.2.2
          have hlen1 := run_ok_len hrun
          have hlen2 := hps.length
          have hlen3 := congrArg List.length (opens_split its i)
          rw [List.length_append] at hlen3
          have N5 : News g L1 h8 ((sg, instObj 269 sd) :: (sd, dictOf (sgEs w t1 t2 t3 (tk3 + 1) (tk5 + 1) en st op od ow) 5) :: (op, PySem.W.listOf ovs.toArray kn) :: (en, oe') ::
              (ai, tupO [.str (Str.ofString "open") u1, .int d.spot u2, .str d.module u3, .ref aa, .str d.alias u4]) :: (aa, tupO avs) :: (I, oI) :: (il, PySem.W.listOf ivs.toArray k0) :: (nws ++ own)) := N6.perm (by
            iterate 4 refine List.forall_mem_cons.mpr ⟨by k_mem, ?_⟩
            refine List.forall_mem_cons.mpr ⟨.tail _ (.tail _ (.tail _ (.tail _ (.tail _ (.tail _ (List.mem_append.mpr (.inr hm1))))))), List.forall_mem_cons.mpr ⟨.tail _ (.tail _ (.tail _ (.tail _ (.tail _ (.tail _ (List.mem_append.mpr (.inr hm2))))))), ?_⟩⟩
            iterate 2 refine List.forall_mem_cons.mpr ⟨by k_mem, ?_⟩
            intro p hp
            repeat (first | exact hp | apply List.mem_cons_of_mem))
          refine take_spec (os := os) BG F6 XG N5 TG (by ktr_room) (by ktr_units) hdd lo9 (Nat.ne_of_lt z3) (Nat.ne_of_lt z4) (Nat.ne_of_lt z2) (neOf z6 hm1 (Nat.le_refl _)) (neOf z6 hm2 (Nat.le_refl _)) ?_ (PairsAt.mono (fun p hp => .tail _ (.tail _ (List.mem_append.mpr (.inl hp)))) hps) (by simp only [List.length_nil] at hlen1; kpa_ne) hargs (by have := hdo.2.2.1; kpa_ne) (mod_len hdo.1) ha.1 (fun x hx => (one_sig (hdo.2.1 x hx)).1) (fun o ho => (hos o ho).2.2.1) ha.2.1 hos.dat ?_ ?_
          · intro p hp b hb
            obtain rfl := List.mem_singleton.mp hb
            rcases List.mem_cons.mp hp with rfl | hp
            · exact oI1
            rcases List.mem_cons.mp hp with rfl | hp
            · exact Nat.ne_of_lt z5
            rcases List.mem_append.mp hp with hp | hp
            · exact Nat.ne_of_gt (hgt p hp)
            · exact neOf z6 hp (Nat.le_refl _)
          · intro nm x p ta tb h9 tk9 hT hnm hx F9 N9 l9
            obtain ⟨m1, m2, m3, m4, m5, m6, m7⟩ := l9
            (repeat' (first | (k_unfold; (try dsimp only)) | (k_end; wrow_close) | ((with_reducible show wpAny _ _ (pyIter (Value.ref _)) _ _ _); (refine here_mark ?_)) | ((with_reducible show wpAny _ _ (exec (Stmt.For _ _ _ _ _) _) _ _ _); (k_dflt (refine For_own (by k_asm) (by rfl) (by rfl) ?_))) | ((with_reducible show wpAny _ _ (subscriptTail _ _ (Value.ref _) (Value.int _ _)) _ _ _); k_dflt (refine item_tupleT (by exact News.isTup (by k_asm) (by k_mem)) (by decide) (by decide) (by rfl) (by rfl) ?_; k_whole)) | ((first | (with_reducible show wpAny _ _ (call (Value.ref 123) _) _ _ _) | (with_reducible show wpAny _ _ (call (Value.ref 130) _) _ _ _) | (with_reducible show wpAny _ _ (call (Value.ref 142) _) _ _ _) | (with_reducible show wpAny _ _ (call (Value.ref 149) _) _ _ _) | (with_reducible show wpAny _ _ (call (Value.ref 156) _) _ _ _) | (with_reducible show wpAny _ _ (call (Value.ref 161) _) _ _ _)); refine here_mark ?_) | walk1 | (dsimp only; walk1) | (leave1; walk_say "STEP leave1"; try dsimp only) | fail "no step"))
            refine hTT _ _ ?_
            refine turn_nextX (nw' := (op, PySem.W.listOf (ovs ++ [Value.ref p]).toArray (kn + 1)) :: (sg, instObj 269 sd) :: (sd, dictOf (sgEs w t1 t2 t3 (tk3 + 1) (tk5 + 1) en st op od ow) 5) :: (en, oe') :: (((p, tupO [.str nm ta, .str x tb]) :: nws) ++ own))
              (by k_asm) (N9.perm ?_) ?_ (of_inv2 hJ4 fun CC kQ9 => kQ9 (os ++ [(nm, x)]) (ovs ++ [Value.ref p]) (kn + 1) ((p, tupO [.str nm ta, .str x tb]) :: nws) rfl ?_ (PairsAt.snoc (o := (nm, x)) ⟨p, ta, tb, rfl, .head _⟩ (PairsAt.mono (fun _ h => .tail _ h) hps)) ?_ ?_)
            · iterate 6 refine List.forall_mem_cons.mpr ⟨by k_mem, ?_⟩
              refine List.forall_mem_cons.mpr ⟨by k_mem, ?_⟩
              intro p hp
              repeat (first | exact hp | apply List.mem_cons_of_mem)
            · intro q hq
              rcases List.mem_cons.mp hq with rfl | hq
              · exact off (op, PySem.W.listOf ovs.toArray kn) (.head _)
              rcases List.mem_cons.mp hq with rfl | hq
              · exact off _ (.tail _ (.head _))
              rcases List.mem_cons.mp hq with rfl | hq
              · exact off _ (.tail _ (.tail _ (.head _)))
              rcases List.mem_cons.mp hq with rfl | hq
              · exact off _ (.tail _ (.tail _ (.tail _ (.head _))))
              rcases List.mem_cons.mp hq with rfl | hq
              · exact Nat.ne_of_gt m5
              · exact off _ (.tail _ (.tail _ (.tail _ (.tail _ hq))))
            · rw [opens_take hit, runOpens_append, hrun]
              simp only [runOpens, takeOne]
              rw [if_pos ((takes_law hkeys).mp hT)]
              simp only [hx, hnm, List.headD_cons]
            · exact hnm ▸ hos.snoc hdo hx
            · intro q hq
              rcases List.mem_cons.mp hq with rfl | hq
              · exact m3
              · exact hgt q hq
          · intro hT g2 h9 e dx tk9 what k1 k2 k3 F9 U9 R9 fr
            show wpAny _ _ (leaving _ _) _ _ _
            refine leave_onD BG F9 R9 U9 ?_
            intro h10 R10 U10
            refine hE d.spot ?_ g h10 e dx _ what u2 k1 k2 k3 FG U10 (R10.sub ?_) ⟨fresh_of_stays F9.keep fr.1, fresh_of_stays F9.keep fr.2⟩
            · rw [opens_split its (i + 1), runOpens_append, opens_take hit, runOpens_append, hrun]
              simp only [runOpens, takeOne]
              rw [if_neg fun z => hT ((takes_law hkeys).mpr z)]
            · refine List.forall_mem_cons.mpr ⟨.head _, List.forall_mem_cons.mpr ⟨.tail _ (.tail _ (.tail _ (.tail _ (.tail _ (.tail _ (.head _)))))), fun p hp => .tail _ (.tail _ (.tail _ (.tail _ (.tail _ (.tail _ (.tail _ (List.mem_append.mpr (.inr hp))))))))⟩⟩
      · intro av4 nw h8 tk8 hj F6 N6
        refine to_inv2 hJ4 hj _ ?_; rintro os ovs kn nws rfl hrun hps hos hgt
        clear hj
        rw [hits.length, List.take_length] at hrun
        (repeat' (first | (k_unfold; (try dsimp only)) | (k_end; wrow_close) | ((with_reducible show wpAny _ _ (pyIter (Value.ref _)) _ _ _); (refine here_mark ?_)) | ((with_reducible show wpAny _ _ (exec (Stmt.For _ _ _ _ _) _) _ _ _); (k_dflt (refine For_own (by k_asm) (by rfl) (by rfl) ?_))) | ((with_reducible show wpAny _ _ (subscriptTail _ _ (Value.ref _) (Value.int _ _)) _ _ _); k_dflt (refine item_tupleT (by exact News.isTup (by k_asm) (by k_mem)) (by decide) (by decide) (by rfl) (by rfl) ?_; k_whole)) | ((first | (with_reducible show wpAny _ _ (call (Value.ref 123) _) _ _ _) | (with_reducible show wpAny _ _ (call (Value.ref 130) _) _ _ _) | (with_reducible show wpAny _ _ (call (Value.ref 142) _) _ _ _) | (with_reducible show wpAny _ _ (call (Value.ref 149) _) _ _ _) | (with_reducible show wpAny _ _ (call (Value.ref 156) _) _ _ _) | (with_reducible show wpAny _ _ (call (Value.ref 161) _) _ _ _)); refine here_mark ?_) | walk1 | (dsimp only; walk1) | (leave1; walk_say "STEP leave1"; try dsimp only) | fail "no step"))
        refine hQ sg sd en st op od ow oe' os ovs kn nws t1 t2 t3 (tk3 + 1) (tk5 + 1) pairs _ _ hrun (by k_asm) (News.perm (by k_asm) ?_) hdd lo9 hkeys hps hos hgt ⟨la1.1, la1.2, la2, lb.1, ld.2.1⟩
        iterate 5 refine List.forall_mem_cons.mpr ⟨by k_mem, ?_⟩
        intro p hp
        repeat (first | exact hp | apply List.mem_cons_of_mem)
end
section
section
variable {prog : Program} {w : World} {A : Around} {E : Value → Shared → Prop} {s : Shared} {env : Env} {h₀ : Heap} {x : Str} {body : List Stmt} {Q : Flow → Shared → Prop}
theorem for_coreP {tk0 : Nat} {l : Addr} {lo itO : Obj} {n : Nat} {P : Nat → Value → Prop} {St : Nat → Heap → Prop} {m₀ : Str → Option Value} {nw₀ : List (Addr × Obj)} (J : Nat → (Str → Option Value) → List (Addr × Obj) → Prop)
    (hh : A.handled = none) (F : Fr h₀ env.locals s.heap m₀) (N : News h₀ env.locals s.heap ((l, lo) :: nw₀)) (hj : J 0 m₀ nw₀)
    (turn : ∀ i v m nw h tk I oI, I = s.heap.objs.size → i < n → P i v → J i m nw → (∀ p ∈ nw, p.1 ≠ I) → Fr h₀ env.locals h (fun y => if y = x then some v else m y) → News h₀ env.locals h ((I, oI) :: (l, lo) :: nw) →
      wpAny (model prog w) A (execs body env) (TurnEnd h₀ env.locals I l oI lo (J (i + 1)) { s with heap := h, toks := tk } Q) E { s with heap := h, toks := tk })
    (done : ∀ m nw h tk, J n m nw → Fr h₀ env.locals h m → News h₀ env.locals h ((l, lo) :: nw) → Q .next { s with heap := h, toks := tk })
    (W : Walks prog w A s.heap.objs.size [s.heap.objs.size, l] [s.heap.objs.size] n P St) (hSt : St 0 (s.heap.push itO)) (hIo : ∀ i h, St i h → ∃ o, h.get? s.heap.objs.size = some o) :
    LoopAtV prog w A h₀ env x body Q E (.ref s.heap.objs.size) { s with heap := s.heap.push itO, toks := tk0 } := by
  have hl0 := N _ (.head _)
  have hlt : l < s.heap.objs.size := Heap.lt_size hl0.1
  refine ⟨_, _, _, n, _, _, m₀, (l, lo) :: nw₀, fun i m nw => ∃ nw', nw = (l, lo) :: nw' ∧ J i m nw', rfl, W, ?_, ?_, ?_, hSt, F.push _, (fun p hp => ⟨Heap.get?_push_of_some _ (N p hp).1, (N p hp).2⟩), ⟨_, rfl, hj⟩, ?_, ?_⟩
  · intro hm
    rcases List.mem_cons.mp hm with e | hm
    · exact absurd F.ns.lt (e ▸ Nat.lt_irrefl _)
    · exact hl0.2.1 (List.mem_singleton.mp hm).symm
  · intro b hb
    rw [List.mem_singleton.mp hb]
    exact next_is_new F
  · intro p hp hI
    exact absurd (Heap.lt_size (N p hp).1) ((List.mem_singleton.mp hI) ▸ Nat.lt_irrefl _)
  · rintro i v m₁ news₁ s₁ own ⟨hh', tk', rfl⟩ hin hP ⟨nw, rfl, hJ⟩ hoff hown hownat hfp hst F₁ N₁
    have hI0 : h₀.get? s.heap.objs.size = none := next_is_new F
    obtain ⟨oI, hoI⟩ := hIo _ _ hst
    have hIown : (s.heap.objs.size, oI) ∈ own := hfp _ (List.mem_cons.mpr (.inl rfl)) hI0 _ hoI
    have N₂ : News h₀ env.locals hh' ((s.heap.objs.size, oI) :: (l, lo) :: nw) := fun p hp => by
      rcases List.mem_cons.mp hp with rfl | hp
      · exact N₁ _ (List.mem_append_left _ hIown)
      · exact N₁ _ (List.mem_append_right _ hp)
    have offI : ∀ p ∈ nw, p.1 ≠ s.heap.objs.size := fun p hp q => hoff p (.tail _ hp) (List.mem_singleton.mpr q)
    refine wpAny_mono (turn i v m₁ nw hh' tk' _ oI rfl hin hP hJ offI F₁ N₂) (fun f s₂ p => ?_) fun _ _ e => e
    have fin : (∃ h' tk' m' nw', s₂ = { s with heap := h', toks := tk' } ∧ Fr h₀ env.locals h' m' ∧ News h₀ env.locals h' ((s.heap.objs.size, oI) :: (l, lo) :: nw') ∧ (∀ p ∈ nw', p.1 ≠ s.heap.objs.size) ∧ J (i + 1) m' nw') →
        LoopStepU h₀ env.locals [s.heap.objs.size] own (fun m nw => ∃ nw', nw = (l, lo) :: nw' ∧ J (i + 1) m nw') { s with heap := hh', toks := tk' } .next s₂ := by
      rintro ⟨h', tk, m', nw', rfl, F', N', off', hJ'⟩
      refine ⟨rfl, h', tk, m', (l, lo) :: nw', rfl, F', fun p hp => ?_, fun p hp hq => ?_, _, rfl, hJ'⟩
      · rcases List.mem_append.mp hp with hp | hp
        · have at' := hownat p hp
          rcases List.mem_cons.mp (hown p hp) with e | e
          · have e2 : p = (s.heap.objs.size, oI) := by
              obtain ⟨pa, po⟩ := p
              dsimp only at e at'
              subst e
              rw [hoI] at at'
              cases at'; rfl
            exact e2 ▸ N' _ (.head _)
          · have e1 := List.mem_singleton.mp e
            have e2 : p = (l, lo) := by
              obtain ⟨pa, po⟩ := p
              dsimp only at e1 at'
              subst e1
              have := (N₂ (pa, lo) (.tail _ (.head _))).1
              rw [this] at at'
              cases at'; rfl
            exact e2 ▸ N' _ (.tail _ (.head _))
        · exact N' _ (.tail _ hp)
      · rcases List.mem_cons.mp hp with rfl | hp
        · exact absurd (List.mem_singleton.mp hq) (Nat.ne_of_lt hlt)
        · exact off' p hp (List.mem_singleton.mp hq)
    cases f with
    | ret v => exact p
    | brk => exact p
    | next => exact fin p
    | cont => exact fin p
  · rintro h' tk m' news' F' N' _ ⟨nw', rfl, hJ⟩
    exact done m' nw' h' tk hJ F' N'
abbrev rngO (n : Int) (u t v : Tok) : Obj := { cls := .type "range", data := .fields #[.int 0 u, .int n t, .int 1 v] }
theorem range_N {L : Addr} {m : Str → Option Value} {news : List (Addr × Obj)} {n : Int} {t : Tok} {Q : Value → Shared → Prop} (F : Fr h₀ L s.heap m) (N : News h₀ L s.heap news)
    (h : ∀ r u v h' tk, Fr h₀ L h' m → News h₀ L h' ((r, rngO n u t v) :: news) → (∀ p ∈ news, p.1 < r) → Q (.ref r) { s with heap := h', toks := tk }) : wpAny (model prog w) A (call (.type "range") [.int n t]) Q E s :=
  call_range_1 (h _ _ _ _ _ (F.push _) (News.push F N _) fun p hp => Heap.lt_size (N p hp).1)
theorem for_range {l : Addr} {n : Nat} {u t u2 : Tok} {m₀ : Str → Option Value} {nw₀ : List (Addr × Obj)} (J : Nat → (Str → Option Value) → List (Addr × Obj) → Prop)
    (hh : A.handled = none) (hn : n ≤ 1000) (F : Fr h₀ env.locals s.heap m₀) (N : News h₀ env.locals s.heap ((l, rngO (n : Int) u t u2) :: nw₀)) (hj : J 0 m₀ nw₀)
    (turn : ∀ i tv m nw h tk I oI, I = s.heap.objs.size → i < n → J i m nw → (∀ p ∈ nw, p.1 ≠ I) → Fr h₀ env.locals h (fun y => if y = x then some (.int (i : Int) tv) else m y) → News h₀ env.locals h ((I, oI) :: (l, rngO (n : Int) u t u2) :: nw) →
      wpAny (model prog w) A (execs body env) (TurnEnd h₀ env.locals I l oI (rngO (n : Int) u t u2) (J (i + 1)) { s with heap := h, toks := tk } Q) E { s with heap := h, toks := tk })
    (done : ∀ m nw h tk, J n m nw → Fr h₀ env.locals h m → News h₀ env.locals h ((l, rngO (n : Int) u t u2) :: nw) → Q .next { s with heap := h, toks := tk }) :
    wpAny (model prog w) A (pyIter (.ref l)) (fun it s₂ => LoopAtV prog w A h₀ env x body Q E it s₂) E s := by
  have hr : IsRange s.heap l 0 (n : Int) 1 u t u2 := (N _ (.head _)).1
  have hsz : Builtin.Range.rangeSize 0 (n : Int) 1 = (n : Int) := by
    rw [rangeSize_one]; split <;> kpa_ne
  refine wpAny_pyIter_range hr (small_one (by decide) (by decide) (by kpa_ne) (by kpa_ne)) ?_
  rw [hsz]
  have W := (Walks.range (prog := prog) (w := w) hh s.heap.objs.size 0 1 n).mono_fp (fp' := [s.heap.objs.size, l]) (fun b hb => List.mem_singleton.mp hb ▸ .head _)
  exact for_coreP J hh F N hj (fun i v m nw h tk I oI hI hi hv hJ off F' N' => by
    obtain ⟨t', rfl⟩ := hv
    have e : (0 : Int) + (i : Int) * 1 = (i : Int) := by kpa_ne
    rw [e] at F'
    exact turn i t' m nw h tk I oI hI hi hJ off F' N') done W (by
      show IsRangeIter _ _ (0 + ((0 : Nat) : Int) * 1) ((n : Int) - ((0 : Nat) : Int)) 1
      simpa using Heap.get?_push_size _ rfl) fun i h st => ⟨_, st⟩
theorem add_strs {a b L : Addr} {m : Str → Option Value} {news : List (Addr × Obj)} {vs ws : List Value} {ka kb : Nat} {Q : Value → Shared → Prop} (F : Fr h₀ L s.heap m) (N : News h₀ L s.heap news) (ha : (a, PySem.W.listOf vs.toArray ka) ∈ news) (hb : (b, PySem.W.listOf ws.toArray kb) ∈ news) (hz : vs.length + ws.length ≤ 1000)
    (h : ∀ D h', Fr h₀ L h' m → News h₀ L h' ((D, PySem.W.listOf (vs ++ ws).toArray 0) :: news) → (∀ p ∈ news, p.1 < D) → Q (.ref D) { s with heap := h' }) : wpAny (model prog w) A (binaryOp .Add (.ref a) (.ref b)) Q E s :=
  kmk_add_lit F N (News.isList N ha) (News.isList N hb) (zs := vs ++ ws) rfl h (by simp only [sizeLine_eq]; show vs.length + ws.length ≤ _; kpa_ne)
theorem copy_list {a L : Addr} {m : Str → Option Value} {news : List (Addr × Obj)} {vs : List Value} {ka : Nat} {Q : Value → Shared → Prop} (F : Fr h₀ L s.heap m) (N : News h₀ L s.heap news) (ha : (a, PySem.W.listOf vs.toArray ka) ∈ news) (hz : vs.length ≤ 1000)
    (h : ∀ D c h', Fr h₀ L h' m → News h₀ L h' ((D, PySem.W.listOf vs.toArray c) :: news) → (∀ p ∈ news, p.1 < D) → Q (.ref D) { s with heap := h' }) : wpAny (model prog w) A (call (.type "list") [.ref a]) Q E s :=
  list_copyK F N (News.isList N ha) h (by rw [List.size_toArray, sizeLine_eq]; kpa_ne)
theorem updF_upd {d : Addr} {o o' : Obj} : ∀ {l : List (Addr × Obj)} {g : Obj → List (Addr × Obj)}, UpdF d o l g → Upd d o o' l (g o')
  | _, _, .head h => .head h
  | _, _, .tail h r => .tail h (updF_upd r)
theorem pop0 {a L : Addr} {m : Str → Option Value} {news : List (Addr × Obj)} {gN : Obj → List (Addr × Obj)} {v : Value} {vs : List Value} {ka : Nat} {u : Tok} {Q : Value → Shared → Prop} (F : Fr h₀ L s.heap m) (N : News h₀ L s.heap news) (U : UpdF a (PySem.W.listOf (v :: vs).toArray ka) news gN) (hz : vs.length ≤ 1000)
    (h : ∀ h', Fr h₀ L h' m → News h₀ L h' (gN (PySem.W.listOf vs.toArray (ka + 1))) → Q v { s with heap := h' }) : wpAny (model prog w) A (call (.builtin "list.pop") [.ref a, .int 0 u]) Q E s := by
  exact kl_popAt (k := 0) (p := []) (q := vs) F N rfl (by simp [seqIndex?]) rfl (updF_upd U) (by rw [sizeLine_eq]; simp only [List.length_cons]; kpa_ne) h
end
end
section
variable {VV : Program} {loo : List Str}
section
variable {prog : Program} {w : World} {A : Around} {E : Value → Shared → Prop} {s : Shared} {h₀ : Heap} {L D : Addr} {m : Str → Option Value} {news : List (Addr × Obj)} {Q : Value → Shared → Prop}
theorem append_any {gN : Obj → List (Addr × Obj)} {vs : List Value} {ka : Nat} {v : Value} (F : Fr h₀ L s.heap m) (N : News h₀ L s.heap news) (U : UpdF D (PySem.W.listOf vs.toArray ka) news gN) (hz : vs.length ≤ 1000)
    (h : ∀ h', Fr h₀ L h' m → News h₀ L h' (gN (PySem.W.listOf (vs ++ [v]).toArray (ka + 1))) → Q .none { s with heap := h' }) : wpAny (model prog w) A (call (.builtin "list.append") [.ref D, v]) Q E s := by
  refine append_K F N (updF_upd U) (fun h' F' N' => h h' F' ?_) (by rw [List.size_toArray, sizeLine_eq]; kpa_ne)
  rw [List.push_toArray] at N'
  exact N'
theorem len_any {ys : List Value} {k : Nat} (N : News h₀ L s.heap news) (hm : (D, PySem.W.listOf ys.toArray k) ∈ news) (hl : ys.length ≤ 1000) (h : Q (.int (ys.length : Int) (s.toks + 1)) { s with toks := s.toks + 1 + 1 }) : wpAny (model prog w) A (call (.builtin "len") [.ref D]) Q E s := by
  refine len_list (items := ys.toArray) (News.isList N hm) (by rw [List.size_toArray]; kpa_ne) ?_
  rw [List.size_toArray]; exact h
theorem min_len {n : Nat} {r : Int} {t u : Tok} (hh : A.handled = none) (F : Fr h₀ L s.heap m) (N : News h₀ L s.heap news) (hr : 0 ≤ r)
    (h : ∀ (k : Nat) t' h' tk, k ≤ n → (k : Int) ≤ r → Fr h₀ L h' m → News h₀ L h' news → Q (.int (k : Int) t') { s with heap := h', toks := tk }) : wpAny (model prog w) A (call (.builtin "min") [.int (n : Int) t, .int r u]) Q E s := by
  refine min_two_N hh F N fun h' tk F' N' => ?_
  by_cases c : r < (n : Int)
  · simp only [if_pos c]
    obtain ⟨k, rfl⟩ := Int.eq_ofNat_of_zero_le hr
    exact h k u h' tk (by kpa_ne) (Int.le_refl _) F' N'
  · simp only [if_neg c]
    exact h n t h' tk (Nat.le_refl _) (by kpa_ne) F' N'
end
section
variable {prog : Program} {w : World} {A : Around} {E : Value → Shared → Prop} {s : Shared} {env : Env} {h₀ : Heap} {x : Str} {body : List Stmt} {Q : Flow → Shared → Prop}
def KeepZ {Z : Type} (mk : Z → (Str → Option Value) → Str → Option Value) (m₀ : Str → Option Value) (R : Z → List (Addr × Obj) → Prop) (m : Str → Option Value) (nw : List (Addr × Obj)) : Prop := ∃ z, m = mk z m₀ ∧ R z nw
theorem for_listZ {Z : Type} {l : Addr} {vs : List Value} {k : Nat} {m₀ : Str → Option Value} {nw₀ : List (Addr × Obj)} (mk : Z → (Str → Option Value) → Str → Option Value) (R : Nat → Z → List (Addr × Obj) → Prop) (z0 : Z)
    (hh : A.handled = none) (F : Fr h₀ env.locals s.heap m₀) (N : News h₀ env.locals s.heap ((l, PySem.W.listOf vs.toArray k) :: nw₀)) (hm : mk z0 m₀ = m₀) (hj : R 0 z0 nw₀)
    (turn : ∀ i v z nw h tk I oI, I = s.heap.objs.size → vs[i]? = some v → R i z nw → (∀ p ∈ nw, p.1 ≠ I) → Fr h₀ env.locals h (fun y => if y = x then some v else mk z m₀ y) → News h₀ env.locals h ((I, oI) :: (l, PySem.W.listOf vs.toArray k) :: nw) →
      wpAny (model prog w) A (execs body env) (TurnEnd h₀ env.locals I l oI (PySem.W.listOf vs.toArray k) (KeepZ mk m₀ (R (i + 1))) { s with heap := h, toks := tk } Q) E { s with heap := h, toks := tk })
    (done : ∀ z nw h tk, R vs.length z nw → Fr h₀ env.locals h (mk z m₀) → News h₀ env.locals h ((l, PySem.W.listOf vs.toArray k) :: nw) → Q .next { s with heap := h, toks := tk }) :
    wpAny (model prog w) A (pyIter (.ref l)) (fun it s₂ => LoopAtV prog w A h₀ env x body Q E it s₂) E s :=
  for_list (fun i => KeepZ mk m₀ (R i)) hh F N ⟨z0, hm.symm, hj⟩
    (fun i v m nw h tk I oI hI hv hJ off F' N' => by
      obtain ⟨z, rfl, hJ⟩ := hJ
      exact turn i v z nw h tk I oI hI hv hJ off F' N')
    fun m nw h tk hJ F' N' => by
      obtain ⟨z, rfl, hJ⟩ := hJ
      exact done z nw h tk hJ F' N'
theorem for_rangeZ {Z : Type} {l : Addr} {n : Nat} {u t u2 : Tok} {m₀ : Str → Option Value} {nw₀ : List (Addr × Obj)} (mk : Z → (Str → Option Value) → Str → Option Value) (R : Nat → Z → List (Addr × Obj) → Prop) (z0 : Z)
    (hh : A.handled = none) (hn : n ≤ 1000) (F : Fr h₀ env.locals s.heap m₀) (N : News h₀ env.locals s.heap ((l, rngO (n : Int) u t u2) :: nw₀)) (hm : mk z0 m₀ = m₀) (hj : R 0 z0 nw₀)
    (turn : ∀ i tv z nw h tk I oI, I = s.heap.objs.size → i < n → R i z nw → (∀ p ∈ nw, p.1 ≠ I) → Fr h₀ env.locals h (fun y => if y = x then some (.int (i : Int) tv) else mk z m₀ y) → News h₀ env.locals h ((I, oI) :: (l, rngO (n : Int) u t u2) :: nw) →
      wpAny (model prog w) A (execs body env) (TurnEnd h₀ env.locals I l oI (rngO (n : Int) u t u2) (KeepZ mk m₀ (R (i + 1))) { s with heap := h, toks := tk } Q) E { s with heap := h, toks := tk })
    (done : ∀ z nw h tk, R n z nw → Fr h₀ env.locals h (mk z m₀) → News h₀ env.locals h ((l, rngO (n : Int) u t u2) :: nw) → Q .next { s with heap := h, toks := tk }) :
    wpAny (model prog w) A (pyIter (.ref l)) (fun it s₂ => LoopAtV prog w A h₀ env x body Q E it s₂) E s :=
  for_range (fun i => KeepZ mk m₀ (R i)) hh hn F N ⟨z0, hm.symm, hj⟩
    (fun i tv m nw h tk I oI hI hi hJ off F' N' => by
      obtain ⟨z, rfl, hJ⟩ := hJ
      exact turn i tv z nw h tk I oI hI hi hJ off F' N')
    fun m nw h tk hJ F' N' => by
      obtain ⟨z, rfl, hJ⟩ := hJ
      exact done z nw h tk hJ F' N'
theorem turn_nextZ {Z : Type} {L I l : Addr} {oI lo : Obj} {mk : Z → (Str → Option Value) → Str → Option Value} {m₀ m' : Str → Option Value} {R : Z → List (Addr × Obj) → Prop} {h' : Heap} {tk' : Nat} {nw' : List (Addr × Obj)} (z : Z) (F : Fr h₀ L h' m') (N : News h₀ L h' ((I, oI) :: (l, lo) :: nw')) (off : ∀ p ∈ nw', p.1 ≠ I) (e : m' = mk z m₀) (j : R z nw') :
    TurnEnd h₀ L I l oI lo (KeepZ mk m₀ R) s Q .next { s with heap := h', toks := tk' } := turn_next F N off ⟨z, e, j⟩
end
def mk3 (z : Option Value × Option Value × Int × Tok) (m : Str → Option Value) (y : Str) : Option Value := if y = Str.ofString "item" then z.1 else if y = Str.ofString "lap" then z.2.1 else if y = Str.ofString "bad" then some (.int z.2.2.1 z.2.2.2) else m y
theorem mk3_self {m : Str → Option Value} {b : Int} {t : Tok} (h : m (Str.ofString "bad") = some (.int b t)) : mk3 (m (Str.ofString "item"), m (Str.ofString "lap"), b, t) m = m := by
  funext y
  unfold mk3
  by_cases e1 : y = Str.ofString "item"
  · subst e1; rfl
  by_cases e2 : y = Str.ofString "lap"
  · subst e2; rfl
  by_cases e3 : y = Str.ofString "bad"
  · subst e3; exact h.symm
  simp only [if_neg e1, if_neg e2, if_neg e3]
theorem pairD_ok {os : List (Str × Str)} (h : OsOk os) : ∀ d ∈ os.map pairD, kqdOk 8 d = true := by
  intro d hd
  obtain ⟨o, ho, rfl⟩ := List.mem_map.mp hd
  obtain ⟨a, b, _, _⟩ := h o ho
  simp [pairD, kqdOk, a, b]
theorem pairs_same {prog : Program} {w : World} {A : Around} {E : Value → Shared → Prop} {s : Shared} {h₀ : Heap} {L a b : Addr} {news n1 n2 : List (Addr × Obj)} {xs ys : List Value} {os : List (Str × Str)} {ka kb : Nat} {Q : Value → Shared → Prop} (N : News h₀ L s.heap news) (ma : (a, PySem.W.listOf xs.toArray ka) ∈ news) (mb : (b, PySem.W.listOf ys.toArray kb) ∈ news)
    (ha : PairsAt n1 xs os) (sa : ∀ p ∈ n1, p ∈ news) (hb : PairsAt n2 ys os) (sb : ∀ p ∈ n2, p ∈ news) (ok : OsOk os) (hu : A.units + 64 < cLine) (h : Q (.bool true) s) : wpAny (model prog w) A (compareOp .Eq (.ref a) (.ref b)) Q E s := by
  refine kqd_eq N ma rfl rfl ha.dat sa mb rfl rfl hb.dat sb (pairD_ok ok) (pairD_ok ok) hu ?_
  have e : ∀ i : Decidable (os.map pairD = os.map pairD), @decide _ i = true := fun i => decide_eq_true rfl
  exact (e _).symm ▸ h
theorem All2_take {α β : Type} {R : α → β → Prop} : ∀ {as : List α} {bs : List β} (k : Nat), All2 R as bs → All2 R (as.take k) (bs.take k)
  | _, _, 0, _ => by simp only [List.take_zero]; exact trivial
  | [], [], _ + 1, _ => trivial
  | _ :: _, _ :: _, k + 1, h => ⟨h.1, All2_take k h.2⟩
theorem All2_drop {α β : Type} {R : α → β → Prop} : ∀ {as : List α} {bs : List β} (k : Nat), All2 R as bs → All2 R (as.drop k) (bs.drop k)
  | _, _, 0, h => h
  | [], [], _ + 1, _ => trivial
  | _ :: _, _ :: _, k + 1, h => All2_drop k h.2
theorem its_len : ∀ (its : List It), its.length = (sigNames its).length + (opensOf its).length
  | [] => rfl
  | .sig x :: r => by simp only [List.length_cons, sigNames, opensOf, its_len r]; kpa_ne
  | .opn d :: r => by simp only [List.length_cons, sigNames, opensOf, its_len r]; kpa_ne
theorem step_data {own : List (Addr × Obj)} {ivs lvs : List Value} {its : List It} {lx xs : List Str} {ds : List OpD} {i kx : Nat} {d : OpD} {v : Value} (hits : All2 (ItV own) ivs its) (hlv : All2 (SigV own) lvs lx) (hnm : sigNames its ++ lx = xs) (hop : opensOf its = ds.take i) (hd' : ds[i]? = some d) (hov : OpenV own v d) :
    All2 (ItV own) (ivs ++ lvs.take kx ++ [v]) (its ++ (lx.take kx).map It.sig ++ [.opn d]) ∧ All2 (SigV own) (lvs.drop kx) (lx.drop kx) ∧ sigNames (its ++ (lx.take kx).map It.sig ++ [.opn d]) ++ lx.drop kx = xs ∧ opensOf (its ++ (lx.take kx).map It.sig ++ [.opn d]) = ds.take (i + 1) := by
  refine ⟨((hits.append (All2.map_right (f := It.sig) (T := ItV own) (fun _ _ h => h) (All2_take kx hlv))).snoc hov), All2_drop kx hlv, ?_, ?_⟩
  · rw [sigNames_append, sigNames_append, sigNames_sigs]
    show sigNames its ++ lx.take kx ++ [] ++ lx.drop kx = xs
    rw [List.append_nil, List.append_assoc, List.take_append_drop]; exact hnm
  · rw [opensOf_append, opensOf_append, opensOf_sigs, hop, List.append_nil]
    show ds.take i ++ [d] = _
    simp [List.take_add_one, hd']
theorem run_step {ds : List OpD} {i : Nat} {d : OpD} (hd' : ds[i]? = some d) : runOpens [] (ds.take (i + 1)) = match runOpens [] (ds.take i) with
    | .ok os => (match takeOne os d with | none => .error d.spot | some os' => .ok os')
    | .error e => .error e := by
  have : ds.take (i + 1) = ds.take i ++ [d] := by simp [List.take_add_one, hd']
  rw [this, runOpens_append]
  cases runOpens [] (ds.take i) with
  | error e => rfl
  | ok os =>
    simp only [runOpens]
    try (cases takeOne os d <;> rfl)
theorem run_err {ds : List OpD} {i : Nat} {d : OpD} {e : Int} (hd' : ds[i]? = some d) (h : runOpens [] (ds.take i) = .error e) : runOpens [] (ds.take (i + 1)) = .error e := by rw [run_step hd', h]
theorem run_no {ds : List OpD} {i : Nat} {d : OpD} {os : List (Str × Str)} (hd' : ds[i]? = some d) (h : runOpens [] (ds.take i) = .ok os) (hl : false = lawTakes os d.module d.args d.alias) : runOpens [] (ds.take (i + 1)) = .error d.spot := by
  rw [run_step hd', h]; simp only [takeOne]; rw [if_neg (by rw [← hl]; decide)]
theorem run_yes {ds : List OpD} {i : Nat} {d : OpD} {os : List (Str × Str)} {nm x : Str} {r : List Str} (hd' : ds[i]? = some d) (h : runOpens [] (ds.take i) = .ok os) (hl : true = lawTakes os d.module d.args d.alias) (e1 : d.args = x :: r) (e2 : ordName d.alias = nm) : runOpens [] (ds.take (i + 1)) = .ok (os ++ [(nm, x)]) ∧ d.args = [x] := by
  constructor
  · rw [run_step hd', h]; simp only [takeOne]; rw [if_pos hl.symm]
    simp only [e1, e2, List.headD_cons]
  · unfold lawTakes at hl
    rw [e1] at hl ⊢
    cases r with
    | nil => rfl
    | cons y r => simp at hl
theorem mk3_eq {m : Str → Option Value} {v : Value} (z : Option Value) (b : Int) (t : Tok) {f : Str → Option Value} (h1 : f (Str.ofString "item") = some v) (h2 : f (Str.ofString "lap") = z) (h3 : f (Str.ofString "bad") = some (.int b t)) (h4 : ∀ y, y ≠ Str.ofString "item" → y ≠ Str.ofString "lap" → y ≠ Str.ofString "bad" → f y = m y) : f = mk3 (some v, z, b, t) m := by
  funext y
  unfold mk3
  by_cases e1 : y = Str.ofString "item"
  · subst e1; exact h1
  by_cases e2 : y = Str.ofString "lap"
  · subst e2; exact h2
  by_cases e3 : y = Str.ofString "bad"
  · subst e3; exact h3
  simp only [if_neg e1, if_neg e2, if_neg e3]
  exact h4 y e1 e2 e3
def mkL (z : Option Value) (m : Str → Option Value) (y : Str) : Option Value := if y = Str.ofString "lap" then z else m y
theorem mkL_eq {m : Str → Option Value} (z : Option Value) {f : Str → Option Value} (h2 : f (Str.ofString "lap") = z) (h4 : ∀ y, y ≠ Str.ofString "lap" → f y = m y) : f = mkL z m := by
  funext y
  unfold mkL
  by_cases e2 : y = Str.ofString "lap"
  · subst e2; exact h2
  simp only [if_neg e2]
  exact h4 y e2
theorem mkL_self {m : Str → Option Value} : mkL (m (Str.ofString "lap")) m = m := by
  funext y
  unfold mkL
  by_cases e1 : y = Str.ofString "lap"
  · subst e1; rfl
  · exact if_neg e1
theorem draw_B {w : World} {mean : ExcName → Option Value} {mg mb : Str → Option Value} {dp un : Nat} {gd : Option (List Code)} {cn : Str} {sn : List (Str × NameKind)} {sgn sco : Bool} {smo : List (Str × Const)} {a : Addr} {ccd : Value} {cl : List (Str × Addr)} {outer : List Env} {A₀ : Around} {base h₀ : Heap} {L : Addr} {m : Str → Option Value} {own : List (Addr × Obj)} {s : Shared} {Q E : Value → Shared → Prop}
    {b c : Addr} {ob : Obj} {vs : List Value} {ns : List Int} {n0 n : Nat} {tw : Tok} {wide : Int}
    (B : Below A₀ base outer h₀) (F : Fr h₀ L s.heap m) (X : (K39 w.params).In h₀) (N : News h₀ L s.heap ((b, ob) :: (c, PySem.W.listOf vs.toArray n0) :: own)) (T : Top VV loo mean mg mb h₀)
    (hb : BellTo w ob c n) (hn : n < 1000) (hdp : dp + 1 < recursionLimit) (hun : un + 8 < cLine) (lo : (b == sysModules) = false) (hbc : @Ne Nat b c) (hown : OwnOff own [b])
    (hI : IntsAre vs ns) (hl : ns.length ≤ 63) (hw0 : 0 < wide) (hw1 : wide < 1000)
    (ret : ∀ r t h' tk' ob', 0 ≤ r → r < wide → Fr h₀ L h' m → News h₀ L h' ((b, ob') :: (c, PySem.W.listOf vs.toArray n0) :: own) → BellTo w ob' c (n + 1) → Q (.int r t) { s with heap := h', toks := tk' }) :
    wpAny (model PySem.Challenge.rw_rr0095_01.row.prog w) (ktrTop dp un gd cn ⟨.function, sn, sgn, sco, smo⟩ L a ccd cl outer) (call (.ref 524) [.ref b, .int wide tw]) Q E s :=
  draw_K B F X N T (UpdF.head (List.forall_mem_cons.mpr ⟨Ne.symm hbc, fun p hp => hown p hp b (.head _)⟩)) (.tail _ (.head _)) hb hn hdp hun lo hbc hI hl hw0 hw1 ret
theorem offC {own : List (Addr × Obj)} {p : Addr × Obj} {b : Addr} (h : OwnOff own [b]) (h1 : @Ne Nat p.1 b) : OwnOff (p :: own) [b] := fun q hq d hd => by
  rcases List.mem_cons.mp hq with rfl | hq
  · exact List.mem_singleton.mp hd ▸ h1
  · exact h q hq d hd
theorem offA {o1 o2 : List (Addr × Obj)} {b : Addr} (h : OwnOff o2 [b]) (h1 : ∀ p ∈ o1, @LT.lt Nat _ b p.1) : OwnOff (o1 ++ o2) [b] := fun q hq d hd => by
  rcases List.mem_append.mp hq with hq | hq
  · exact List.mem_singleton.mp hd ▸ Nat.ne_of_gt (h1 q hq)
  · exact h q hq d hd
theorem nd4 {α : Type} {l : List α} {i : Nat} (h : i < l.length) : ∃ v, l.drop i = v :: l.drop (i + 1) ∧ l[i]? = some v := ⟨l[i], List.drop_eq_getElem_cons h, List.getElem?_eq_getElem h⟩
local macro_rules | `(tactic| k_mem) => `(tactic| ((repeat (first | assumption | apply List.mem_cons_of_mem)); done))
set_option maxHeartbeats 0 in
theorem right_spec {w : World} {mean : ExcName → Option Value} {mg mb : Str → Option Value} {dp un : Nat} {gd : Option (List Code)} {cn : Str} {sn : List (Str × NameKind)} {sgn sco : Bool} {smo : List (Str × Const)} {a : Addr} {ccd : Value} {cl : List (Str × Addr)} {outer : List Env} {A₀ : Around} {h₀ : Heap} {L : Addr} {m : Str → Option Value} {own : List (Addr × Obj)} {s : Shared} {Q E : Value → Shared → Prop}
    {b c sl ol : Addr} {ob : Obj} {vs svs dvs : List Value} {ns : List Int} {n0 n ks kd : Nat} {xs : List Str} {ds : List OpD}
    (B : Below A₀ h₀ outer h₀) (F : Fr h₀ L s.heap m) (X : (K39 w.params).In h₀)
    (N : News h₀ L s.heap ((b, ob) :: (c, PySem.W.listOf vs.toArray n0) :: (sl, PySem.W.listOf svs.toArray ks) :: (ol, PySem.W.listOf dvs.toArray kd) :: own)) (T : Top VV loo mean mg mb h₀)
    (hdp : dp + 200 < recursionLimit) (hun : un + 2000 < cLine)
    (hb : BellTo w ob c n) (hn : n < 800) (lo : (b == sysModules) = false) (hbc : @Ne Nat b c) (hbs : @Ne Nat sl b) (hbo : @Ne Nat ol b) (hown : OwnOff own [b]) (hI : IntsAre vs ns) (hl : ns.length ≤ 63)
    (hsv : All2 (SigV own) svs xs) (hxs : Fours xs) (hdv : All2 (OpenV own) dvs ds) (hdo : ∀ d ∈ ds, d.Ok ∧ 0 < d.spot ∧ d.spot < 1000) (hdl : ds.length ≤ 10)
    (hQ : ∀ ob' h' tk', Fr h₀ L h' m → News h₀ L h' ((b, ob') :: (c, PySem.W.listOf vs.toArray n0) :: (sl, PySem.W.listOf svs.toArray ks) :: (ol, PySem.W.listOf dvs.toArray kd) :: own) → BellTo w ob' c (n + 10) → Q (.bool true) { s with heap := h', toks := tk' }) :
    wpAny (model PySem.Challenge.rw_rr0095_01.row.prog w) (ktrTop dp un gd cn ⟨.function, sn, sgn, sco, smo⟩ L a ccd cl outer) (call (.ref 569) [.ref b, .ref sl, .ref ol]) Q E s := by
  have hkk : (envX cn ⟨.function, sn, sgn, sco, smo⟩ L a ccd cl).scope.kind = .function := rfl
  have hsl4 : svs.length ≤ 1000 := by have := hsv.length; have := hxs.2.2; kpa_ne
  refine wpAny_call ?_
  refine' code_raw ?k1 ?k2 ?k3 ?k4 ?k5 ?kA ?kF ?kK ?k6 ?k7 ?k8 ?k9 ?kB ?_ ?c2 ?c3 ?c4 ?c5
  (case kA => exact rfl)
  (case kF => exact rfl)
  (case kK => assumption)
  (case k1 => k_asm)
  (case k2 => k_asm)
  (case k3 => k_asm)
  (case k4 => k_asm)
  (case k5 => k_asm)
  (case k6 => k_is)
  (case k7 => k_is)
  (case k8 => ktr_room)
  (case k9 => exact BindsTo.of_eq rfl)
  (case c5 => decide)
  (case kB => exact locs rfl)
  (case c2 => exact rfl)
  (case c3 => exact rfl)
  (case c4 => exact rfl)
  intro g' L' h' FG' F' N' B' X' T' l1
  (try k_lt l1)
  (try dsimp only)
  (try k_fold)
  refine tok_gen fun tkA => ?_
  replace F' : Fr g' L' h' (bindFr [(Str.ofString "opens", .ref ol), (Str.ofString "sigs", .ref sl), (Str.ofString "bell", .ref b)]) := F'
  (repeat' (first | (k_unfold; (try dsimp only)) | (k_end; wrow_close) | ((with_reducible show wpAny _ _ (call (Value.type _) [Value.ref _]) _ _ _); k_dflt (refine copy_list (by k_asm) (by k_asm) (by k_mem) (by assumption) ?_); intro _ _ _ _ _ q09; (try k_lt q09); revert q09; intro _) | ((with_reducible show wpAny _ _ (call (Value.builtin "list.append") _) _ _ _); (k_dflt (refine append_any (by k_asm) (by k_asm) (by k_updF) (by first | assumption | kpa_ne | (simp only [List.length_append, List.length_take, List.length_drop]; kpa_ne)) ?_); intro _ _ q09; (try dsimp only at q09); revert q09; intro _)) | ((with_reducible show wpAny _ _ (call (Value.builtin "list.pop") _) _ _ _); (k_dflt (refine pop0 (by k_asm) (by k_asm) (by k_updF) (by assumption) ?_); intro _ _ q09; (try dsimp only at q09); revert q09; intro _)) | ((with_reducible show wpAny _ _ (call (Value.type "range") _) _ _ _); (k_dflt (refine range_N (by k_asm) (by k_asm) ?_); intro _ _ _ _ _ _ _ q09; (try k_lt q09); revert q09; intro _)) | ((with_reducible show wpAny _ _ (call (Value.builtin "min") _) _ _ _); (k_dflt (refine min_len (by rfl) (by k_asm) (by k_asm) (by assumption) ?_); intro _ _ _ _ _ _ _ _)) | ((with_reducible show wpAny _ _ (call (Value.builtin "len") _) _ _ _); (k_dflt (refine len_any (by k_asm) (by k_mem) (by assumption) ?_))) | ((with_reducible show wpAny _ _ (binaryOp _ (Value.ref _) (Value.ref _)) _ _ _); (k_dflt (refine add_strs (by k_asm) (by k_asm) (by k_mem) (by k_mem) (by kpa_ne) ?_); intro _ _ _ _ q09; (try k_lt q09); revert q09; intro _)) | ((with_reducible show wpAny _ _ (getAttr (Value.ref _) (Str.ofString "spot") _) _ _ _); k_dflt (refine spot_get (by k_asm) (by k_asm) (by k_asm) (by k_mem) (by k_mem) (by assumption) (by assumption) (by assumption) ?_)) | ((with_reducible show wpAny _ _ (compareOp CmpOp.Eq (Value.ref _) (Value.ref _)) _ _ _); (refine here_mark ?_)) | ((with_reducible show wpAny _ _ (pyIter (Value.ref _)) _ _ _); (refine here_mark ?_)) | ((with_reducible show wpAny _ _ (exec (Stmt.For _ _ _ _ _) _) _ _ _); (k_dflt (refine For_own (by k_asm) (by rfl) (by rfl) ?_))) | ((with_reducible show wpAny _ _ (subscriptTail _ _ (Value.ref _) (Value.int _ _)) _ _ _); k_dflt (refine item_tupleT (by exact News.isTup (by k_asm) (by k_mem)) (by decide) (by decide) (by rfl) (by rfl) ?_; k_whole)) | ((first | (with_reducible show wpAny _ _ (call (Value.ref 269) _) _ _ _) | (with_reducible show wpAny _ _ (call (Value.ref 550) _) _ _ _) | (with_reducible show wpAny _ _ (call (Value.ref 545) _) _ _ _) | (with_reducible show wpAny _ _ (call (Value.ref 524) _) _ _ _)); refine here_mark ?_) | walk1 | (dsimp only; walk1) | (leave1; walk_say "STEP leave1"; try dsimp only) | fail "no step"))
  change wpAny _ _ _ _ _ _
  rename_i it hq1 lA lf c0 hq2 lB tkl hq3 lC tp hq4 lD hq5 hq6 hq7 hq8 hq9 F9 N9
  have N8 : News g' L' hq9 ((ol, PySem.W.listOf dvs.toArray kd) :: (b, ob) :: (it, PySem.W.listOf ([] : List Value).toArray 0) :: (lf, PySem.W.listOf svs.toArray c0) :: (tkl, PySem.W.listOf ([] : List Value).toArray 0) :: (c, PySem.W.listOf vs.toArray n0) :: (sl, PySem.W.listOf svs.toArray ks) :: ([] ++ own)) := N9.perm (by
    iterate 7 refine List.forall_mem_cons.mpr ⟨by k_mem, ?_⟩
    intro p hp
    repeat (first | exact hp | apply List.mem_cons_of_mem))
  clear N9
  refine inv_gen (fun (i : Nat) (z : Option Value × Option Value × Int × Tok) (nw : List (Addr × Obj)) => ∀ CC : Prop, (∀ ob' its ivs ki lx lvs kl os tvs kt nws, (nw = (b, ob') :: (it, PySem.W.listOf ivs.toArray ki) :: (lf, PySem.W.listOf lvs.toArray kl) :: (tkl, PySem.W.listOf tvs.toArray kt) :: (c, PySem.W.listOf vs.toArray n0) :: (sl, PySem.W.listOf svs.toArray ks) :: (nws ++ own)) → (BellTo w ob' c (n + i)) → (All2 (ItV own) ivs its) → (All2 (SigV own) lvs lx) → (sigNames its ++ lx = xs) → (opensOf its = ds.take i) → (PairsAt nws tvs os) → (OsOk os) → (os.length ≤ i) → ((∀ p ∈ nws, @LT.lt Nat _ tkl p.1)) → (((z.2.2.1 = 0 ∧ runOpens [] (ds.take i) = .ok os) ∨ (z.2.2.1 ≠ 0 ∧ runOpens [] (ds.take i) = .error z.2.2.1))) → CC) → CC) ?_
  intro J hJ
  refine for_listZ mk3 J
    _ (by rfl) F9 N8 (mk3_self rfl) (of_inv hJ fun CC kQ9 => kQ9 ob [] [] 0 xs svs c0 [] [] 0 [] rfl hb trivial hsv rfl rfl trivial (fun _ h => nomatch h) (Nat.le_refl _) (fun _ h => nomatch h) (.inl ⟨rfl, rfl⟩)) ?_ ?_
  · rintro i v ⟨av1, av2, bd, tb⟩ nw h tk I oI hI hv hJ1 off F8 N8
    refine abs_post fun TT hTT => ?_
    refine to_inv hJ hJ1 _ ?_; rintro ob' its ivs ki lx lvs kl os tvs kt nws rfl hb' hits hlv hnm hop hps hos hol hgt hrun
    clear hJ1
    dsimp only at hrun
    unfold mk3 at F8
    dsimp only at F8
    obtain ⟨d, hd', hov⟩ := hdv.get hv
    refine OpenV.ch hov _ ?_; clear hov; rintro ai aa u1 u2 u3 u4 avs rfl hm1 hm2 hargs
    have hil : ivs.length ≤ 100 := by
      have z1 := hits.length
      have z2 := its_len its
      have z3 := congrArg List.length hnm
      have z4 := congrArg List.length hop
      have z5 : (ds.take i).length = min i ds.length := List.length_take
      have z6 := hxs.2.2
      rw [List.length_append] at z3
      kpa_ne
    have hlx : lvs.length ≤ 4 := by have := hlv.length; have := congrArg List.length hnm; have := hxs.2.2; simp only [List.length_append] at *; kpa_ne
    have hlx2 : lvs.length ≤ 1000 := by kpa_ne
    obtain ⟨lA1, lA2, lA3, lA4, lA5⟩ := id lA
    obtain ⟨lB1, lB2, lB3, lB4, lB5, lB6⟩ := id lB
    obtain ⟨lC1, lC2, lC3, lC4, lC5, lC6, lC7⟩ := id lC
    have hio : @Ne Nat I b := fun z => off (b, ob') (.head _) z.symm
    have hi10 : i < 10 := by
      have := hdv.length
      have := (List.getElem?_eq_some_iff.mp hv).1
      kpa_ne
    have hoff1 : OwnOff ((I, oI) :: (ol, PySem.W.listOf dvs.toArray kd) :: (it, PySem.W.listOf ivs.toArray ki) :: (lf, PySem.W.listOf lvs.toArray kl) :: (tkl, PySem.W.listOf tvs.toArray kt) :: (sl, PySem.W.listOf svs.toArray ks) :: (nws ++ own)) [b] :=
      offC (offC (offC (offC (offC (offC (offA hown fun p hp => Nat.lt_trans lC3 (hgt p hp)) hbs) (Nat.ne_of_gt lC3)) (Nat.ne_of_gt lB2)) (Nat.ne_of_gt lA1)) hbo) hio
    (repeat' (first | (k_unfold; (try dsimp only)) | (k_end; wrow_close) | ((with_reducible show wpAny _ _ (call (Value.type _) [Value.ref _]) _ _ _); k_dflt (refine copy_list (by k_asm) (by k_asm) (by k_mem) (by assumption) ?_); intro _ _ _ _ _ q09; (try k_lt q09); revert q09; intro _) | ((with_reducible show wpAny _ _ (call (Value.builtin "list.append") _) _ _ _); (k_dflt (refine append_any (by k_asm) (by k_asm) (by k_updF) (by first | assumption | kpa_ne | (simp only [List.length_append, List.length_take, List.length_drop]; kpa_ne)) ?_); intro _ _ q09; (try dsimp only at q09); revert q09; intro _)) | ((with_reducible show wpAny _ _ (call (Value.builtin "list.pop") _) _ _ _); (k_dflt (refine pop0 (by k_asm) (by k_asm) (by k_updF) (by assumption) ?_); intro _ _ q09; (try dsimp only at q09); revert q09; intro _)) | ((with_reducible show wpAny _ _ (call (Value.type "range") _) _ _ _); (k_dflt (refine range_N (by k_asm) (by k_asm) ?_); intro _ _ _ _ _ _ _ q09; (try k_lt q09); revert q09; intro _)) | ((with_reducible show wpAny _ _ (call (Value.builtin "min") _) _ _ _); (k_dflt (refine min_len (by rfl) (by k_asm) (by k_asm) (by assumption) ?_); intro _ _ _ _ _ _ _ _)) | ((with_reducible show wpAny _ _ (call (Value.builtin "len") _) _ _ _); (k_dflt (refine len_any (by k_asm) (by k_mem) (by assumption) ?_))) | ((with_reducible show wpAny _ _ (binaryOp _ (Value.ref _) (Value.ref _)) _ _ _); (k_dflt (refine add_strs (by k_asm) (by k_asm) (by k_mem) (by k_mem) (by kpa_ne) ?_); intro _ _ _ _ q09; (try k_lt q09); revert q09; intro _)) | ((with_reducible show wpAny _ _ (getAttr (Value.ref _) (Str.ofString "spot") _) _ _ _); k_dflt (refine spot_get (by k_asm) (by k_asm) (by k_asm) (by k_mem) (by k_mem) (by assumption) (by assumption) (by assumption) ?_)) | ((with_reducible show wpAny _ _ (compareOp CmpOp.Eq (Value.ref _) (Value.ref _)) _ _ _); (refine here_mark ?_)) | ((with_reducible show wpAny _ _ (pyIter (Value.ref _)) _ _ _); (refine here_mark ?_)) | ((with_reducible show wpAny _ _ (exec (Stmt.For _ _ _ _ _) _) _ _ _); (k_dflt (refine For_own (by k_asm) (by rfl) (by rfl) ?_))) | ((with_reducible show wpAny _ _ (subscriptTail _ _ (Value.ref _) (Value.int _ _)) _ _ _); k_dflt (refine item_tupleT (by exact News.isTup (by k_asm) (by k_mem)) (by decide) (by decide) (by rfl) (by rfl) ?_; k_whole)) | ((first | (with_reducible show wpAny _ _ (call (Value.ref 269) _) _ _ _) | (with_reducible show wpAny _ _ (call (Value.ref 550) _) _ _ _) | (with_reducible show wpAny _ _ (call (Value.ref 545) _) _ _ _) | (with_reducible show wpAny _ _ (call (Value.ref 524) _) _ _ _)); refine here_mark ?_) | walk1 | (dsimp only; walk1) | (leave1; walk_say "STEP leave1"; try dsimp only) | fail "no step"))
    change wpAny _ _ _ _ _ _
    have N7 : News g' L' h ((b, ob') :: (c, PySem.W.listOf vs.toArray n0) :: (I, oI) :: (ol, PySem.W.listOf dvs.toArray kd) :: (it, PySem.W.listOf ivs.toArray ki) :: (lf, PySem.W.listOf lvs.toArray kl) :: (tkl, PySem.W.listOf tvs.toArray kt) :: (sl, PySem.W.listOf svs.toArray ks) :: (nws ++ own)) := N8.perm (by
      iterate 8 refine List.forall_mem_cons.mpr ⟨by k_mem, ?_⟩
      intro p hp
      repeat (first | exact hp | apply List.mem_cons_of_mem))
    refine draw_B B' (by k_asm) X' N7 T' hb' (by kpa_ne) (by ktr_room) (by ktr_units) lo hbc hoff1 (by k_asm) hl (by decide) (by decide) ?_
    intro r tr h2 tk2 ob2 r0 r1 F2 N2 hb2
    clear N7 N8
    have off_it : @Ne Nat it I := off (it, PySem.W.listOf ivs.toArray ki) (.tail _ (.head _))
    have off_lf : @Ne Nat lf I := off (lf, PySem.W.listOf lvs.toArray kl) (.tail _ (.tail _ (.head _)))
    have off_tk : @Ne Nat tkl I := off (tkl, PySem.W.listOf tvs.toArray kt) (.tail _ (.tail _ (.tail _ (.head _))))
    have hw1 : OwnOff nws [b, it, lf, tkl] := fun p hp e he => by
      have z := hgt p hp
      refine Nat.ne_of_gt (Nat.lt_of_le_of_lt ?_ z)
      rcases List.mem_cons.mp he with rfl | he
      · exact Nat.le_of_lt lC3
      rcases List.mem_cons.mp he with rfl | he
      · exact Nat.le_of_lt lC2
      rcases List.mem_cons.mp he with rfl | he
      · exact Nat.le_of_lt lC1
      · rw [List.mem_singleton.mp he]; exact Nat.le_refl _
    (repeat' (first | (k_unfold; (try dsimp only)) | (k_end; wrow_close) | ((with_reducible show wpAny _ _ (call (Value.type _) [Value.ref _]) _ _ _); k_dflt (refine copy_list (by k_asm) (by k_asm) (by k_mem) (by assumption) ?_); intro _ _ _ _ _ q09; (try k_lt q09); revert q09; intro _) | ((with_reducible show wpAny _ _ (call (Value.builtin "list.append") _) _ _ _); (k_dflt (refine append_any (by k_asm) (by k_asm) (by k_updF) (by first | assumption | kpa_ne | (simp only [List.length_append, List.length_take, List.length_drop]; kpa_ne)) ?_); intro _ _ q09; (try dsimp only at q09); revert q09; intro _)) | ((with_reducible show wpAny _ _ (call (Value.builtin "list.pop") _) _ _ _); (k_dflt (refine pop0 (by k_asm) (by k_asm) (by k_updF) (by assumption) ?_); intro _ _ q09; (try dsimp only at q09); revert q09; intro _)) | ((with_reducible show wpAny _ _ (call (Value.type "range") _) _ _ _); (k_dflt (refine range_N (by k_asm) (by k_asm) ?_); intro _ _ _ _ _ _ _ q09; (try k_lt q09); revert q09; intro _)) | ((with_reducible show wpAny _ _ (call (Value.builtin "min") _) _ _ _); (k_dflt (refine min_len (by rfl) (by k_asm) (by k_asm) (by assumption) ?_); intro _ _ _ _ _ _ _ _)) | ((with_reducible show wpAny _ _ (call (Value.builtin "len") _) _ _ _); (k_dflt (refine len_any (by k_asm) (by k_mem) (by assumption) ?_))) | ((with_reducible show wpAny _ _ (binaryOp _ (Value.ref _) (Value.ref _)) _ _ _); (k_dflt (refine add_strs (by k_asm) (by k_asm) (by k_mem) (by k_mem) (by kpa_ne) ?_); intro _ _ _ _ q09; (try k_lt q09); revert q09; intro _)) | ((with_reducible show wpAny _ _ (getAttr (Value.ref _) (Str.ofString "spot") _) _ _ _); k_dflt (refine spot_get (by k_asm) (by k_asm) (by k_asm) (by k_mem) (by k_mem) (by assumption) (by assumption) (by assumption) ?_)) | ((with_reducible show wpAny _ _ (compareOp CmpOp.Eq (Value.ref _) (Value.ref _)) _ _ _); (refine here_mark ?_)) | ((with_reducible show wpAny _ _ (pyIter (Value.ref _)) _ _ _); (refine here_mark ?_)) | ((with_reducible show wpAny _ _ (exec (Stmt.For _ _ _ _ _) _) _ _ _); (k_dflt (refine For_own (by k_asm) (by rfl) (by rfl) ?_))) | ((with_reducible show wpAny _ _ (subscriptTail _ _ (Value.ref _) (Value.int _ _)) _ _ _); k_dflt (refine item_tupleT (by exact News.isTup (by k_asm) (by k_mem)) (by decide) (by decide) (by rfl) (by rfl) ?_; k_whole)) | ((first | (with_reducible show wpAny _ _ (call (Value.ref 269) _) _ _ _) | (with_reducible show wpAny _ _ (call (Value.ref 550) _) _ _ _) | (with_reducible show wpAny _ _ (call (Value.ref 545) _) _ _ _) | (with_reducible show wpAny _ _ (call (Value.ref 524) _) _ _ _)); refine here_mark ?_) | walk1 | (dsimp only; walk1) | (leave1; walk_say "STEP leave1"; try dsimp only) | fail "no step"))
    change wpAny _ _ _ _ _ _
    rename_i kx tm hmn tkn hkl hkr Fm Nm rg ug vg hrg tkg Frg Nrg l1g
    clear Fm Nm
    have Nr : News g' L' hrg ((rg, rngO (kx : Int) ug tm vg) :: (it, PySem.W.listOf (ivs ++ lvs.take 0).toArray ki) :: (lf, PySem.W.listOf (lvs.drop 0).toArray kl) :: (tkl, PySem.W.listOf tvs.toArray kt) :: (b, ob2) :: (c, PySem.W.listOf vs.toArray n0) :: (I, oI) :: (ol, PySem.W.listOf dvs.toArray kd) :: (sl, PySem.W.listOf svs.toArray ks) :: (nws ++ own)) := by
      rw [List.take_zero, List.append_nil, List.drop_zero]
      refine Nrg.perm ?_
      iterate 9 refine List.forall_mem_cons.mpr ⟨by k_mem, ?_⟩
      intro p hp
      repeat (first | exact hp | apply List.mem_cons_of_mem)
    clear Nrg
    refine inv_gen (fun (j : Nat) (z : Option Value) (nw : List (Addr × Obj)) => ∀ CC : Prop, (∀ ka kb, (nw = (it, PySem.W.listOf (ivs ++ lvs.take j).toArray ka) :: (lf, PySem.W.listOf (lvs.drop j).toArray kb) :: (tkl, PySem.W.listOf tvs.toArray kt) :: (b, ob2) :: (c, PySem.W.listOf vs.toArray n0) :: (I, oI) :: (ol, PySem.W.listOf dvs.toArray kd) :: (sl, PySem.W.listOf svs.toArray ks) :: (nws ++ own)) → CC) → CC) ?_
    intro J2 hJ2
    refine for_rangeZ mkL J2
      _ (by rfl) (by kpa_ne) Frg Nr mkL_self (of_inv hJ2 fun CC kQ9 => kQ9 ki kl rfl) ?_ ?_
    · rintro j tv z nw h3 tk3 I3 oI3 hI3 hj hJ3 off3 F3 N3
      refine abs_both fun TT2 EE2 hTT2 => ?_
      refine to_inv hJ2 hJ3 _ ?_; rintro ka kb rfl
      clear hJ3
      obtain ⟨v3, ed, ev⟩ := nd4 (Nat.lt_of_lt_of_le hj hkl)
      rw [ed] at N3
      have o3a : @Ne Nat it I3 := off3 _ (.head _)
      have o3b : @Ne Nat lf I3 := off3 _ (.tail _ (.head _))
      have hz3 : (lvs.drop (j + 1)).length ≤ 1000 := by rw [List.length_drop]; kpa_ne
      unfold mkL at F3
      (repeat' (first | (k_unfold; (try dsimp only)) | (k_end; wrow_close) | ((with_reducible show wpAny _ _ (call (Value.type _) [Value.ref _]) _ _ _); k_dflt (refine copy_list (by k_asm) (by k_asm) (by k_mem) (by assumption) ?_); intro _ _ _ _ _ q09; (try k_lt q09); revert q09; intro _) | ((with_reducible show wpAny _ _ (call (Value.builtin "list.append") _) _ _ _); (k_dflt (refine append_any (by k_asm) (by k_asm) (by k_updF) (by first | assumption | kpa_ne | (simp only [List.length_append, List.length_take, List.length_drop]; kpa_ne)) ?_); intro _ _ q09; (try dsimp only at q09); revert q09; intro _)) | ((with_reducible show wpAny _ _ (call (Value.builtin "list.pop") _) _ _ _); (k_dflt (refine pop0 (by k_asm) (by k_asm) (by k_updF) (by assumption) ?_); intro _ _ q09; (try dsimp only at q09); revert q09; intro _)) | ((with_reducible show wpAny _ _ (call (Value.type "range") _) _ _ _); (k_dflt (refine range_N (by k_asm) (by k_asm) ?_); intro _ _ _ _ _ _ _ q09; (try k_lt q09); revert q09; intro _)) | ((with_reducible show wpAny _ _ (call (Value.builtin "min") _) _ _ _); (k_dflt (refine min_len (by rfl) (by k_asm) (by k_asm) (by assumption) ?_); intro _ _ _ _ _ _ _ _)) | ((with_reducible show wpAny _ _ (call (Value.builtin "len") _) _ _ _); (k_dflt (refine len_any (by k_asm) (by k_mem) (by assumption) ?_))) | ((with_reducible show wpAny _ _ (binaryOp _ (Value.ref _) (Value.ref _)) _ _ _); (k_dflt (refine add_strs (by k_asm) (by k_asm) (by k_mem) (by k_mem) (by kpa_ne) ?_); intro _ _ _ _ q09; (try k_lt q09); revert q09; intro _)) | ((with_reducible show wpAny _ _ (getAttr (Value.ref _) (Str.ofString "spot") _) _ _ _); k_dflt (refine spot_get (by k_asm) (by k_asm) (by k_asm) (by k_mem) (by k_mem) (by assumption) (by assumption) (by assumption) ?_)) | ((with_reducible show wpAny _ _ (compareOp CmpOp.Eq (Value.ref _) (Value.ref _)) _ _ _); (refine here_mark ?_)) | ((with_reducible show wpAny _ _ (pyIter (Value.ref _)) _ _ _); (refine here_mark ?_)) | ((with_reducible show wpAny _ _ (exec (Stmt.For _ _ _ _ _) _) _ _ _); (k_dflt (refine For_own (by k_asm) (by rfl) (by rfl) ?_))) | ((with_reducible show wpAny _ _ (subscriptTail _ _ (Value.ref _) (Value.int _ _)) _ _ _); k_dflt (refine item_tupleT (by exact News.isTup (by k_asm) (by k_mem)) (by decide) (by decide) (by rfl) (by rfl) ?_; k_whole)) | ((first | (with_reducible show wpAny _ _ (call (Value.ref 269) _) _ _ _) | (with_reducible show wpAny _ _ (call (Value.ref 550) _) _ _ _) | (with_reducible show wpAny _ _ (call (Value.ref 545) _) _ _ _) | (with_reducible show wpAny _ _ (call (Value.ref 524) _) _ _ _)); refine here_mark ?_) | walk1 | (dsimp only; walk1) | (leave1; walk_say "STEP leave1"; try dsimp only) | fail "no step"))
      rename_i h4 F4 N4
      have e4 : ivs ++ lvs.take (j + 1) = ivs ++ lvs.take j ++ [v3] := by rw [List.take_add_one, ev, List.append_assoc]; rfl
      rw [← e4] at N4
      refine hTT2 _ _ ?_
      exact turn_nextZ (some (.int (j : Int) tv)) F4 N4 (off_map off3 rfl) (mkL_eq _ rfl fun y e => by simp only [if_neg e]) (of_inv hJ2 fun CC kQ9 => kQ9 (ka + 1) (kb + 1) rfl)
    · rintro z nw h3 tk3 hJ3 F3 N3
      refine to_inv hJ2 hJ3 _ ?_; rintro ka kb rfl
      clear hJ3
      unfold mkL at F3
      obtain ⟨w1, w2, w3, w4⟩ := step_data (kx := kx) hits hlv hnm hop hd' ⟨ai, aa, u1, u2, u3, u4, avs, rfl, hm1, hm2, hargs⟩
      have htl : tvs.length ≤ 100 := by have := hps.length; kpa_ne
      have hdok := (hdo d (List.mem_of_getElem? hd')).1
      (repeat' (first | (k_unfold; (try dsimp only)) | (k_end; wrow_close) | ((with_reducible show wpAny _ _ (call (Value.type _) [Value.ref _]) _ _ _); k_dflt (refine copy_list (by k_asm) (by k_asm) (by k_mem) (by assumption) ?_); intro _ _ _ _ _ q09; (try k_lt q09); revert q09; intro _) | ((with_reducible show wpAny _ _ (call (Value.builtin "list.append") _) _ _ _); (k_dflt (refine append_any (by k_asm) (by k_asm) (by k_updF) (by first | assumption | kpa_ne | (simp only [List.length_append, List.length_take, List.length_drop]; kpa_ne)) ?_); intro _ _ q09; (try dsimp only at q09); revert q09; intro _)) | ((with_reducible show wpAny _ _ (call (Value.builtin "list.pop") _) _ _ _); (k_dflt (refine pop0 (by k_asm) (by k_asm) (by k_updF) (by assumption) ?_); intro _ _ q09; (try dsimp only at q09); revert q09; intro _)) | ((with_reducible show wpAny _ _ (call (Value.type "range") _) _ _ _); (k_dflt (refine range_N (by k_asm) (by k_asm) ?_); intro _ _ _ _ _ _ _ q09; (try k_lt q09); revert q09; intro _)) | ((with_reducible show wpAny _ _ (call (Value.builtin "min") _) _ _ _); (k_dflt (refine min_len (by rfl) (by k_asm) (by k_asm) (by assumption) ?_); intro _ _ _ _ _ _ _ _)) | ((with_reducible show wpAny _ _ (call (Value.builtin "len") _) _ _ _); (k_dflt (refine len_any (by k_asm) (by k_mem) (by assumption) ?_))) | ((with_reducible show wpAny _ _ (binaryOp _ (Value.ref _) (Value.ref _)) _ _ _); (k_dflt (refine add_strs (by k_asm) (by k_asm) (by k_mem) (by k_mem) (by kpa_ne) ?_); intro _ _ _ _ q09; (try k_lt q09); revert q09; intro _)) | ((with_reducible show wpAny _ _ (getAttr (Value.ref _) (Str.ofString "spot") _) _ _ _); k_dflt (refine spot_get (by k_asm) (by k_asm) (by k_asm) (by k_mem) (by k_mem) (by assumption) (by assumption) (by assumption) ?_)) | ((with_reducible show wpAny _ _ (compareOp CmpOp.Eq (Value.ref _) (Value.ref _)) _ _ _); (refine here_mark ?_)) | ((with_reducible show wpAny _ _ (pyIter (Value.ref _)) _ _ _); (refine here_mark ?_)) | ((with_reducible show wpAny _ _ (exec (Stmt.For _ _ _ _ _) _) _ _ _); (k_dflt (refine For_own (by k_asm) (by rfl) (by rfl) ?_))) | ((with_reducible show wpAny _ _ (subscriptTail _ _ (Value.ref _) (Value.int _ _)) _ _ _); k_dflt (refine item_tupleT (by exact News.isTup (by k_asm) (by k_mem)) (by decide) (by decide) (by rfl) (by rfl) ?_; k_whole)) | ((first | (with_reducible show wpAny _ _ (call (Value.ref 269) _) _ _ _) | (with_reducible show wpAny _ _ (call (Value.ref 550) _) _ _ _) | (with_reducible show wpAny _ _ (call (Value.ref 545) _) _ _ _) | (with_reducible show wpAny _ _ (call (Value.ref 524) _) _ _ _)); refine here_mark ?_) | walk1 | (dsimp only; walk1) | (leave1; walk_say "STEP leave1"; try dsimp only) | fail "no step"))
      · change wpAny _ _ _ _ _ _
        rename_i h5 F5 N5 tk5 a0
        have hrun' : runOpens [] (ds.take i) = .ok os := by
          rcases hrun with ⟨_, q⟩ | ⟨q, _⟩
          · exact q
          · exact absurd a0 q
        have N6 : News g' L' h5 ((ai, tupO [.str (Str.ofString "open") u1, .int d.spot u2, .str d.module u3, .ref aa, .str d.alias u4]) :: (aa, tupO avs) :: (tkl, PySem.W.listOf tvs.toArray kt) ::
            (it, PySem.W.listOf (ivs ++ lvs.take kx ++ [Value.ref ai]).toArray (ka + 1)) :: (lf, PySem.W.listOf (lvs.drop kx).toArray kb) :: (b, ob2) :: (c, PySem.W.listOf vs.toArray n0) :: (I, oI) :: (ol, PySem.W.listOf dvs.toArray kd) :: (sl, PySem.W.listOf svs.toArray ks) :: (nws ++ own)) := N5.perm (by
          refine List.forall_mem_cons.mpr ⟨.tail _ (.tail _ (.tail _ (.tail _ (.tail _ (.tail _ (.tail _ (.tail _ (.tail _ (List.mem_append.mpr (.inr hm1)))))))))), List.forall_mem_cons.mpr ⟨.tail _ (.tail _ (.tail _ (.tail _ (.tail _ (.tail _ (.tail _ (.tail _ (.tail _ (List.mem_append.mpr (.inr hm2)))))))))), ?_⟩⟩
          iterate 8 refine List.forall_mem_cons.mpr ⟨by k_mem, ?_⟩
          intro p hp
          repeat (first | exact hp | apply List.mem_cons_of_mem))
        clear N5
        have hp6 : PairsAt ((it, PySem.W.listOf (ivs ++ lvs.take kx ++ [Value.ref ai]).toArray (ka + 1)) :: (lf, PySem.W.listOf (lvs.drop kx).toArray kb) :: (b, ob2) :: (c, PySem.W.listOf vs.toArray n0) :: (I, oI) :: (ol, PySem.W.listOf dvs.toArray kd) :: (sl, PySem.W.listOf svs.toArray ks) :: (nws ++ own)) tvs os :=
          PairsAt.mono (fun p hp => .tail _ (.tail _ (.tail _ (.tail _ (.tail _ (.tail _ (.tail _ (List.mem_append.mpr (.inl hp))))))))) hps
        have hal : ∀ x ∈ d.args, x.length ≤ 100 := fun x hx => (one_sig (hdok.2.1 x hx)).1
        refine isTaken_spec B' F5 X' N6 T' (by ktr_room) (by ktr_units) hargs (by have := hdok.2.2.1; kpa_ne) hal hp6 htl ?_
        intro bv h6 tk6 hbv F6 N7
        clear N6 F5
        cases bv with
        | true =>
          (repeat' (first | (k_unfold; (try dsimp only)) | (k_end; wrow_close) | ((with_reducible show wpAny _ _ (call (Value.type _) [Value.ref _]) _ _ _); k_dflt (refine copy_list (by k_asm) (by k_asm) (by k_mem) (by assumption) ?_); intro _ _ _ _ _ q09; (try k_lt q09); revert q09; intro _) | ((with_reducible show wpAny _ _ (call (Value.builtin "list.append") _) _ _ _); (k_dflt (refine append_any (by k_asm) (by k_asm) (by k_updF) (by first | assumption | kpa_ne | (simp only [List.length_append, List.length_take, List.length_drop]; kpa_ne)) ?_); intro _ _ q09; (try dsimp only at q09); revert q09; intro _)) | ((with_reducible show wpAny _ _ (call (Value.builtin "list.pop") _) _ _ _); (k_dflt (refine pop0 (by k_asm) (by k_asm) (by k_updF) (by assumption) ?_); intro _ _ q09; (try dsimp only at q09); revert q09; intro _)) | ((with_reducible show wpAny _ _ (call (Value.type "range") _) _ _ _); (k_dflt (refine range_N (by k_asm) (by k_asm) ?_); intro _ _ _ _ _ _ _ q09; (try k_lt q09); revert q09; intro _)) | ((with_reducible show wpAny _ _ (call (Value.builtin "min") _) _ _ _); (k_dflt (refine min_len (by rfl) (by k_asm) (by k_asm) (by assumption) ?_); intro _ _ _ _ _ _ _ _)) | ((with_reducible show wpAny _ _ (call (Value.builtin "len") _) _ _ _); (k_dflt (refine len_any (by k_asm) (by k_mem) (by assumption) ?_))) | ((with_reducible show wpAny _ _ (binaryOp _ (Value.ref _) (Value.ref _)) _ _ _); (k_dflt (refine add_strs (by k_asm) (by k_asm) (by k_mem) (by k_mem) (by kpa_ne) ?_); intro _ _ _ _ q09; (try k_lt q09); revert q09; intro _)) | ((with_reducible show wpAny _ _ (getAttr (Value.ref _) (Str.ofString "spot") _) _ _ _); k_dflt (refine spot_get (by k_asm) (by k_asm) (by k_asm) (by k_mem) (by k_mem) (by assumption) (by assumption) (by assumption) ?_)) | ((with_reducible show wpAny _ _ (compareOp CmpOp.Eq (Value.ref _) (Value.ref _)) _ _ _); (refine here_mark ?_)) | ((with_reducible show wpAny _ _ (pyIter (Value.ref _)) _ _ _); (refine here_mark ?_)) | ((with_reducible show wpAny _ _ (exec (Stmt.For _ _ _ _ _) _) _ _ _); (k_dflt (refine For_own (by k_asm) (by rfl) (by rfl) ?_))) | ((with_reducible show wpAny _ _ (subscriptTail _ _ (Value.ref _) (Value.int _ _)) _ _ _); k_dflt (refine item_tupleT (by exact News.isTup (by k_asm) (by k_mem)) (by decide) (by decide) (by rfl) (by rfl) ?_; k_whole)) | ((first | (with_reducible show wpAny _ _ (call (Value.ref 269) _) _ _ _) | (with_reducible show wpAny _ _ (call (Value.ref 550) _) _ _ _) | (with_reducible show wpAny _ _ (call (Value.ref 545) _) _ _ _) | (with_reducible show wpAny _ _ (call (Value.ref 524) _) _ _ _)); refine here_mark ?_) | walk1 | (dsimp only; walk1) | (leave1; walk_say "STEP leave1"; try dsimp only) | fail "no step"))
          change wpAny _ _ _ _ _ _
          have ha0 : 0 < d.args.length := by
            unfold lawTakes at hbv
            cases e : d.args with
            | nil => rw [e] at hbv; simp at hbv
            | cons y r => exact Nat.succ_pos _
          refine row_K B' (by k_asm) X' N7 T' (.head _) (.tail _ (.head _)) (by ktr_room) (by ktr_units) hargs ha0 hal ?_
          intro p nm x r ta tb9 h7 tk7 e1 e2 F7 N8 l8
          clear N7
          obtain ⟨hr1, hr2⟩ := run_yes hd' hrun' hbv e1 e2
          have o8a : @LT.lt Nat _ tkl p := l8 _ (.tail _ (.tail _ (.head _)))
          have o8b : @LT.lt Nat _ I p := l8 _ (.tail _ (.tail _ (.tail _ (.tail _ (.tail _ (.tail _ (.tail _ (.head _))))))))
          have oia : @Ne Nat ai tkl := neOf lC7 hm1 (Nat.le_refl _)
          have oaa : @Ne Nat aa tkl := neOf lC7 hm2 (Nat.le_refl _)
          (repeat' (first | (k_unfold; (try dsimp only)) | (k_end; wrow_close) | ((with_reducible show wpAny _ _ (call (Value.type _) [Value.ref _]) _ _ _); k_dflt (refine copy_list (by k_asm) (by k_asm) (by k_mem) (by assumption) ?_); intro _ _ _ _ _ q09; (try k_lt q09); revert q09; intro _) | ((with_reducible show wpAny _ _ (call (Value.builtin "list.append") _) _ _ _); (k_dflt (refine append_any (by k_asm) (by k_asm) (by k_updF) (by first | assumption | kpa_ne | (simp only [List.length_append, List.length_take, List.length_drop]; kpa_ne)) ?_); intro _ _ q09; (try dsimp only at q09); revert q09; intro _)) | ((with_reducible show wpAny _ _ (call (Value.builtin "list.pop") _) _ _ _); (k_dflt (refine pop0 (by k_asm) (by k_asm) (by k_updF) (by assumption) ?_); intro _ _ q09; (try dsimp only at q09); revert q09; intro _)) | ((with_reducible show wpAny _ _ (call (Value.type "range") _) _ _ _); (k_dflt (refine range_N (by k_asm) (by k_asm) ?_); intro _ _ _ _ _ _ _ q09; (try k_lt q09); revert q09; intro _)) | ((with_reducible show wpAny _ _ (call (Value.builtin "min") _) _ _ _); (k_dflt (refine min_len (by rfl) (by k_asm) (by k_asm) (by assumption) ?_); intro _ _ _ _ _ _ _ _)) | ((with_reducible show wpAny _ _ (call (Value.builtin "len") _) _ _ _); (k_dflt (refine len_any (by k_asm) (by k_mem) (by assumption) ?_))) | ((with_reducible show wpAny _ _ (binaryOp _ (Value.ref _) (Value.ref _)) _ _ _); (k_dflt (refine add_strs (by k_asm) (by k_asm) (by k_mem) (by k_mem) (by kpa_ne) ?_); intro _ _ _ _ q09; (try k_lt q09); revert q09; intro _)) | ((with_reducible show wpAny _ _ (getAttr (Value.ref _) (Str.ofString "spot") _) _ _ _); k_dflt (refine spot_get (by k_asm) (by k_asm) (by k_asm) (by k_mem) (by k_mem) (by assumption) (by assumption) (by assumption) ?_)) | ((with_reducible show wpAny _ _ (compareOp CmpOp.Eq (Value.ref _) (Value.ref _)) _ _ _); (refine here_mark ?_)) | ((with_reducible show wpAny _ _ (pyIter (Value.ref _)) _ _ _); (refine here_mark ?_)) | ((with_reducible show wpAny _ _ (exec (Stmt.For _ _ _ _ _) _) _ _ _); (k_dflt (refine For_own (by k_asm) (by rfl) (by rfl) ?_))) | ((with_reducible show wpAny _ _ (subscriptTail _ _ (Value.ref _) (Value.int _ _)) _ _ _); k_dflt (refine item_tupleT (by exact News.isTup (by k_asm) (by k_mem)) (by decide) (by decide) (by rfl) (by rfl) ?_; k_whole)) | ((first | (with_reducible show wpAny _ _ (call (Value.ref 269) _) _ _ _) | (with_reducible show wpAny _ _ (call (Value.ref 550) _) _ _ _) | (with_reducible show wpAny _ _ (call (Value.ref 545) _) _ _ _) | (with_reducible show wpAny _ _ (call (Value.ref 524) _) _ _ _)); refine here_mark ?_) | walk1 | (dsimp only; walk1) | (leave1; walk_say "STEP leave1"; try dsimp only) | fail "no step"))
          rename_i h9 F9 N9
          refine hTT _ _ ?_
          refine turn_nextZ (nw' := (b, ob2) :: (it, PySem.W.listOf (ivs ++ lvs.take kx ++ [Value.ref ai]).toArray (ka + 1)) :: (lf, PySem.W.listOf (lvs.drop kx).toArray kb) :: (tkl, PySem.W.listOf (tvs ++ [Value.ref p]).toArray (kt + 1)) :: (c, PySem.W.listOf vs.toArray n0) :: (sl, PySem.W.listOf svs.toArray ks) :: (((p, tupO [.str nm ta, .str x tb9]) :: nws) ++ own))
            (some (.ref ai), z, bd, tb) F9 (N9.perm ?_) ?_ (mk3_eq _ _ _ rfl rfl rfl fun y e1 e2 e3 => by simp only [if_neg e1, if_neg e2, if_neg e3])
            (of_inv hJ fun CC kQ9 => kQ9 ob2 _ (ivs ++ lvs.take kx ++ [Value.ref ai]) (ka + 1) _ (lvs.drop kx) kb (os ++ [(nm, x)]) (tvs ++ [Value.ref p]) (kt + 1) ((p, tupO [.str nm ta, .str x tb9]) :: nws) rfl (hb2.mono (by kpa_ne)) w1 w2 w3 w4 (PairsAt.snoc (o := (nm, x)) ⟨p, ta, tb9, rfl, .head _⟩ (PairsAt.mono (fun _ h => .tail _ h) hps)) (e2 ▸ hos.snoc hdok hr2) (by rw [List.length_append, List.length_singleton]; kpa_ne) ?_ (.inl ⟨a0, hr1⟩))
          · iterate 8 refine List.forall_mem_cons.mpr ⟨by k_mem, ?_⟩
            refine List.forall_mem_cons.mpr ⟨by k_mem, ?_⟩
            intro p hp
            repeat (first | exact hp | apply List.mem_cons_of_mem)
          · intro q hq
            iterate 6
              rcases List.mem_cons.mp hq with rfl | hq
              · first | exact hio.symm | exact off_it | exact off_lf | exact off_tk | exact off (c, PySem.W.listOf vs.toArray n0) (.tail _ (.tail _ (.tail _ (.tail _ (.head _))))) | exact off (sl, PySem.W.listOf svs.toArray ks) (.tail _ (.tail _ (.tail _ (.tail _ (.tail _ (.head _))))))
            rcases List.mem_cons.mp hq with rfl | hq
            · exact Nat.ne_of_gt o8b
            · exact off _ (.tail _ (.tail _ (.tail _ (.tail _ (.tail _ (.tail _ hq))))))
          · intro q hq
            rcases List.mem_cons.mp hq with rfl | hq
            · exact o8a
            · exact hgt q hq
        | false =>
          have hr1 := run_no hd' hrun' hbv
          have hdp0 := (hdo d (List.mem_of_getElem? hd')).2.1
          (repeat' (first | (k_unfold; (try dsimp only)) | (k_end; wrow_close) | ((with_reducible show wpAny _ _ (call (Value.type _) [Value.ref _]) _ _ _); k_dflt (refine copy_list (by k_asm) (by k_asm) (by k_mem) (by assumption) ?_); intro _ _ _ _ _ q09; (try k_lt q09); revert q09; intro _) | ((with_reducible show wpAny _ _ (call (Value.builtin "list.append") _) _ _ _); (k_dflt (refine append_any (by k_asm) (by k_asm) (by k_updF) (by first | assumption | kpa_ne | (simp only [List.length_append, List.length_take, List.length_drop]; kpa_ne)) ?_); intro _ _ q09; (try dsimp only at q09); revert q09; intro _)) | ((with_reducible show wpAny _ _ (call (Value.builtin "list.pop") _) _ _ _); (k_dflt (refine pop0 (by k_asm) (by k_asm) (by k_updF) (by assumption) ?_); intro _ _ q09; (try dsimp only at q09); revert q09; intro _)) | ((with_reducible show wpAny _ _ (call (Value.type "range") _) _ _ _); (k_dflt (refine range_N (by k_asm) (by k_asm) ?_); intro _ _ _ _ _ _ _ q09; (try k_lt q09); revert q09; intro _)) | ((with_reducible show wpAny _ _ (call (Value.builtin "min") _) _ _ _); (k_dflt (refine min_len (by rfl) (by k_asm) (by k_asm) (by assumption) ?_); intro _ _ _ _ _ _ _ _)) | ((with_reducible show wpAny _ _ (call (Value.builtin "len") _) _ _ _); (k_dflt (refine len_any (by k_asm) (by k_mem) (by assumption) ?_))) | ((with_reducible show wpAny _ _ (binaryOp _ (Value.ref _) (Value.ref _)) _ _ _); (k_dflt (refine add_strs (by k_asm) (by k_asm) (by k_mem) (by k_mem) (by kpa_ne) ?_); intro _ _ _ _ q09; (try k_lt q09); revert q09; intro _)) | ((with_reducible show wpAny _ _ (getAttr (Value.ref _) (Str.ofString "spot") _) _ _ _); k_dflt (refine spot_get (by k_asm) (by k_asm) (by k_asm) (by k_mem) (by k_mem) (by assumption) (by assumption) (by assumption) ?_)) | ((with_reducible show wpAny _ _ (compareOp CmpOp.Eq (Value.ref _) (Value.ref _)) _ _ _); (refine here_mark ?_)) | ((with_reducible show wpAny _ _ (pyIter (Value.ref _)) _ _ _); (refine here_mark ?_)) | ((with_reducible show wpAny _ _ (exec (Stmt.For _ _ _ _ _) _) _ _ _); (k_dflt (refine For_own (by k_asm) (by rfl) (by rfl) ?_))) | ((with_reducible show wpAny _ _ (subscriptTail _ _ (Value.ref _) (Value.int _ _)) _ _ _); k_dflt (refine item_tupleT (by exact News.isTup (by k_asm) (by k_mem)) (by decide) (by decide) (by rfl) (by rfl) ?_; k_whole)) | ((first | (with_reducible show wpAny _ _ (call (Value.ref 269) _) _ _ _) | (with_reducible show wpAny _ _ (call (Value.ref 550) _) _ _ _) | (with_reducible show wpAny _ _ (call (Value.ref 545) _) _ _ _) | (with_reducible show wpAny _ _ (call (Value.ref 524) _) _ _ _)); refine here_mark ?_) | walk1 | (dsimp only; walk1) | (leave1; walk_say "STEP leave1"; try dsimp only) | fail "no step"))
          rename_i h9 F9 N9
          refine hTT _ _ ?_
          refine turn_nextZ (nw' := (b, ob2) :: (it, PySem.W.listOf (ivs ++ lvs.take kx ++ [Value.ref ai]).toArray (ka + 1)) :: (lf, PySem.W.listOf (lvs.drop kx).toArray kb) :: (tkl, PySem.W.listOf tvs.toArray kt) :: (c, PySem.W.listOf vs.toArray n0) :: (sl, PySem.W.listOf svs.toArray ks) :: (nws ++ own))
            (some (.ref ai), z, d.spot, u2) F9 (N9.perm ?_) (off_map off rfl) (mk3_eq _ _ _ rfl rfl rfl fun y e1 e2 e3 => by simp only [if_neg e1, if_neg e2, if_neg e3])
            (of_inv hJ fun CC kQ9 => kQ9 ob2 _ (ivs ++ lvs.take kx ++ [Value.ref ai]) (ka + 1) _ (lvs.drop kx) kb os tvs kt nws rfl (hb2.mono (by kpa_ne)) w1 w2 w3 w4 hps hos (by kpa_ne) hgt (.inr ⟨by show d.spot ≠ 0; kpa_ne, hr1⟩))
          iterate 8 refine List.forall_mem_cons.mpr ⟨by k_mem, ?_⟩
          intro p hp
          repeat (first | exact hp | apply List.mem_cons_of_mem)
      · rename_i h5 F5 N5 tk5 a0
        have hrun' : runOpens [] (ds.take i) = .error bd := by
          rcases hrun with ⟨q, _⟩ | ⟨_, q⟩
          · exact absurd q a0
          · exact q
        refine hTT _ _ ?_
        refine turn_nextZ (nw' := (b, ob2) :: (it, PySem.W.listOf (ivs ++ lvs.take kx ++ [Value.ref ai]).toArray (ka + 1)) :: (lf, PySem.W.listOf (lvs.drop kx).toArray kb) :: (tkl, PySem.W.listOf tvs.toArray kt) :: (c, PySem.W.listOf vs.toArray n0) :: (sl, PySem.W.listOf svs.toArray ks) :: (nws ++ own))
          (some (.ref ai), z, bd, tb) F5 (N5.perm ?_) (off_map off rfl) (mk3_eq _ _ _ rfl rfl rfl fun y e1 e2 e3 => by simp only [if_neg e1, if_neg e2, if_neg e3])
          (of_inv hJ fun CC kQ9 => kQ9 ob2 _ (ivs ++ lvs.take kx ++ [Value.ref ai]) (ka + 1) _ (lvs.drop kx) kb os tvs kt nws rfl (hb2.mono (by kpa_ne)) w1 w2 w3 w4 hps hos (by kpa_ne) hgt (.inr ⟨a0, run_err hd' hrun'⟩))
        iterate 8 refine List.forall_mem_cons.mpr ⟨by k_mem, ?_⟩
        intro p hp
        repeat (first | exact hp | apply List.mem_cons_of_mem)
  · rintro ⟨av1, av2, bd, tb⟩ nw h tk hJ1 F8 N8
    refine to_inv hJ hJ1 _ ?_; rintro ob' its ivs ki lx lvs kl os tvs kt nws rfl hb' hits hlv hnm hop hps hos hol hgt hrun
    clear hJ1
    dsimp only at hrun
    unfold mk3 at F8
    dsimp only at F8
    have hdl2 := hdv.length
    rw [hdl2, List.take_length] at hrun hop
    have z1 := hits.length
    have z2 := its_len its
    have z3 := congrArg List.length hnm
    have z4 := congrArg List.length hop
    have z6 := hxs.2.2
    have z7 := hlv.length
    rw [List.length_append] at z3
    have hsz : ivs.length + lvs.length ≤ 1000 := by kpa_ne
    obtain ⟨lA1, lA2, lA3, lA4, lA5⟩ := id lA
    obtain ⟨lB1, lB2, lB3, lB4, lB5, lB6⟩ := id lB
    obtain ⟨lC1, lC2, lC3, lC4, lC5, lC6, lC7⟩ := id lC
    (repeat' (first | (k_unfold; (try dsimp only)) | (k_end; wrow_close) | ((with_reducible show wpAny _ _ (call (Value.type _) [Value.ref _]) _ _ _); k_dflt (refine copy_list (by k_asm) (by k_asm) (by k_mem) (by assumption) ?_); intro _ _ _ _ _ q09; (try k_lt q09); revert q09; intro _) | ((with_reducible show wpAny _ _ (call (Value.builtin "list.append") _) _ _ _); (k_dflt (refine append_any (by k_asm) (by k_asm) (by k_updF) (by first | assumption | kpa_ne | (simp only [List.length_append, List.length_take, List.length_drop]; kpa_ne)) ?_); intro _ _ q09; (try dsimp only at q09); revert q09; intro _)) | ((with_reducible show wpAny _ _ (call (Value.builtin "list.pop") _) _ _ _); (k_dflt (refine pop0 (by k_asm) (by k_asm) (by k_updF) (by assumption) ?_); intro _ _ q09; (try dsimp only at q09); revert q09; intro _)) | ((with_reducible show wpAny _ _ (call (Value.type "range") _) _ _ _); (k_dflt (refine range_N (by k_asm) (by k_asm) ?_); intro _ _ _ _ _ _ _ q09; (try k_lt q09); revert q09; intro _)) | ((with_reducible show wpAny _ _ (call (Value.builtin "min") _) _ _ _); (k_dflt (refine min_len (by rfl) (by k_asm) (by k_asm) (by assumption) ?_); intro _ _ _ _ _ _ _ _)) | ((with_reducible show wpAny _ _ (call (Value.builtin "len") _) _ _ _); (k_dflt (refine len_any (by k_asm) (by k_mem) (by assumption) ?_))) | ((with_reducible show wpAny _ _ (binaryOp _ (Value.ref _) (Value.ref _)) _ _ _); (k_dflt (refine add_strs (by k_asm) (by k_asm) (by k_mem) (by k_mem) (by kpa_ne) ?_); intro _ _ _ _ q09; (try k_lt q09); revert q09; intro _)) | ((with_reducible show wpAny _ _ (getAttr (Value.ref _) (Str.ofString "spot") _) _ _ _); k_dflt (refine spot_get (by k_asm) (by k_asm) (by k_asm) (by k_mem) (by k_mem) (by assumption) (by assumption) (by assumption) ?_)) | ((with_reducible show wpAny _ _ (compareOp CmpOp.Eq (Value.ref _) (Value.ref _)) _ _ _); (refine here_mark ?_)) | ((with_reducible show wpAny _ _ (pyIter (Value.ref _)) _ _ _); (refine here_mark ?_)) | ((with_reducible show wpAny _ _ (exec (Stmt.For _ _ _ _ _) _) _ _ _); (k_dflt (refine For_own (by k_asm) (by rfl) (by rfl) ?_))) | ((with_reducible show wpAny _ _ (subscriptTail _ _ (Value.ref _) (Value.int _ _)) _ _ _); k_dflt (refine item_tupleT (by exact News.isTup (by k_asm) (by k_mem)) (by decide) (by decide) (by rfl) (by rfl) ?_; k_whole)) | ((first | (with_reducible show wpAny _ _ (call (Value.ref 269) _) _ _ _) | (with_reducible show wpAny _ _ (call (Value.ref 550) _) _ _ _) | (with_reducible show wpAny _ _ (call (Value.ref 545) _) _ _ _) | (with_reducible show wpAny _ _ (call (Value.ref 524) _) _ _ _)); refine here_mark ?_) | walk1 | (dsimp only; walk1) | (leave1; walk_say "STEP leave1"; try dsimp only) | fail "no step"))
    change wpAny _ _ _ _ _ _
    rename_i D9 h9 F9 N9 l9
    have hops : opensOf (its ++ lx.map It.sig) = ds := by rw [opensOf_append, opensOf_sigs, List.append_nil]; exact hop
    have hsgs : sigNames (its ++ lx.map It.sig) = xs := by rw [sigNames_append, sigNames_sigs]; exact hnm
    have sub9 : ∀ p ∈ own, p ∈ (ol, PySem.W.listOf dvs.toArray kd) :: (b, ob') :: (it, PySem.W.listOf ivs.toArray ki) :: (lf, PySem.W.listOf lvs.toArray kl) :: (tkl, PySem.W.listOf tvs.toArray kt) :: (c, PySem.W.listOf vs.toArray n0) :: (sl, PySem.W.listOf svs.toArray ks) :: (nws ++ own) :=
      fun p hp => .tail _ (.tail _ (.tail _ (.tail _ (.tail _ (.tail _ (.tail _ (List.mem_append.mpr (.inr hp))))))))
    refine init_spec (its := its ++ lx.map It.sig) B' F9 X' N9 T' (by ktr_room) (by ktr_units) (All2.append (hits.mono fun _ _ z => ItV.mono sub9 z) (All2.map_right (f := It.sig) (fun _ _ z => SigV.mono sub9 z) hlv)) (hsgs.symm ▸ hxs) (fun d hd => (hdo d (hops ▸ hd)).1) (by rw [hops]; kpa_ne) ?_ ?_
    · intro sg sd en st op od ow oe os2 ovs kn nws2 t1 t2 t3 t4 t5 pairs h2 tk2 hrun2 F2 N2 hdd lo2 hkeys hps2 hos2 hgt2 l2
      rw [hops] at hrun2
      obtain ⟨rfl, rfl⟩ : bd = 0 ∧ os2 = os := by
        rcases hrun with ⟨q1, q2⟩ | ⟨q1, q2⟩
        · rw [q2] at hrun2; cases hrun2; exact ⟨q1, rfl⟩
        · rw [q2] at hrun2; cases hrun2
      have hov : ovs.length ≤ 1000 := by have := hps2.length; kpa_ne
      (repeat' (first | (k_unfold; (try dsimp only)) | (k_end; wrow_close) | ((with_reducible show wpAny _ _ (call (Value.type _) [Value.ref _]) _ _ _); k_dflt (refine copy_list (by k_asm) (by k_asm) (by k_mem) (by assumption) ?_); intro _ _ _ _ _ q09; (try k_lt q09); revert q09; intro _) | ((with_reducible show wpAny _ _ (call (Value.builtin "list.append") _) _ _ _); (k_dflt (refine append_any (by k_asm) (by k_asm) (by k_updF) (by first | assumption | kpa_ne | (simp only [List.length_append, List.length_take, List.length_drop]; kpa_ne)) ?_); intro _ _ q09; (try dsimp only at q09); revert q09; intro _)) | ((with_reducible show wpAny _ _ (call (Value.builtin "list.pop") _) _ _ _); (k_dflt (refine pop0 (by k_asm) (by k_asm) (by k_updF) (by assumption) ?_); intro _ _ q09; (try dsimp only at q09); revert q09; intro _)) | ((with_reducible show wpAny _ _ (call (Value.type "range") _) _ _ _); (k_dflt (refine range_N (by k_asm) (by k_asm) ?_); intro _ _ _ _ _ _ _ q09; (try k_lt q09); revert q09; intro _)) | ((with_reducible show wpAny _ _ (call (Value.builtin "min") _) _ _ _); (k_dflt (refine min_len (by rfl) (by k_asm) (by k_asm) (by assumption) ?_); intro _ _ _ _ _ _ _ _)) | ((with_reducible show wpAny _ _ (call (Value.builtin "len") _) _ _ _); (k_dflt (refine len_any (by k_asm) (by k_mem) (by assumption) ?_))) | ((with_reducible show wpAny _ _ (binaryOp _ (Value.ref _) (Value.ref _)) _ _ _); (k_dflt (refine add_strs (by k_asm) (by k_asm) (by k_mem) (by k_mem) (by kpa_ne) ?_); intro _ _ _ _ q09; (try k_lt q09); revert q09; intro _)) | ((with_reducible show wpAny _ _ (getAttr (Value.ref _) (Str.ofString "spot") _) _ _ _); k_dflt (refine spot_get (by k_asm) (by k_asm) (by k_asm) (by k_mem) (by k_mem) (by assumption) (by assumption) (by assumption) ?_)) | ((with_reducible show wpAny _ _ (compareOp CmpOp.Eq (Value.ref _) (Value.ref _)) _ _ _); (refine here_mark ?_)) | ((with_reducible show wpAny _ _ (pyIter (Value.ref _)) _ _ _); (refine here_mark ?_)) | ((with_reducible show wpAny _ _ (exec (Stmt.For _ _ _ _ _) _) _ _ _); (k_dflt (refine For_own (by k_asm) (by rfl) (by rfl) ?_))) | ((with_reducible show wpAny _ _ (subscriptTail _ _ (Value.ref _) (Value.int _ _)) _ _ _); k_dflt (refine item_tupleT (by exact News.isTup (by k_asm) (by k_mem)) (by decide) (by decide) (by rfl) (by rfl) ?_; k_whole)) | ((first | (with_reducible show wpAny _ _ (call (Value.ref 269) _) _ _ _) | (with_reducible show wpAny _ _ (call (Value.ref 550) _) _ _ _) | (with_reducible show wpAny _ _ (call (Value.ref 545) _) _ _ _) | (with_reducible show wpAny _ _ (call (Value.ref 524) _) _ _ _)); refine here_mark ?_) | walk1 | (dsimp only; walk1) | (leave1; walk_say "STEP leave1"; try dsimp only) | fail "no step"))
      change wpAny _ _ _ _ _ _
      rename News g' L' _ _ => NZ
      have up : ∀ {D sg sd op en D9 : Addr × Obj} {l : List (Addr × Obj)}, ∀ p ∈ l, p ∈ D :: sg :: sd :: op :: en :: D9 :: (nws2 ++ l) := fun p hp => .tail _ (.tail _ (.tail _ (.tail _ (.tail _ (.tail _ (List.mem_append.mpr (.inr hp)))))))
      refine pairs_same (n1 := nws2) (n2 := nws) (kb := kt) NZ (.head _) (up _ (.tail _ (.tail _ (.tail _ (.tail _ (.head _)))))) hps2 ?_ hps ?_ hos (by ktr_units) ?_
      · intro p hp
        exact .tail _ (.tail _ (.tail _ (.tail _ (.tail _ (.tail _ (List.mem_append.mpr (.inl hp)))))))
      · intro p hp
        exact up _ (.tail _ (.tail _ (.tail _ (.tail _ (.tail _ (.tail _ (.tail _ (List.mem_append.mpr (.inl hp)))))))))
      dsimp only
      rename Fr g' L' _ _ => FZ
      refine hQ ob' _ _ (fr_back (base := h₀) FG' (Heap.UpToSlots.refl _) FZ fun b o q => FZ.keep b o (B'.stays b o q)) (news_back FG' (NZ.perm ?_)) (hb'.mono (by kpa_ne))
      refine List.forall_mem_cons.mpr ⟨?_, List.forall_mem_cons.mpr ⟨?_, List.forall_mem_cons.mpr ⟨?_, List.forall_mem_cons.mpr ⟨?_, ?_⟩⟩⟩⟩
      · exact up _ (.tail _ (.head _))
      · exact up _ (.tail _ (.tail _ (.tail _ (.tail _ (.tail _ (.head _))))))
      · exact up _ (.tail _ (.tail _ (.tail _ (.tail _ (.tail _ (.tail _ (.head _)))))))
      · exact up _ (.head _)
      · exact fun p hp => up _ (sub9 p hp)
    · intro spot hrun2 g2 h2 e dx tk2 what u k1 k2 k3 F2 U2 R2 fr
      rw [hops] at hrun2
      obtain ⟨hb0, rfl⟩ : bd ≠ 0 ∧ spot = bd := by
        rcases hrun with ⟨q1, q2⟩ | ⟨q1, q2⟩
        · rw [q2] at hrun2; cases hrun2
        · rw [q2] at hrun2; cases hrun2; exact ⟨q1, rfl⟩
      have e0 : g'.get? e = none := fresh_of_stays F2.keep fr.1
      have d0 : g'.get? dx = none := fresh_of_stays F2.keep fr.2
      have hne : ∀ {b : Addr}, g2.get? b = none → b ≠ L' := fun {b} h0 q => by
        obtain ⟨o, _, _, ho, _⟩ := F2.ns
        rw [q, ho] at h0; cases h0
      refine caught_D (dx := dx) B' F2 U2 R2 X T (List.forall_mem_cons.mpr ⟨d0, fun p hp => (N9 p hp).2.2⟩) (List.forall_mem_cons.mpr ⟨hne fr.2, fun p hp => (N9 p hp).2.1⟩) (hne fr.1) e0 ?_
      intro h3 h4 tk3 oe3 B3 X3 T3 U3 F3 N3 c3 dd3 nc3
      (repeat' (first | (k_unfold; (try dsimp only)) | (k_end; wrow_close) | ((with_reducible show wpAny _ _ (call (Value.type _) [Value.ref _]) _ _ _); k_dflt (refine copy_list (by k_asm) (by k_asm) (by k_mem) (by assumption) ?_); intro _ _ _ _ _ q09; (try k_lt q09); revert q09; intro _) | ((with_reducible show wpAny _ _ (call (Value.builtin "list.append") _) _ _ _); (k_dflt (refine append_any (by k_asm) (by k_asm) (by k_updF) (by first | assumption | kpa_ne | (simp only [List.length_append, List.length_take, List.length_drop]; kpa_ne)) ?_); intro _ _ q09; (try dsimp only at q09); revert q09; intro _)) | ((with_reducible show wpAny _ _ (call (Value.builtin "list.pop") _) _ _ _); (k_dflt (refine pop0 (by k_asm) (by k_asm) (by k_updF) (by assumption) ?_); intro _ _ q09; (try dsimp only at q09); revert q09; intro _)) | ((with_reducible show wpAny _ _ (call (Value.type "range") _) _ _ _); (k_dflt (refine range_N (by k_asm) (by k_asm) ?_); intro _ _ _ _ _ _ _ q09; (try k_lt q09); revert q09; intro _)) | ((with_reducible show wpAny _ _ (call (Value.builtin "min") _) _ _ _); (k_dflt (refine min_len (by rfl) (by k_asm) (by k_asm) (by assumption) ?_); intro _ _ _ _ _ _ _ _)) | ((with_reducible show wpAny _ _ (call (Value.builtin "len") _) _ _ _); (k_dflt (refine len_any (by k_asm) (by k_mem) (by assumption) ?_))) | ((with_reducible show wpAny _ _ (binaryOp _ (Value.ref _) (Value.ref _)) _ _ _); (k_dflt (refine add_strs (by k_asm) (by k_asm) (by k_mem) (by k_mem) (by kpa_ne) ?_); intro _ _ _ _ q09; (try k_lt q09); revert q09; intro _)) | ((with_reducible show wpAny _ _ (getAttr (Value.ref _) (Str.ofString "spot") _) _ _ _); k_dflt (refine spot_get (by k_asm) (by k_asm) (by k_asm) (by k_mem) (by k_mem) (by assumption) (by assumption) (by assumption) ?_)) | ((with_reducible show wpAny _ _ (compareOp CmpOp.Eq (Value.ref _) (Value.ref _)) _ _ _); (refine here_mark ?_)) | ((with_reducible show wpAny _ _ (pyIter (Value.ref _)) _ _ _); (refine here_mark ?_)) | ((with_reducible show wpAny _ _ (exec (Stmt.For _ _ _ _ _) _) _ _ _); (k_dflt (refine For_own (by k_asm) (by rfl) (by rfl) ?_))) | ((with_reducible show wpAny _ _ (subscriptTail _ _ (Value.ref _) (Value.int _ _)) _ _ _); k_dflt (refine item_tupleT (by exact News.isTup (by k_asm) (by k_mem)) (by decide) (by decide) (by rfl) (by rfl) ?_; k_whole)) | ((first | (with_reducible show wpAny _ _ (call (Value.ref 269) _) _ _ _) | (with_reducible show wpAny _ _ (call (Value.ref 550) _) _ _ _) | (with_reducible show wpAny _ _ (call (Value.ref 545) _) _ _ _) | (with_reducible show wpAny _ _ (call (Value.ref 524) _) _ _ _)); refine here_mark ?_) | walk1 | (dsimp only; walk1) | (leave1; walk_say "STEP leave1"; try dsimp only) | fail "no step"))
      rename Fr h3 L' _ _ => FZ
      rename News h3 L' _ _ => NZ
      rw [show (spot == spot) = true by simp]
      refine hQ ob' _ _ (fr_back (base := h₀) FG' U3 FZ fun b o q => FZ.keep b o (B3.stays b o q)) (fun p hp => ?_) (hb'.mono (by kpa_ne))
      rcases List.mem_cons.mp hp with rfl | hp
      · exact ⟨(NZ _ (.tail _ (.tail _ (.tail _ (.tail _ (.head _)))))).1, (N (b, ob) (.head _)).2⟩
      rcases List.mem_cons.mp hp with rfl | hp
      · exact ⟨(NZ _ (.tail _ (.tail _ (.tail _ (.tail _ (.tail _ (.tail _ (.tail _ (.tail _ (.head _)))))))))).1, (N (c, _) (.tail _ (.head _))).2⟩
      rcases List.mem_cons.mp hp with rfl | hp
      · exact ⟨(NZ _ (.tail _ (.tail _ (.tail _ (.tail _ (.tail _ (.tail _ (.tail _ (.tail _ (.tail _ (.head _))))))))))).1, (N (sl, _) (.tail _ (.tail _ (.head _)))).2⟩
      rcases List.mem_cons.mp hp with rfl | hp
      · exact ⟨(NZ _ (.tail _ (.tail _ (.tail _ (.head _))))).1, (N (ol, _) (.tail _ (.tail _ (.tail _ (.head _))))).2⟩
      · exact ⟨(NZ _ (.tail _ (.tail _ (.tail _ (sub9 p hp))))).1, (N p (.tail _ (.tail _ (.tail _ (.tail _ hp))))).2⟩
end
section
def lawWords : List Str := tenWords ++ [Str.ofString "after"]
theorem ten_after : ∀ x ∈ lawWords, (tenWords.any fun y => y == x) = (x != Str.ofString "after") := by decide +kernel
theorem app_size (a b : Str) : (a ++ b).cps.size = a.cps.size + b.cps.size := Array.size_append
theorem app_ne (a b w : Str) (h : 0 < b.cps.size) : (a ++ b ++ w == w) = false := by
  refine beq_eq_false_iff_ne.mpr fun e => ?_
  have := congrArg (fun s : Str => s.cps.size) e
  simp only [app_size] at this
  kpa_ne
theorem app_eq (a o b w : Str) : (a ++ b ++ w == Str.empty ++ o ++ b ++ w) = (o == a) := by
  have h : (a ++ b ++ w = Str.empty ++ o ++ b ++ w) ↔ o = a := by
    constructor
    · intro e
      have e := congrArg (fun s : Str => s.cps.toList) e
      change (a.cps ++ b.cps ++ w.cps).toList = (#[] ++ o.cps ++ b.cps ++ w.cps).toList at e
      simp only [Array.toList_append, List.append_cancel_right_eq, List.nil_append, Array.toList_empty] at e
      cases a; cases o
      exact congrArg Str.mk (Array.toList_inj.mp e.symm)
    · rintro rfl
      show Str.mk _ = Str.mk _
      congr 1
      show _ ++ _ ++ _ = #[] ++ _ ++ _ ++ _
      rw [Array.empty_append]
  by_cases e : o = a
  · rw [beq_iff_eq.mpr e, beq_iff_eq.mpr (h.mpr e)]
  · rw [beq_eq_false_iff_ne.mpr e, beq_eq_false_iff_ne.mpr fun x => e (h.mp x)]
theorem order_plain0 {os : List (Str × Str)} {word : Str} (hw : word ∈ lawWords) : orderIs os word word = meantOf os (Str.ofString "") word := by
  unfold orderIs meantOf
  have e : (fun o : Str × Str => word == word || word == Str.empty ++ o.1 ++ Str.ofString "/" ++ word) = fun o => Str.ofString "" == Str.ofString "" || o.1 == Str.ofString "" := by
    funext o; simp
  rw [e, ten_after word hw]
  dsimp only
  cases (pickSigs os fun o => Str.ofString "" == Str.ofString "" || o.1 == Str.ofString "").isEmpty <;> cases (word != Str.ofString "after") <;> rfl
theorem order_plain1 {os : List (Str × Str)} {alias word : Str} (hw : word ∈ lawWords) (ha : (alias == Str.ofString "") = false) : orderIs os (alias ++ Str.ofString "/" ++ word) word = meantOf os alias word := by
  unfold orderIs meantOf
  have e : (fun o : Str × Str => alias ++ Str.ofString "/" ++ word == word || alias ++ Str.ofString "/" ++ word == Str.empty ++ o.1 ++ Str.ofString "/" ++ word) = fun o => alias == Str.ofString "" || o.1 == alias := by
    funext o
    rw [app_ne _ _ _ (by decide +kernel), app_eq, ha]
  rw [e, ten_after word hw]
  dsimp only
  cases (pickSigs os fun o => alias == Str.ofString "" || o.1 == alias).isEmpty <;> cases (word != Str.ofString "after") <;> rfl
theorem split_word0 : ∀ w ∈ lawWords, Txt.split w (Str.ofString "/") = [] ++ [w] := by decide +kernel
theorem split_word1 : ∀ a ∈ lawAliases, (a == Str.ofString "") = false → ∀ w ∈ lawWords, Txt.split (a ++ Str.ofString "/" ++ w) (Str.ofString "/") = [a] ++ [w] := by decide +kernel
theorem word_len : ∀ w ∈ lawWords, w.length ≤ 20 := by decide +kernel
theorem alias_len : ∀ a ∈ lawAliases, a.length ≤ 20 := by decide +kernel
theorem text_len {a w : Str} (ha : a ∈ lawAliases) (hw : w ∈ lawWords) : (a ++ Str.ofString "/" ++ w).length ≤ 100 := by
  have h1 := word_len w hw
  have h2 := alias_len a ha
  have h3 : (Str.ofString "/").cps.size = 1 := by decide +kernel
  show (a ++ Str.ofString "/" ++ w).cps.size ≤ 100
  rw [app_size, app_size, h3]
  change a.cps.size ≤ 20 at h2
  change w.cps.size ≤ 20 at h1
  kpa_ne
theorem word_at {w : World} {A : Around} {E : Value → Shared → Prop} {s : Shared} {h₀ : Heap} {L : Addr} {m : Str → Option Value} {value slice : Expr} {r : Int} {u : Tok} {Q : Value → Shared → Prop} (F : Fr h₀ L s.heap m) (X : (K39 w.params).In h₀)
    (r0 : 0 ≤ r) (r1 : r < 11) (h : ∀ x t, x ∈ lawWords → Q (.str x t) s)
    (hs : ∀ k t, subscripted slice false (.ref 517) (.int k t) = operate [.ref 517, .int k t] (getItem (.ref 517) (.int k t))) :
    wpAny (model PySem.Challenge.rw_rr0095_01.row.prog w) A (subscriptTail value slice (.ref 517) (.int r u)) Q E s := by
  have z : r = 0 ∨ r = 1 ∨ r = 2 ∨ r = 3 ∨ r = 4 ∨ r = 5 ∨ r = 6 ∨ r = 7 ∨ r = 8 ∨ r = 9 ∨ r = 10 := by kpa_ne
  rcases z with rfl | rfl | rfl | rfl | rfl | rfl | rfl | rfl | rfl | rfl | rfl
  all_goals
    refine topTup_K F X (by k_is) (by decide) (by decide) rfl rfl ?_ (hs _ _)
    exact h _ _ (by decide)
section
variable {prog : Program} {w : World} {A : Around} {E : Value → Shared → Prop} {s : Shared} {h₀ : Heap} {L a b : Addr} {news n₁ n₂ : List (Addr × Obj)} {va vb : Value} {da db : Dat} {Q : Value → Shared → Prop}
open Classical in
theorem dat_ne (N : News h₀ L s.heap news) (Da : DatIn news va da) (Db : DatIn news vb db) (ha : kqdOk 8 da = true) (hb : kqdOk 8 db = true) (hu : A.units + 64 < cLine) (h : Q (.bool (!decide (da = db))) s) : wpAny (model prog w) A (compareOp .NotEq va vb) Q E s := by
  obtain ⟨as, ra⟩ := kqd_in N 8 Da ha
  obtain ⟨bs, rb⟩ := kqd_in N 8 Db hb
  have la := kqd_lay 8 da ha
  have lb := kqd_lay 8 db hb
  have e : PyData.eqv (kqdP da) (kqdP db) = decide (da = db) := by
    have q := kqd_eqv 8 da db 8 ha hb
    by_cases hq : da = db
    · rw [decide_eq_true hq]; exact q.mpr hq
    · rw [decide_eq_false hq]; exact Bool.eq_false_iff.mpr fun x => hq (q.mp x)
  refine ne_dataH ra rb ?_ ?_ hu (by rw [e]; exact h)
  · unfold SeqAt.shaped; rw [la.1, Bool.true_and]; exact decide_eq_true (Nat.le_trans la.2 (by decide))
  · unfold SeqAt.shaped; rw [lb.1, Bool.true_and]; exact decide_eq_true (Nat.le_trans lb.2 (by decide))
theorem dat_same (N : News h₀ L s.heap news) (Da : DatIn news va da) (Db : DatIn news vb da) (ha : kqdOk 8 da = true) (hu : A.units + 64 < cLine) (h : Q (.bool false) s) : wpAny (model prog w) A (compareOp .NotEq va vb) Q E s := by
  refine dat_ne N Da Db ha ha hu ?_
  have e : ∀ i : Decidable (da = da), (!@decide _ i) = false := fun i => by rw [decide_eq_true rfl]; rfl
  exact (e _).symm ▸ h
theorem dat_diff (N : News h₀ L s.heap news) (Da : DatIn news va da) (Db : DatIn news vb db) (ha : kqdOk 8 da = true) (hb : kqdOk 8 db = true) (hn : da ≠ db) (hu : A.units + 64 < cLine) (h : Q (.bool true) s) : wpAny (model prog w) A (compareOp .NotEq va vb) Q E s := by
  refine dat_ne N Da Db ha hb hu ?_
  have e : ∀ i : Decidable (da = db), (!@decide _ i) = true := fun i => by rw [decide_eq_false hn]; rfl
  exact (e _).symm ▸ h
end
def itemD (d : OpD) : Dat := .tuple [.str (Str.ofString "open"), .int d.spot, .str d.module, .tuple (d.args.map Dat.str), .str d.alias]
theorem itemD_in {news : List (Addr × Obj)} {v : Value} {d : OpD} (h : OpenV news v d) : DatIn news v (itemD d) := by
  obtain ⟨ai, aa, u1, u2, u3, u4, avs, rfl, a, b, c⟩ := h
  exact .tuple a (.cons (.str _ _) (.cons (.int _ _) (.cons (.str _ _) (.cons (.tuple b ((strs_dat c).mono fun p hp => absurd hp List.not_mem_nil)) (.cons (.str _ _) .nil)))))
theorem itemD_ok {d : OpD} (h : d.Ok) : kqdOk 7 (itemD d) = true := by
  obtain ⟨h1, h2, h3, h4⟩ := h
  have a1 := (one_alias h4).2.1
  have m1 : PyData.strOk d.module = true := by rcases h1 with e | e <;> rw [e] <;> decide +kernel
  have o1 : PyData.strOk (Str.ofString "open") = true := by decide +kernel
  have s1 : (d.args.map Dat.str).all (kqdOk 5) = true := by
    rw [List.all_eq_true]
    intro x hx
    obtain ⟨y, hy, rfl⟩ := List.mem_map.mp hx
    exact (one_sig (h2 y hy)).2
  simp only [itemD, kqdOk, List.all_cons, List.all_nil, o1, m1, a1, s1, Bool.and_self]
theorem opens_in {news : List (Addr × Obj)} : ∀ {dvs : List Value} {ds : List OpD}, All2 (OpenV news) dvs ds → DatAll news dvs (ds.map itemD)
  | [], [], _ => .nil
  | _ :: _, _ :: _, h => .cons (itemD_in h.1) (opens_in h.2)
theorem opens_ok {ds : List OpD} (h : ∀ d ∈ ds, d.Ok) : kqdOk 8 (.list (ds.map itemD)) = true := by
  simp only [kqdOk]
  rw [List.all_eq_true]
  intro x hx
  obtain ⟨y, hy, rfl⟩ := List.mem_map.mp hx
  exact itemD_ok (h y hy)
theorem pairs_in {n1 news : List (Addr × Obj)} {a : Addr} {xs : List Value} {k : Nat} {os : List (Str × Str)} (h : PairsAt n1 xs os) (s : ∀ p ∈ n1, p ∈ news) (m : (a, PySem.W.listOf xs.toArray k) ∈ news) : DatIn news (.ref a) (.list (os.map pairD)) := .list m (h.dat.mono s)
theorem pairs_ok {os : List (Str × Str)} (h : OsOk os) : kqdOk 8 (.list (os.map pairD)) = true := by
  simp only [kqdOk]
  rw [List.all_eq_true]
  intro d hd
  obtain ⟨o, ho, rfl⟩ := List.mem_map.mp hd
  obtain ⟨a, b, _, _⟩ := h o ho
  simp [pairD, kqdOk, a, b]
theorem found_in {news : List (Addr × Obj)} {p l : Addr} {ys : List Value} {found : List Str} {x : Str} {t : Tok} (hp : (p, tupO [.str x t, .ref l]) ∈ news) (hl : (l, LCg.lst ys) ∈ news) (h : StrsAre ys found) : DatIn news (.ref p) (.tuple [.str x, .list (found.map Dat.str)]) :=
  .tuple hp (.cons (.str _ _) (.cons (.list hl ((strs_dat h).mono fun p hp => absurd hp List.not_mem_nil)) .nil))
theorem found_ok {os : List (Str × Str)} {f : Str × Str → Bool} {x : Str} (h : OsOk os) (hx : PyData.strOk x = true) : kqdOk 8 (.tuple [.str x, .list ((pickSigs os f).map Dat.str)]) = true := by
  have s1 : ((pickSigs os f).map Dat.str).all (kqdOk 6) = true := by
    rw [List.all_eq_true]
    intro d hd
    obtain ⟨y, hy, rfl⟩ := List.mem_map.mp hd
    obtain ⟨o, ho, rfl⟩ := List.mem_map.mp hy
    exact (h o (List.mem_filter.mp ho).1).2.1
  simp only [kqdOk, List.all_cons, List.all_nil, hx, s1, Bool.and_self]
end
section
section
open LCg LCp
variable {prog : Program} {w : World} {A : Around} {E : Value → Shared → Prop} {s : Shared} {h₀ : Heap} {L : Addr} {m : Str → Option Value} {env : Env}
theorem block_av {D : Type} {R : Value → D → Prop} {RR : Value → Addr → Result → Shared → Prop} {iter ct : Expr} {x : Str} {px pe : Pos} {scope : Scope} {cl : List (Str × Addr)} {pos : Pos} {s₁ : Shared} {ax : Addr} {news : List (Addr × Obj)} {kx : Nat} {vs : List Value} {xs : List D} {f : D → Bool}
    (hcell : ∀ y ∈ scope.names, y.2 ≠ .cell) (hkind : scope.kind = .function)
    (hx : scope.names.lookup x = some .local) (hd₂ : (x == ("__debug__" : Str)) = false)
    (hh : A.handled = none) (F : Fr h₀ L s₁.heap m) (N : News h₀ L s₁.heap news) (hax : (ax, PySem.W.listOf vs.toArray kx) ∈ news) (ps : All2 R vs xs) (hlen : vs.length ≤ 1000)
    (test : ∀ o ∈ xs, ∀ v, R v o → ∀ oI oC I C D ys m₂ h tk (E' : Value → Shared → Prop), NsObj oC m₂ → m₂ x = some v → Fr h₀ L h m → News h₀ L h ((I, oI) :: (C, oC) :: (D, lst ys) :: news) →
      wpAny (model prog w) A (isTrue ct (compEnvC scope cl C env) (eval ct (compEnvC scope cl C env))) (fun ok s' => ok = f o ∧ ∃ tk', s' = { s₁ with heap := h, toks := tk' }) E' { s₁ with heap := h, toks := tk })
    (hRR : ∀ D C ys h tk m', All2 R ys (xs.filter f) → Fr h₀ L h m → News h₀ L h ((D, lst ys) :: news) → (∀ p ∈ news, p.1 < D) → @LT.lt Nat _ D C → h.Ns C m' → h₀.get? C = none → C ≠ L → RR (.ref D) C (.ok .next) { s₁ with heap := h, toks := tk }) :
    wpAny (model prog w) A (pyIter (.ref ax)) (fun it s₂ => wpAny (model prog w) A (newList []) (fun acc s₃ =>
      wpAny (model prog w) A (newFunctionEnv scope env.globals cl [] env.qual none .none (some env)) (fun cenv s₄ =>
        codeAny (model prog w) A (.compStart (.ListComp (.Name x pe) [⟨.Name x px, iter, [ct], 0⟩] scope pos) 0 it acc { cenv with scope := relabel scope env }) (RR acc cenv.locals) s₄) E s₃) E s₂) E s₁ := by
  have hl : s₁.heap.IsList ax vs.toArray := ⟨_, (N _ hax).1, rfl, _, rfl⟩
  have hlt : ax < s₁.heap.objs.size := Heap.lt_size (N _ hax).1
  refine wpAny_pyIter_list hl ?_
  generalize hI : s₁.heap.objs.size = I at *
  generalize hH1 : s₁.heap.push { cls := .type "list_iterator", data := .fields #[.ref ax, .int 0 0] } = H1
  have k1 : ∀ b o, s₁.heap.get? b = some o → H1.get? b = some o := fun b o e => hH1 ▸ Heap.get?_push_of_some _ e
  have z1 : H1.objs.size = I + 1 := by rw [← hH1, Heap.size_push, hI]
  have it1 : H1.IsListIter I ax 0 := ⟨_, hH1 ▸ hI ▸ Heap.get?_push_size _ rfl, rfl, rfl⟩
  refine wpAny_newObj_type (wpAny_newFunctionEnv hcell (by intro y hy; simp at hy) (fun h₁ hns₁ hsb₁ => ?_) hkind)
  dsimp only at hns₁ hsb₁ ⊢
  generalize hH2 : H1.push { cls := .type "list", dict := none, data := .seq ([] : List Value).toArray } = H2 at hns₁ hsb₁ ⊢
  rw [z1]
  have z2 : H2.objs.size = I + 2 := by rw [← hH2, Heap.size_push, z1]
  rw [z2] at hns₁ hsb₁ ⊢
  have k2 : ∀ b o, b < I + 2 → H1.get? b = some o → h₁.get? b = some o := fun b o hb e => hsb₁.extBut b o (Nat.ne_of_lt hb) (Heap.get?_push_of_some _ (hH2 ▸ Heap.get?_push_of_some _ e))
  have acc : h₁.get? (I + 1) = some (lst []) := hsb₁.extBut _ _ (Nat.ne_of_lt (Nat.lt_succ_self _)) (Heap.get?_push_of_some _ (hH2 ▸ z1 ▸ Heap.get?_push_size _ rfl))
  have low : ∀ b o, s₁.heap.get? b = some o → b < I := fun b o e => hI ▸ Heap.lt_size e
  have old : ∀ b o, s₁.heap.get? b = some o → h₁.get? b = some o := fun b o e => k2 b o (Nat.lt_of_lt_of_le (low b o e) (Nat.le_add_right _ 2)) (k1 b o e)
  have f0 : ∀ a, I ≤ a → h₀.get? a = none := fun a ha => by
    cases e : h₀.get? a with
    | none => rfl
    | some o => exact absurd (low a o (F.keep a o e)) (Nat.not_lt.mpr ha)
  have hL : L < I := hI ▸ F.ns.lt
  have apart : ∀ p ∈ news, p.1 < I := fun p hp => low _ _ (N p hp).1
  have haxI : @LT.lt Nat _ ax I := low _ _ (N _ hax).1
  have cL : I + 2 ≠ L := Nat.ne_of_gt (Nat.lt_of_lt_of_le hL (Nat.le_add_right _ 2))
  have W := Walks.list (prog := prog) (w := w) hh I ax (Nat.ne_of_lt hlt) vs.toArray
  have start : codeAny (model prog w) A (.compLoop (.ListComp (.Name x pe) [⟨.Name x px, iter, [ct], 0⟩] scope pos) 0 (.ref I) (.ref (I + 1)) (compEnvC scope cl (I + 2) env))
      (RR (.ref (I + 1)) (I + 2)) { s₁ with heap := h₁, toks := s₁.toks + ([] : List (Str × Value)).length } := by
    refine codeAny_compLoop_tests (fun j s' => ∃ h' t i ys m', s' = { s₁ with heap := h', toks := t } ∧ i ≤ vs.length ∧ j = vs.length + 1 - i ∧ All2 R ys ((xs.take i).filter f) ∧ (h'.IsListIter I ax i ∧ h'.IsList ax vs.toArray) ∧
        Fr h₀ L h' m ∧ h'.Ns (I + 2) m' ∧ News h₀ L h' ((I + 1, lst ys) :: news)) ?_ (vs.length + 1)
      ⟨h₁, _, 0, [], _, rfl, Nat.zero_le _, rfl, trivial, ⟨it1.at fun o e => k2 _ o (by kpa_ne) e, hl.at fun o e => old _ o e⟩, F.keeps old, hns₁, fun p hp => ?_⟩
    · rintro j s' ⟨h', t, i, ys, m', rfl, hi, rfl, hys, st, F', hn', N'⟩
      have hIL : L ≠ I := Nat.ne_of_lt hL
      have off1 : ∀ p ∈ (I + 1, lst ys) :: news, p.1 ≠ I := fun p hp => by
        rcases List.mem_cons.mp hp with rfl | hp
        · exact Nat.ne_of_gt (Nat.lt_succ_self _)
        · exact Nat.ne_of_lt (apart p hp)
      have off2 : ∀ p ∈ (I + 1, lst ys) :: news, p.1 ≠ I + 2 := fun p hp => by
        rcases List.mem_cons.mp hp with rfl | hp
        · exact Nat.ne_of_lt (Nat.lt_succ_self _)
        · exact Nat.ne_of_lt (Nat.lt_of_lt_of_le (apart p hp) (Nat.le_add_right _ 2))
      by_cases hlt' : i < vs.length
      · refine W.item i _ _ _ (by simpa using hlt') st fun v h₂ t₂ hv st₂ hk₂ => ?_
        have hv' : vs[i]? = some v := by simpa using hv
        obtain ⟨o, ho, hr⟩ := ps.get hv'
        have F₂ := fr_but F' hk₂ hIL (f0 I (Nat.le_refl _))
        have N₂ := news_but N' hk₂ off1
        have hn₂ := hn'.at' fun o e => hk₂ (I + 2) o (by simp) e
        refine wpAny_assign_Name (wpAny_storeName_local (lookup_relabel_local hx) hn₂ (fun h₃ hn₃ hs₃ => ?_) (by simp [compEnvC, relabel, hkind]))
        refine wpAny_tests_one ?_
        have old3 : ∀ b o, b ≠ I + 2 → h₂.get? b = some o → h₃.get? b = some o := fun b o hb e => hs₃.extBut b o hb e
        have c0 : h₀.get? (I + 2) = none := f0 _ (Nat.le_add_right _ 2)
        have F₃ : Fr h₀ L h₃ m := F₂.change hs₃ cL c0
        have st₃ : h₃.IsListIter I ax (i + 1) ∧ h₃.IsList ax vs.toArray := ⟨st₂.1.at fun o e => old3 _ o (by kpa_ne) e, st₂.2.at fun o e => old3 _ o (by kpa_ne) e⟩
        obtain ⟨oI, heI, _⟩ := id st₃.1
        obtain ⟨oC, heC, hoC⟩ := ns_obj hn₃
        have N₃ : News h₀ L h₃ ((I, oI) :: (I + 2, oC) :: (I + 1, lst ys) :: news) := fun q hq => by
          rcases List.mem_cons.mp hq with rfl | hq
          · exact ⟨heI, Ne.symm hIL, f0 I (Nat.le_refl _)⟩
          rcases List.mem_cons.mp hq with rfl | hq
          · exact ⟨heC, cL, c0⟩
          · exact ⟨old3 _ _ (off2 q hq) (N₂ q hq).1, (N₂ q hq).2⟩
        have ot : xs.take (i + 1) = xs.take i ++ [o] := by simp [List.take_add_one, ho]
        refine wpAny_mono (test o (List.mem_of_getElem? ho) v hr oI oC I (I + 2) (I + 1) ys _ h₃ _ _ hoC (by simp) F₃ N₃) (fun ok s₄ h₄ => ?_) fun _ _ e => e
        obtain ⟨rfl, t₄, rfl⟩ := h₄
        cases hf : f o with
        | false =>
          simp only [Bool.false_eq_true, if_false]
          refine ⟨vs.length + 1 - (i + 1), by kpa_ne, h₃, _, i + 1, ys, _, rfl, hlt', rfl, ?_, st₃, F₃, hn₃, fun q hq => N₃ q (.tail _ (.tail _ hq))⟩
          rw [ot, List.filter_append, List.filter_cons_of_neg (by simp [hf]), List.filter_nil, List.append_nil]; exact hys
        | true =>
          simp only [if_true]
          refine LCgL.ld_own (m₂ := _) (oC := oC) N₃ (.tail _ (.head _)) hoC (if_pos rfl) ?_ hkind (lookup_relabel_local hx) hd₂
          refine append_at (hsz := by show ys.toArray.size ≤ sizeLine; rw [List.size_toArray, hys.length, sizeLine_eq]; have := List.length_filter_le f (xs.take i); have := List.length_take_le i xs; kpa_ne) (N₃ _ (.tail _ (.tail _ (.head _)))).1 fun h₅ hs₅ hD₅ => ?_
          have d0 : h₀.get? (I + 1) = none := f0 _ (Nat.le_succ _)
          have dL : I + 1 ≠ L := Nat.ne_of_gt (Nat.lt_succ_of_lt hL)
          refine ⟨vs.length + 1 - (i + 1), by kpa_ne, h₅, _, i + 1, ys ++ [v], _, rfl, hlt', rfl, ?_, ⟨st₃.1.at fun o e => hs₅.extBut I o (Nat.ne_of_lt (Nat.lt_succ_self I)) e, st₃.2.at fun o e => hs₅.extBut ax o (Nat.ne_of_lt (Nat.lt_succ_of_lt haxI)) e⟩, F₃.change hs₅ dL d0, hn₃.sameBut hs₅ (Nat.succ_ne_self (I + 1)), fun q hq => ?_⟩
          · rw [ot, List.filter_append, List.filter_cons_of_pos (by simp [hf]), List.filter_nil]
            exact hys.snoc hr
          · rcases List.mem_cons.mp hq with rfl | hq
            · exact ⟨hD₅.trans (congrArg some (lst_snoc ys _)), dL, d0⟩
            · exact ⟨hs₅.extBut _ _ (Nat.ne_of_lt (Nat.lt_succ_of_lt (apart q hq))) (N₃ q (.tail _ (.tail _ (.tail _ hq)))).1, (N q hq).2⟩
      · obtain rfl : i = vs.length := Nat.le_antisymm hi (Nat.not_lt.mp hlt')
        refine W.done _ _ _ (by simpa using st) fun h₂ t₂ hk₂ => ?_
        have F₂ := fr_but F' hk₂ hIL (f0 I (Nat.le_refl _))
        have N₂ := news_but N' hk₂ off1
        have hn₂ := hn'.at' fun o e => hk₂ (I + 2) o (by simp) e
        refine hRR (I + 1) (I + 2) ys h₂ _ m' ?_ F₂ N₂ (fun q hq => Nat.lt_succ_of_lt (apart q hq)) (Nat.lt_succ_self _) hn₂ (f0 _ (Nat.le_add_right _ 2)) cL
        rw [ps.length, List.take_length] at hys
        exact hys
    · rcases List.mem_cons.mp hp with rfl | hp
      · exact ⟨acc, Nat.ne_of_gt (Nat.lt_succ_of_lt hL), f0 _ (Nat.le_succ _)⟩
      · exact ⟨old _ _ (N p hp).1, (N p hp).2⟩
  exact codeAny_compStart_list start (W.self 0 _ _ _ ⟨it1.at fun o e => k2 _ o (by kpa_ne) e, hl.at fun o e => old _ o e⟩ start)
def SrcAV {D : Type} (R : Value → D → Prop) (prog : Program) (w : World) (A : Around) (h₀ : Heap) (L : Addr) (m : Str → Option Value) (env : Env) (ct : Expr) (x : Str) (scope : Scope) (cl : List (Str × Addr)) (Q : Value → Shared → Prop) (xv : Value) (s₁ : Shared) : Prop :=
  ∃ (ax : Addr) (kx : Nat) (news : List (Addr × Obj)) (vs : List Value) (xs : List D) (f : D → Bool), xv = .ref ax ∧ A.handled = none ∧ Fr h₀ L s₁.heap m ∧ News h₀ L s₁.heap news ∧ (ax, PySem.W.listOf vs.toArray kx) ∈ news ∧ All2 R vs xs ∧ vs.length ≤ 1000 ∧
    (∀ o ∈ xs, ∀ v, R v o → ∀ oI oC I C D ys m₂ h tk (E' : Value → Shared → Prop), NsObj oC m₂ → m₂ x = some v → Fr h₀ L h m → News h₀ L h ((I, oI) :: (C, oC) :: (D, lst ys) :: news) →
      wpAny (model prog w) A (isTrue ct (compEnvC scope cl C env) (eval ct (compEnvC scope cl C env))) (fun ok s' => ok = f o ∧ ∃ tk', s' = { s₁ with heap := h, toks := tk' }) E' { s₁ with heap := h, toks := tk }) ∧
    (∀ D ys h tk, All2 R ys (xs.filter f) → Fr h₀ L h m → News h₀ L h ((D, lst ys) :: news) → (∀ p ∈ news, p.1 < D) → Q (.ref D) { s₁ with heap := h, toks := tk })
theorem comp_av {D : Type} {R : Value → D → Prop} {iter ct : Expr} {x : Str} {px pe : Pos} {scope : Scope} {cl : List (Str × Addr)} {pos : Pos} {Q : Value → Shared → Prop} (_F₀ : Fr h₀ L s.heap m)
    (hclos : closureFor scope env = pure cl) (hcell : ∀ y ∈ scope.names, y.2 ≠ .cell) (hkind : scope.kind = .function)
    (hnames : ∀ y ∈ scope.names, y.2 = .local → scope.names.lookup y.1 = some .local) (hx : scope.names.lookup x = some .local) (hd₂ : (x == ("__debug__" : Str)) = false)
    (h : wpAny (model prog w) A (eval iter env) (SrcAV R prog w A h₀ L m env ct x scope cl Q) E s)
    (hs : ∀ x, foldedSetIterable iter env x = pure x := by intro _; rfl) :
    wpAny (model prog w) A (eval (.ListComp (.Name x pe) [⟨.Name x px, iter, [ct], 0⟩] scope pos) env) Q E s := by
  rw [eval_ListComp]
  refine wpAny_comprehension_free (use := none) rfl hs hclos hkind hnames (wpAny_mono h (fun xv s₁ h₁ => ?_) fun _ _ e => e)
  obtain ⟨ax, kx, news, vs, xs, f, rfl, hh, F, N, hax, ps, hlen, test, fin⟩ := h₁
  exact block_av hcell hkind hx hd₂ hh F N hax ps hlen test fun D C ys h tk m' hys F' N' lt dc hn c0 cL => by
    refine ⟨m', hn, fun h'' hs'' => fin D ys h'' tk hys (F'.change hs'' cL c0) (fun q hq => ⟨hs''.extBut _ _ ?_ (N' q hq).1, (N' q hq).2⟩) lt⟩
    rcases List.mem_cons.mp hq with rfl | hq
    · exact Nat.ne_of_lt dc
    · exact Nat.ne_of_lt (Nat.lt_trans (lt q hq) dc)
end
end
end
section
theorem word_ok : ∀ x ∈ lawWords, PyData.strOk x = true := by decide +kernel
theorem meant_ok {os : List (Str × Str)} {alias word : Str} {found : List Str} (h : OsOk os) (hw : word ∈ lawWords) (e : meantOf os alias word = some found) : kqdOk 8 (.tuple [.str word, .list (found.map Dat.str)]) = true := by
  unfold meantOf at e
  dsimp only at e
  split at e
  · cases e
    exact found_ok h (word_ok word hw)
  · cases e
theorem news_pull {h₀ h : Heap} {L a : Addr} {o : Obj} {news : List (Addr × Obj)} (N : News h₀ L h news) (hm : (a, o) ∈ news) : News h₀ L h ((a, o) :: news) := fun p hp => by
  rcases List.mem_cons.mp hp with rfl | hp
  · exact N _ hm
  · exact N _ hp
theorem bl5 {i : Nat} (h : i < 9) : 0 < 100 + 10 * (i : Int) := by omega
theorem bl6 {i : Nat} (h : i < 9) : 100 + 10 * (i : Int) < 1000 := by omega
theorem bl7 {k : Nat} (h : (k : Int) < 9) : 3 + 9 * (k + 1) < 800 := by omega
theorem bl8 {k : Nat} (h : (k : Int) < 9) : 3 + 9 * (k + 1) + 10 < 800 := by omega
theorem le_lt {a b : Nat} (h : a < b := by assumption) : a ≤ b := Nat.le_of_lt h
theorem bl1 {i a N : Nat} (h : i < 9 := by assumption) (e : 76 + a ≤ N := by decide) : 3 + 9 * i + a < N := by omega
theorem bl0 {i N : Nat} (h : i < 9 := by assumption) (e : 76 ≤ N := by decide) : 3 + 9 * i < N := by omega
theorem bl2 {i a b N : Nat} (h : i < 9 := by assumption) (e : 76 + a + b ≤ N := by decide) : 3 + 9 * i + a + b < N := by omega
theorem lp1 {n a b : Nat} (e : a ≤ b := by decide) : n + a ≤ n + b := by omega
theorem lp2 {n a b c : Nat} (e : a + b ≤ c := by decide) : n + a + b ≤ n + c := by omega
theorem lp3 {n a b c d : Nat} (e : a + b + c ≤ d := by decide) : n + a + b + c ≤ n + d := by omega
theorem bl9 {i : Nat} : 3 + 9 * i + 6 + 1 + 1 ≤ 3 + 9 * (i + 1) := by omega
local macro_rules | `(tactic| kpa_ne) => `(tactic| with_reducible first | exact le_lt | exact bl0 | exact bl1 | exact bl2 | exact lp1 | exact lp2 | exact lp3 | exact bl9)
theorem top.tw16900427199656544559 : True := trivial
theorem top.tw18164388396756303480 : True := trivial
theorem top.tw7079599612431449588 : True := trivial
theorem top.tw1139600151236580504 : True := trivial
theorem top.tw8025738503920905074 : True := trivial
theorem top.tw5240762971458559404 : True := trivial
theorem top.tw18085771088847121727 : True := trivial
theorem top.tw18186074749648716422 : True := trivial
theorem top.tw705360758644809490 : True := trivial
theorem top.tw8107780213005350392 : True := trivial
theorem top.tw8657480035899644758 : True := trivial
theorem top.tw6240723676877644813 : True := trivial
theorem top.tw9272544492142499777 : True := trivial
theorem top.tw8693662901424576113 : True := trivial
theorem top.tw10079171474624433434 : True := trivial
theorem top.tw2619622883677149074 : True := trivial
theorem top.tw4134505453457115739 : True := trivial
theorem top.tw4773702212245658779 : True := trivial
theorem top.tw7033079012710635876 : True := trivial
theorem top.tw3479634599624807885 : True := trivial
theorem top.tw10005945817407372193 : True := trivial
theorem top.tw10915162052029792233 : True := trivial
theorem top.tw427420600052151026 : True := trivial
theorem top.tw5868845118606482295 : True := trivial
theorem top.tw7444641836354208208 : True := trivial
theorem top.tw13177472732611162249 : True := trivial
theorem top.tw6859976401760118174 : True := trivial
theorem top.tw14402358008270493973 : True := trivial
theorem top.tw14371913498598963198 : True := trivial
theorem top.tw4186445540838780016 : True := trivial
theorem top.tw15286249088069653756 : True := trivial
theorem top.tw10579768621468169598 : True := trivial
theorem top.tw9673933992889287130 : True := trivial
theorem top.tw3453223234828964814 : True := trivial
theorem top.tw12415523145999629524 : True := trivial
theorem top.tw672699306608606093 : True := trivial
theorem top.tw15874363893724204672 : True := trivial
theorem top.tw15177526630643400193 : True := trivial
theorem top.tw14823308797102314842 : True := trivial
theorem top.tw11457754044182789617 : True := trivial
theorem top.tw17050326753033342646 : True := trivial
theorem top.tw15095372191486117680 : True := trivial
theorem top.tw2822501910515967889 : True := trivial
theorem top.tw4058662728301269685 : True := trivial
theorem top.tw10871174231137468428 : True := trivial
theorem top.tw17355269125676882429 : True := trivial
theorem top.tw2029088862249889922 : True := trivial
theorem top.tw2220570432770164149 : True := trivial
theorem top.tw7671549972530922468 : True := trivial
theorem top.tw15569959144833144457 : True := trivial
theorem top.tw1284575025550258836 : True := trivial
theorem top.tw14168018189251442112 : True := trivial
theorem top.tw16982378080980825192 : True := trivial
theorem top.tw5766051744304087583 : True := trivial
theorem top.tw9305691244287143441 : True := trivial
theorem top.tw14372152842798730730 : True := trivial
theorem top.tw1516213087968936877 : True := trivial
theorem top.tw8148004212497801138 : True := trivial
theorem top.tw13369591340354186047 : True := trivial
theorem top.tw2377541652452675900 : True := trivial
theorem top.tw14042817526060737062 : True := trivial
theorem top.tw8393700709775954928 : True := trivial
theorem top.tw8874702517807110003 : True := trivial
theorem top.tw9590735534726013551 : True := trivial
theorem top.tw17741875731164886585 : True := trivial
theorem top.tw8892184565913893157 : True := trivial
theorem top.tw18326957874037197240 : True := trivial
theorem top.tw987869383939708018 : True := trivial
theorem top.tw17176029603704830031 : True := trivial
theorem top.tw6694047246710070196 : True := trivial
theorem top.tw2544169868661182894 : True := trivial
theorem top.tw17620759639134147866 : True := trivial
theorem top.tw3254097082911018636 : True := trivial
theorem top.tw7436774141650363327 : True := trivial
theorem top.tw8640399195822439974 : True := trivial
theorem top.tw5118827330378232414 : True := trivial
theorem top.tw13191473780850816973 : True := trivial
theorem top.tw7094684250757091784 : True := trivial
theorem top.tw12094960947251128927 : True := trivial
theorem top.tw6124053682588569230 : True := trivial
theorem top.tw14263998999751124003 : True := trivial
theorem top.tw7990429038631628895 : True := trivial
theorem top.tw13501252493785611398 : True := trivial
theorem top.tw339143206060000330 : True := trivial
theorem top.tw4331257952254489624 : True := trivial
theorem top.tw15383718091736126541 : True := trivial
theorem top.tw7681529838311687354 : True := trivial
theorem top.tw13890846271309207196 : True := trivial
theorem top.tw6756868429301003459 : True := trivial
theorem top.tw6662652255960138227 : True := trivial
theorem top.tw12317137736924338119 : True := trivial
theorem top.tw5667650583090716360 : True := trivial
theorem top.tw12559286593441436923 : True := trivial
theorem top.tw18200808041648558556 : True := trivial
theorem top.tw2502181453436431679 : True := trivial
theorem top.tw17470836177267949868 : True := trivial
theorem top.tw15245507539482535896 : True := trivial
theorem top.tw16054190913257422852 : True := trivial
theorem top.tw17046948494117081484 : True := trivial
theorem top.tw11546936639936008217 : True := trivial
theorem top.tw17219337458794519322 : True := trivial
theorem top.tw14901070454687303710 : True := trivial
theorem top.tw5176459694589498394 : True := trivial
theorem top.tw15877122091014420850 : True := trivial
theorem top.tw17788931634197215145 : True := trivial
theorem top.tw5692499903750754813 : True := trivial
theorem top.tw4655869559712951663 : True := trivial
theorem top.tw13799840507378627052 : True := trivial
theorem top.tw17492772389151264855 : True := trivial
theorem top.tw3768957769849046624 : True := trivial
theorem top.tw2617719716777270872 : True := trivial
theorem top.tw2972514686349903234 : True := trivial
theorem top.tw83393220934416808 : True := trivial
theorem top.tw10362775142378211054 : True := trivial
theorem top.tw3002795768020413707 : True := trivial
theorem top.tw14724332232928298890 : True := trivial
theorem top.tw7657828476027519975 : True := trivial
theorem top.tw13896958669275611876 : True := trivial
theorem top.tw13549259019975226677 : True := trivial
theorem top.tw4498253355057717688 : True := trivial
theorem top.tw16541100652227675460 : True := trivial
theorem top.tw4940147422707163885 : True := trivial
theorem top.tw13091174067606910046 : True := trivial
theorem top.tw15299570729808767540 : True := trivial
theorem top.tw8128397726703822571 : True := trivial
theorem top.tw10797620697341660853 : True := trivial
theorem top.tw6749217079512962374 : True := trivial
theorem top.tw6572447435987645144 : True := trivial
theorem top.tw14399976873020721970 : True := trivial
theorem top.tw12012865196380796599 : True := trivial
theorem top.tw15361541807878343388 : True := trivial
theorem top.tw11577829705659331004 : True := trivial
theorem top.tw10574840078274726829 : True := trivial
theorem top.tw16713831800681072344 : True := trivial
theorem top.tw7743179893348639699 : True := trivial
theorem top.tw14747140909534839006 : True := trivial
theorem top.tw4828031223510198475 : True := trivial
theorem top.tw16795567611416646642 : True := trivial
theorem top.tw2685012915969955173 : True := trivial
theorem top.tw16734371015571099844 : True := trivial
theorem top.tw15878805988109762761 : True := trivial
theorem top.tw5983031951866500094 : True := trivial
theorem top.tw3712731000106771831 : True := trivial
theorem top.tw10467260515200827399 : True := trivial
theorem top.tw8327351992414209593 : True := trivial
theorem top.tw47109162367338493 : True := trivial
theorem top.tw4546854472639559758 : True := trivial
theorem top.tw11141966352661209427 : True := trivial
theorem top.tw5702910450625016506 : True := trivial
theorem top.tw5058314954733539658 : True := trivial
theorem top.tw13500427573557490136 : True := trivial
theorem top.tw84136930442132756 : True := trivial
theorem top.tw6893477703608230032 : True := trivial
theorem top.tw1803303928475200142 : True := trivial
theorem top.tw661290744650703789 : True := trivial
theorem top.tw4010397242664982755 : True := trivial
theorem top.tw1112988674713690477 : True := trivial
theorem top.tw9919435345466941130 : True := trivial
theorem top.tw8973803690348224638 : True := trivial
theorem top.tw14537839394382259888 : True := trivial
theorem top.tw10263365928396114309 : True := trivial
theorem top.tw6935040760599045222 : True := trivial
theorem top.tw8443935842833279946 : True := trivial
theorem top.tw8204474986945543665 : True := trivial
theorem top.tw12904532413392791838 : True := trivial
theorem top.tw13272337422414781067 : True := trivial
theorem top.tw1471633030738003533 : True := trivial
theorem top.tw9990226795618131978 : True := trivial
theorem top.tw3357215229441099570 : True := trivial
theorem top.tw13223034962123697568 : True := trivial
theorem top.tw8813761850579938390 : True := trivial
theorem top.tw8999917154711486175 : True := trivial
theorem top.tw16453443671601555132 : True := trivial
theorem top.tw9961057766049560675 : True := trivial
theorem top.tw10414433010598505635 : True := trivial
theorem top.tw10987319290404115282 : True := trivial
theorem top.tw16719718919923625709 : True := trivial
theorem top.tw13370750898655102155 : True := trivial
theorem top.tw16264823338695392855 : True := trivial
theorem top.tw10001883323181062329 : True := trivial
theorem top.tw13899568491130100285 : True := trivial
theorem top.tw681777741448182936 : True := trivial
theorem top.tw11133666699803404755 : True := trivial
theorem top.tw10296497611174029103 : True := trivial
theorem top.tw14450715343900746980 : True := trivial
theorem top.tw5105846836358774362 : True := trivial
theorem top.tw2103985501979894447 : True := trivial
theorem top.tw2617181576586992344 : True := trivial
theorem top.tw1186331607622873149 : True := trivial
theorem top.tw10956490626425055710 : True := trivial
theorem top.tw12622177474791663080 : True := trivial
theorem top.tw16878204669230926818 : True := trivial
theorem top.tw13968125046926948103 : True := trivial
theorem top.tw13420762306968818387 : True := trivial
theorem top.tw104434173382791472 : True := trivial
theorem top.tw12379415707883124570 : True := trivial
theorem top.tw7059692629156357883 : True := trivial
theorem top.tw15508944514630427714 : True := trivial
theorem top.tw5088376156974544275 : True := trivial
theorem top.tw4916261283513009128 : True := trivial
theorem top.tw2514443458684651071 : True := trivial
theorem top.tw8823455108540655025 : True := trivial
theorem top.tw6761616313442571491 : True := trivial
theorem top.tw13994475860397038760 : True := trivial
theorem top.tw5225916559131626549 : True := trivial
theorem top.tw8679839319945467846 : True := trivial
theorem top.tw9152664641465651067 : True := trivial
theorem top.tw12209182163369298222 : True := trivial
theorem top.tw2770239361232196585 : True := trivial
theorem top.tw5568844076600610506 : True := trivial
theorem top.tw4699463449715708850 : True := trivial
theorem top.tw10017263926548143515 : True := trivial
theorem top.tw10195997230039290492 : True := trivial
theorem top.tw4695670854781333657 : True := trivial
theorem top.tw16885616592811714743 : True := trivial
theorem top.tw12425085872883035938 : True := trivial
theorem top.tw7213333562754528385 : True := trivial
theorem top.tw3796891538752321733 : True := trivial
theorem top.tw1209819496270969543 : True := trivial
theorem top.tw18064794426631996164 : True := trivial
theorem top.tw16550210197400561554 : True := trivial
theorem top.tw2926424126403749041 : True := trivial
theorem top.tw9229161468869434483 : True := trivial
theorem top.tw6430265229019958763 : True := trivial
theorem top.tw2506305409684761478 : True := trivial
theorem top.tw15271675978053873483 : True := trivial
theorem top.tw14172255247688628563 : True := trivial
theorem top.tw2665807947273092163 : True := trivial
theorem top.tw2847958352784047137 : True := trivial
theorem top.tw9666326922614434849 : True := trivial
theorem top.tw8912170899635468890 : True := trivial
theorem top.tw8043003576528973991 : True := trivial
theorem top.tw2988451766255067171 : True := trivial
theorem top.tw1601500998369573665 : True := trivial
theorem top.tw7429413206186439793 : True := trivial
theorem top.tw15740088241188596515 : True := trivial
theorem top.tw1697544655201012999 : True := trivial
theorem top.tw2835187731363253809 : True := trivial
theorem top.tw6906291655842520137 : True := trivial
theorem top.tw11982747722937265360 : True := trivial
theorem top.tw8140125068956082859 : True := trivial
theorem top.tw9233715247699887402 : True := trivial
theorem top.tw7600245330811189008 : True := trivial
theorem top.tw649594095290182367 : True := trivial
theorem top.tw114735475811551136 : True := trivial
theorem top.tw1655259298481077034 : True := trivial
theorem top.tw17177869089781658578 : True := trivial
theorem top.tw16415559393655328363 : True := trivial
theorem top.tw1886144042066472794 : True := trivial
theorem top.tw14771320824794740959 : True := trivial
theorem top.tw6187478851450931391 : True := trivial
theorem top.tw17565814175750979855 : True := trivial
theorem top.tw9951221954081769418 : True := trivial
theorem top.tw1275901062530889299 : True := trivial
theorem top.tw17576949682797635024 : True := trivial
theorem top.tw2741389259953327712 : True := trivial
theorem top.tw14861896470697024400 : True := trivial
theorem top.tw2722852734226103192 : True := trivial
theorem top.tw1833847959688406909 : True := trivial
theorem top.tw1483126911874232274 : True := trivial
theorem top.tw4859757453598101857 : True := trivial
theorem top.tw4047667213573674445 : True := trivial
theorem top.tw10694878333477680388 : True := trivial
theorem top.tw7160873610591055699 : True := trivial
theorem top.tw8598144960395782539 : True := trivial
theorem top.tw13012589842206080548 : True := trivial
theorem top.tw2812155379371279736 : True := trivial
theorem top.tw8735323631387419056 : True := trivial
theorem top.tw9503340733035011235 : True := trivial
theorem top.tw5245862010334584759 : True := trivial
theorem top.tw2464713573024523455 : True := trivial
theorem top.tw17342085116792181814 : True := trivial
theorem top.tw352232786441526191 : True := trivial
theorem top.tw2405475915293451298 : True := trivial
theorem top.tw8321918168302905379 : True := trivial
theorem top.tw668136137496459709 : True := trivial
theorem top.tw8265191368974092141 : True := trivial
theorem top.tw9843447840031818808 : True := trivial
theorem top.tw8265311939077410998 : True := trivial
theorem top.tw13167462122316868159 : True := trivial
theorem top.tw14983691940233647259 : True := trivial
theorem top.tw7458633546980236471 : True := trivial
theorem top.tw11423202765487971197 : True := trivial
theorem top.tw2369445192022557226 : True := trivial
theorem top.tw1195175773429642966 : True := trivial
theorem top.tw10562855833978642645 : True := trivial
theorem top.tw2683898200743741643 : True := trivial
theorem top.tw12638030207367898728 : True := trivial
theorem top.tw7587601194962177611 : True := trivial
theorem top.tw13385244156195431271 : True := trivial
theorem top.tw5278709424875269971 : True := trivial
theorem top.tw13134186033006778460 : True := trivial
theorem top.tw1843344800811705456 : True := trivial
theorem top.tw3207569582813703071 : True := trivial
theorem top.tw10567129059001840431 : True := trivial
theorem top.tw14826035006057030972 : True := trivial
theorem top.tw17469865338272021226 : True := trivial
theorem top.tw18185382058313985135 : True := trivial
theorem top.tw3739144386018749749 : True := trivial
theorem top.tw2267912224990424062 : True := trivial
theorem top.tw5860347150701562758 : True := trivial
theorem top.tw13710211086531791108 : True := trivial
theorem top.tw1294077662247117797 : True := trivial
theorem top.tw2446451932059125521 : True := trivial
theorem top.tw887695700811335699 : True := trivial
theorem top.tw8689318265317240412 : True := trivial
theorem top.tw1869187583165140508 : True := trivial
theorem top.tw9059832203979395877 : True := trivial
theorem top.tw620129878449983639 : True := trivial
theorem top.tw5581607755468803823 : True := trivial
theorem top.tw10361075674979980167 : True := trivial
theorem top.tw4205137553216949640 : True := trivial
theorem top.tw12535971307161669396 : True := trivial
theorem top.tw11593399256984752444 : True := trivial
theorem top.tw7250933059871147345 : True := trivial
theorem top.tw16044302676114139255 : True := trivial
theorem top.tw14526540143163920134 : True := trivial
theorem top.tw6583040956863952856 : True := trivial
theorem top.tw16439428074185983240 : True := trivial
theorem top.tw9614876229902214918 : True := trivial
theorem top.tw13983857475226248213 : True := trivial
theorem top.tw12287887523310495049 : True := trivial
theorem top.tw146815374380898660 : True := trivial
theorem top.tw3767615275625035234 : True := trivial
theorem top.tw3474246075231452896 : True := trivial
theorem top.tw18237780215024852062 : True := trivial
theorem top.tw2312856594315299383 : True := trivial
theorem top.tw6973401727384321114 : True := trivial
theorem top.tw13822267516522204269 : True := trivial
theorem top.tw2126296398998916975 : True := trivial
theorem top.tw7847352863974893604 : True := trivial
theorem top.tw8139039716903228087 : True := trivial
theorem top.tw5889316905344633881 : True := trivial
theorem top.tw17258374554226048223 : True := trivial
theorem top.tw3378803678994701225 : True := trivial
theorem top.tw13975414291046593716 : True := trivial
theorem top.tw3548060758652744671 : True := trivial
theorem top.tw13068111086705522682 : True := trivial
theorem top.tw3664424711883983056 : True := trivial
theorem top.tw16123964013534891561 : True := trivial
theorem top.tw11520865232209809239 : True := trivial
theorem top.tw16273406610938067001 : True := trivial
theorem top.tw15058813355848621054 : True := trivial
theorem top.tw5196900775432865589 : True := trivial
theorem top.tw13370185576492129568 : True := trivial
theorem top.tw81815255157605957 : True := trivial
theorem top.tw12166907935582030026 : True := trivial
theorem top.tw1181968645903325829 : True := trivial
theorem top.tw12376051458212225564 : True := trivial
theorem top.tw14502225709538309166 : True := trivial
theorem top.tw9843949296442739443 : True := trivial
theorem top.tw17981982808018919739 : True := trivial
theorem top.tw15525995667512963556 : True := trivial
theorem top.tw11383000496634168614 : True := trivial
theorem top.tw13303987763403120937 : True := trivial
theorem top.tw4840481374290595910 : True := trivial
theorem top.tw9739860059890490050 : True := trivial
theorem top.tw13985988839938425345 : True := trivial
theorem top.tw8472579005086612782 : True := trivial
theorem top.tw13307591127769906961 : True := trivial
theorem top.tw8054331753737935190 : True := trivial
theorem top.tw3855276242980373810 : True := trivial
theorem top.tw17089494485692210459 : True := trivial
theorem top.tw411662067469150650 : True := trivial
theorem top.tw5839659824258004927 : True := trivial
theorem top.tw9149571693438533347 : True := trivial
theorem top.tw12783364522390391256 : True := trivial
theorem top.tw6505410396798821541 : True := trivial
theorem top.tw17315540178315561739 : True := trivial
theorem top.tw7673058066778466091 : True := trivial
theorem top.tw1068965626710143233 : True := trivial
theorem top.tw9233335307524088747 : True := trivial
theorem top.tw13160728816969591200 : True := trivial
theorem top.tw626854936526192744 : True := trivial
theorem top.tw13889309363888878346 : True := trivial
theorem top.tw12545222027267286695 : True := trivial
theorem top.tw5244899138074338376 : True := trivial
theorem top.tw2809488002615124206 : True := trivial
theorem top.tw12105128591322288922 : True := trivial
theorem top.tw9108098604805947806 : True := trivial
theorem top.tw10648311167861321448 : True := trivial
theorem top.tw14597223018079223185 : True := trivial
theorem top.tw16896751376397280635 : True := trivial
theorem top.tw381845443943030031 : True := trivial
theorem top.tw15646934709686841381 : True := trivial
theorem top.tw860223938195835975 : True := trivial
theorem top.tw15073315481182737699 : True := trivial
theorem top.tw18374746225686918389 : True := trivial
theorem top.tw9016798869158615873 : True := trivial
theorem top.tw6664487174759623829 : True := trivial
theorem top.tw6487610083215253720 : True := trivial
theorem top.tw11960245374511038805 : True := trivial
theorem top.tw5728218623943512802 : True := trivial
theorem top.tw6333448901615975916 : True := trivial
theorem top.tw9759319705405543751 : True := trivial
theorem top.tw6898770573198911631 : True := trivial
theorem top.tw11279390925490393535 : True := trivial
theorem top.tw14317375437502057738 : True := trivial
theorem top.tw14459580976405569124 : True := trivial
theorem top.tw4791253341166991637 : True := trivial
theorem top.tw7386116660499605909 : True := trivial
theorem top.tw2568384757666718300 : True := trivial
theorem top.tw13345470168829271861 : True := trivial
theorem top.tw814325599930780420 : True := trivial
theorem top.tw11240886729373846589 : True := trivial
theorem top.tw11072019736110318841 : True := trivial
theorem top.tw6674990990233134667 : True := trivial
theorem top.tw16866024460163772082 : True := trivial
theorem top.tw16325430554902658873 : True := trivial
theorem top.tw9166809390415177425 : True := trivial
theorem top.tw1676862907878916244 : True := trivial
theorem top.tw1297684725254868899 : True := trivial
theorem top.tw10783980745131425670 : True := trivial
theorem top.tw2968346561183084112 : True := trivial
theorem top.tw6176384092110617959 : True := trivial
theorem top.tw76412952228603488 : True := trivial
theorem top.tw7273676953221729872 : True := trivial
theorem top.tw8645369167282567922 : True := trivial
theorem top.tw6381231289166406305 : True := trivial
theorem top.tw17486766287000646611 : True := trivial
theorem top.tw6520327441239513222 : True := trivial
theorem top.tw11613256710310857696 : True := trivial
theorem top.tw4250876409542091131 : True := trivial
theorem top.tw9059672392935016618 : True := trivial
theorem top.tw8729362747519067210 : True := trivial
theorem top.tw196536941598035525 : True := trivial
theorem top.tw6786057226368545225 : True := trivial
theorem top.tw17474498911051797155 : True := trivial
theorem top.tw3217022616335106338 : True := trivial
theorem top.tw1353657120722975067 : True := trivial
theorem top.tw12392516345856041104 : True := trivial
theorem top.tw2581206410525282061 : True := trivial
theorem top.tw15212760480394562756 : True := trivial
theorem top.tw1149218181149386328 : True := trivial
theorem top.tw14615657086365298920 : True := trivial
theorem top.tw11053662475850362967 : True := trivial
theorem top.tw18086089286151905521 : True := trivial
theorem top.tw1142465760834251562 : True := trivial
theorem top.tw9326722878772556681 : True := trivial
theorem top.tw9768079942903668216 : True := trivial
theorem top.tw8538268897159353584 : True := trivial
theorem top.tw11045010717311733409 : True := trivial
theorem top.tw11762496359356365647 : True := trivial
theorem top.tw7008692893051332821 : True := trivial
theorem top.tw5938664839603501006 : True := trivial
theorem top.tw9378254376102152143 : True := trivial
theorem top.tw7381879191629600215 : True := trivial
theorem top.tw9589608677651300831 : True := trivial
theorem top.tw9631074621892390191 : True := trivial
theorem top.tw984902984118615328 : True := trivial
theorem top.tw10090393231696489298 : True := trivial
theorem top.tw10577272966987657301 : True := trivial
theorem top.tw2727672472851901052 : True := trivial
theorem top.tw13359135706311490777 : True := trivial
theorem top.tw4736427724481360342 : True := trivial
theorem top.tw16420938139371093754 : True := trivial
theorem top.tw5225153198818245361 : True := trivial
theorem top.tw14349089067433371257 : True := trivial
theorem top.tw11189890337720088615 : True := trivial
theorem top.tw2443449257678562572 : True := trivial
theorem top.tw16800595933775061595 : True := trivial
theorem top.tw16068562728529669930 : True := trivial
theorem top.tw2859833716702649255 : True := trivial
theorem top.tw2770563814800254177 : True := trivial
theorem top.tw2165817408578904141 : True := trivial
theorem top.tw16759092144687519636 : True := trivial
theorem top.tw16240068400928781132 : True := trivial
theorem top.tw13432635357386499347 : True := trivial
theorem top.tw10404823597219466188 : True := trivial
theorem top.tw864819663365544661 : True := trivial
theorem top.tw2462062305354472974 : True := trivial
theorem top.tw3696473221133414273 : True := trivial
theorem top.tw1123975283337734383 : True := trivial
theorem top.tw8184561461823581802 : True := trivial
theorem top.tw72247145696351765 : True := trivial
theorem top.tw3874152929960365753 : True := trivial
theorem top.tw5552270689369575618 : True := trivial
theorem top.tw3995942328266245912 : True := trivial
theorem top.tw18177719399980262173 : True := trivial
theorem top.tw15985961358823992270 : True := trivial
theorem top.tw5597187220613765494 : True := trivial
theorem top.tw9205373777212018830 : True := trivial
theorem top.tw877433047237710547 : True := trivial
theorem top.tw2601905985415302144 : True := trivial
theorem top.tw14390669486469195807 : True := trivial
theorem top.tw10703516329204539289 : True := trivial
theorem top.tw370947364307004932 : True := trivial
theorem top.tw8637452081102412489 : True := trivial
theorem top.tw6448850889433096767 : True := trivial
theorem top.tw2758071753971750899 : True := trivial
theorem top.tw1124271682379634556 : True := trivial
theorem top.tw4807692442873511580 : True := trivial
theorem top.tw4796303294375832693 : True := trivial
theorem top.tw2596539476470345881 : True := trivial
theorem top.tw1394568958698188020 : True := trivial
theorem top.tw5303079699428457377 : True := trivial
theorem top.tw5513142621748847562 : True := trivial
theorem top.tw3776753064480771068 : True := trivial
theorem top.tw9165953624949470791 : True := trivial
theorem top.tw8410488445778877200 : True := trivial
theorem top.tw4177254973167742082 : True := trivial
theorem top.tw18394268562011335289 : True := trivial
theorem top.tw11459358961799972967 : True := trivial
theorem top.tw17542608870123051758 : True := trivial
theorem top.tw795583310449317561 : True := trivial
theorem top.tw9442318146202087700 : True := trivial
theorem top.tw9407396174263392564 : True := trivial
theorem top.tw3422688185749166683 : True := trivial
theorem top.tw4076138812419527698 : True := trivial
theorem top.tw8345894832289464959 : True := trivial
theorem top.tw13713866747541496747 : True := trivial
theorem top.tw9335426496214029073 : True := trivial
theorem top.tw516228168201391017 : True := trivial
theorem top.tw13120753694373217308 : True := trivial
theorem top.tw14145802354927516647 : True := trivial
theorem top.tw11584198869435930015 : True := trivial
theorem top.tw9227057690007400460 : True := trivial
theorem top.tw16155163154822807229 : True := trivial
theorem top.tw6203543418390704334 : True := trivial
theorem top.tw13802547742096326172 : True := trivial
theorem top.tw216529984938456764 : True := trivial
theorem top.tw10187724287525710026 : True := trivial
theorem top.tw7204998973626084599 : True := trivial
theorem top.tw7297446738713254254 : True := trivial
theorem top.tw13864677062968915208 : True := trivial
theorem top.tw16736118626332596326 : True := trivial
theorem top.tw4526881389914513428 : True := trivial
theorem top.tw3486219094355674750 : True := trivial
theorem top.tw17346259052997144950 : True := trivial
theorem top.tw16196420915677631385 : True := trivial
theorem top.tw2057334267981633021 : True := trivial
theorem top.tw3871027444623705763 : True := trivial
theorem top.tw12643491718579748851 : True := trivial
theorem top.tw5523086135645875356 : True := trivial
theorem top.tw11620634932572840514 : True := trivial
theorem top.tw18034075008235765660 : True := trivial
theorem top.tw8420165910927482534 : True := trivial
theorem top.tw6912233166142098652 : True := trivial
theorem top.tw1734106126877513090 : True := trivial
theorem top.tw7913636548009798097 : True := trivial
theorem top.tw9238823003894178615 : True := trivial
theorem top.tw12427389293880184781 : True := trivial
theorem top.tw14608685727046917156 : True := trivial
theorem top.tw7100016671515904942 : True := trivial
theorem top.tw11858546649754279707 : True := trivial
theorem top.tw3315250197877816394 : True := trivial
theorem top.tw4159251561096739476 : True := trivial
theorem top.tw5398424786039705171 : True := trivial
theorem top.tw11994683656316670133 : True := trivial
theorem top.tw775762912060472103 : True := trivial
theorem top.tw105208000716104510 : True := trivial
theorem top.tw9227541089923242437 : True := trivial
theorem top.tw2924597203103170677 : True := trivial
theorem top.tw15722756333993289495 : True := trivial
theorem top.tw4299629679881509495 : True := trivial
theorem top.tw11582926029173025856 : True := trivial
theorem top.tw11334203419191126389 : True := trivial
theorem top.tw3976154599441133093 : True := trivial
theorem top.tw5155950481276406077 : True := trivial
theorem top.tw3561193834555079511 : True := trivial
theorem top.tw4597200072644226624 : True := trivial
theorem top.tw15542334942015070624 : True := trivial
theorem top.tw9366391650621772374 : True := trivial
theorem top.tw11845233108574324481 : True := trivial
theorem top.tw1754339480302792767 : True := trivial
theorem top.tw9063741608606530840 : True := trivial
theorem top.tw4784893810139332661 : True := trivial
theorem top.tw4671429814451907529 : True := trivial
theorem top.tw12318557346453588183 : True := trivial
theorem top.tw18134043772397237400 : True := trivial
theorem top.tw11173010173815179391 : True := trivial
theorem top.tw1732150942055357024 : True := trivial
theorem top.tw15918733279669447828 : True := trivial
theorem top.tw13706816188851595723 : True := trivial
theorem top.tw6624316729101989866 : True := trivial
theorem top.tw9601329371697537090 : True := trivial
theorem top.tw908825868028484722 : True := trivial
theorem top.tw6196800358849779857 : True := trivial
theorem top.tw16004416686337608138 : True := trivial
theorem top.tw12564220515667953714 : True := trivial
theorem top.tw8507776931139520737 : True := trivial
theorem top.tw3669314199184481253 : True := trivial
theorem top.tw15976228082101565994 : True := trivial
theorem top.tw16174758807025615021 : True := trivial
theorem top.tw4555866861457887817 : True := trivial
theorem top.tw11116745826364501430 : True := trivial
theorem top.tw11430207588045935325 : True := trivial
theorem top.tw10341860258655708415 : True := trivial
theorem top.tw297971269722091814 : True := trivial
theorem top.tw3140898538269762758 : True := trivial
theorem top.tw2287823674025257028 : True := trivial
theorem top.tw6127594578889010139 : True := trivial
theorem top.tw14796646475526232899 : True := trivial
theorem top.tw8800459187187324500 : True := trivial
theorem top.tw15254643099363442306 : True := trivial
theorem top.tw15125931889511115149 : True := trivial
theorem top.tw728428047077509346 : True := trivial
theorem top.tw11159431927160009238 : True := trivial
theorem top.tw14282377253939248939 : True := trivial
theorem top.tw13044034144603486326 : True := trivial
theorem top.tw4383139521930768336 : True := trivial
theorem top.tw12819366960792805191 : True := trivial
theorem top.tw18063644159110109576 : True := trivial
theorem top.tw517144808224063464 : True := trivial
theorem top.tw12958502747184954254 : True := trivial
theorem top.tw15451780782824253742 : True := trivial
theorem top.tw14987219478266130788 : True := trivial
theorem top.tw11334350811105764591 : True := trivial
theorem top.tw17594962761535629368 : True := trivial
theorem top.tw10448899703829047738 : True := trivial
theorem top.tw15503665604740900718 : True := trivial
theorem top.tw16044733080236030384 : True := trivial
theorem top.tw10548783162686979305 : True := trivial
theorem top.tw1522322319653140107 : True := trivial
theorem top.tw14142502885225118848 : True := trivial
theorem top.tw575894324575664597 : True := trivial
theorem top.tw16293970446678759691 : True := trivial
theorem top.tw15638586536077026902 : True := trivial
theorem top.tw1291508964198565346 : True := trivial
theorem top.tw13326734554550294991 : True := trivial
theorem top.tw3484022092364678248 : True := trivial
theorem top.tw14466935161476858967 : True := trivial
theorem top.tw17323899518341599180 : True := trivial
theorem top.tw13090165191389475591 : True := trivial
theorem top.tw16580785732701462914 : True := trivial
theorem top.tw401921906979044612 : True := trivial
theorem top.tw2731995056826638727 : True := trivial
theorem top.tw12256363837256957063 : True := trivial
theorem top.tw15911569825323301435 : True := trivial
theorem top.tw2145171640123136144 : True := trivial
theorem top.tw6812286434817487243 : True := trivial
theorem top.tw3195968871104189447 : True := trivial
theorem top.tw11203750815551599093 : True := trivial
theorem top.tw2732273902793177162 : True := trivial
theorem top.tw8212043654798919567 : True := trivial
theorem top.tw16204670001084760307 : True := trivial
theorem top.tw6292954644110606532 : True := trivial
theorem top.tw12540527436937284434 : True := trivial
theorem top.tw17103177528636943170 : True := trivial
theorem top.tw3909029901177050473 : True := trivial
theorem top.tw8560541052185303311 : True := trivial
theorem top.tw5507162329139097715 : True := trivial
theorem top.tw11922380849998532372 : True := trivial
theorem top.tw6746510453823603384 : True := trivial
theorem top.tw10194810499950245846 : True := trivial
theorem top.tw14671331368771545958 : True := trivial
theorem top.tw3730354652608582461 : True := trivial
theorem top.tw10187264123177260123 : True := trivial
theorem top.tw9854310039474760501 : True := trivial
theorem top.tw8212240652046128837 : True := trivial
theorem top.tw14697636140705633519 : True := trivial
theorem top.tw14789260269991461300 : True := trivial
theorem top.tw10008474027749305400 : True := trivial
theorem top.tw4392038535549328194 : True := trivial
theorem top.tw3465488137227279516 : True := trivial
theorem top.tw6908635100366463001 : True := trivial
theorem top.tw390997316461189296 : True := trivial
theorem top.tw17795014544551873601 : True := trivial
theorem top.tw17545328352263074274 : True := trivial
theorem top.tw13187519465064655849 : True := trivial
theorem top.tw13889484949932952446 : True := trivial
theorem top.tw9685713192446186341 : True := trivial
theorem top.tw9195894827357321740 : True := trivial
theorem top.tw18371284783138465269 : True := trivial
theorem top.tw342308947776675178 : True := trivial
theorem top.tw7845129631348957993 : True := trivial
theorem top.tw8694864300669457046 : True := trivial
theorem top.tw6919701780365589675 : True := trivial
theorem top.tw6383614241601562808 : True := trivial
theorem top.tw9328819404386307858 : True := trivial
theorem top.tw9382581127745807760 : True := trivial
theorem top.tw12342655685612074800 : True := trivial
theorem top.tw11443710868159068359 : True := trivial
theorem top.tw10774637447528242797 : True := trivial
theorem top.tw9361663168868926718 : True := trivial
theorem top.tw1016984595167383106 : True := trivial
theorem top.tw7830913209206220567 : True := trivial
theorem top.tw2867133514656366558 : True := trivial
theorem top.tw4046864289407762814 : True := trivial
theorem top.tw6189502492464219833 : True := trivial
theorem top.tw5969682004907312646 : True := trivial
theorem top.tw15240379268576122478 : True := trivial
theorem top.tw14611434983143301774 : True := trivial
theorem top.tw995497684801637723 : True := trivial
theorem top.tw9800703332001039478 : True := trivial
theorem top.tw2907113945770861938 : True := trivial
theorem top.tw3846862658102513837 : True := trivial
theorem top.tw6883741973766446791 : True := trivial
theorem top.tw9851269098105209369 : True := trivial
theorem top.tw7204493036743257322 : True := trivial
theorem top.tw13987285891283452908 : True := trivial
theorem top.tw6438537300738474071 : True := trivial
theorem top.tw8311017846404947139 : True := trivial
theorem top.tw10006222313960134694 : True := trivial
theorem top.tw9953747333497923681 : True := trivial
theorem top.tw16414630628198896168 : True := trivial
theorem top.tw1492452104121835379 : True := trivial
theorem top.tw17085176360113175178 : True := trivial
theorem top.tw10801874191123338550 : True := trivial
theorem top.tw283044589724301 : True := trivial
theorem top.tw956089473029861405 : True := trivial
theorem top.tw602653604445443664 : True := trivial
theorem top.tw18121752080927795069 : True := trivial
theorem top.tw2878843996050045342 : True := trivial
theorem top.tw2752453847809088016 : True := trivial
theorem top.tw1245559373397905713 : True := trivial
theorem top.tw17783859843131274014 : True := trivial
theorem top.tw16058212318047004132 : True := trivial
theorem top.tw13264354339760550358 : True := trivial
theorem top.tw18008055252877512497 : True := trivial
theorem top.tw1617357707322924660 : True := trivial
theorem top.tw6370870915552960936 : True := trivial
theorem top.tw16034636559557993077 : True := trivial
theorem top.tw1147548669246485465 : True := trivial
theorem top.tw18401352131335411074 : True := trivial
theorem top.tw8143265674769528471 : True := trivial
theorem top.tw350670483859837877 : True := trivial
theorem top.tw3820434133910038737 : True := trivial
theorem top.tw12507017104952529904 : True := trivial
theorem top.tw2365566498512967660 : True := trivial
theorem top.tw11377482038585738817 : True := trivial
theorem top.tw18245740138792012028 : True := trivial
theorem top.tw501154541418245514 : True := trivial
theorem top.tw6042063481754889096 : True := trivial
theorem top.tw12958664272152378060 : True := trivial
theorem top.tw2218668502564051296 : True := trivial
theorem top.tw4166218997396506358 : True := trivial
theorem top.tw1736530178072539846 : True := trivial
theorem top.tw8523463495250067690 : True := trivial
theorem top.tw3261557481417251176 : True := trivial
theorem top.tw11334415319851112604 : True := trivial
theorem top.tw1400011881503588481 : True := trivial
theorem top.tw7399620327199909405 : True := trivial
theorem top.tw17555251805378815213 : True := trivial
theorem top.tw3120133295221510679 : True := trivial
theorem top.tw15744752440731449612 : True := trivial
def mk5 (z : Option Value × Option Value × Option Value × Option Value × Option Value) (m : Str → Option Value) (y : Str) : Option Value :=
  if y = Str.ofString "k" then z.1 else if y = Str.ofString "item" then z.2.1 else if y = Str.ofString "is_due" then z.2.2.1 else if y = Str.ofString "alias" then z.2.2.2.1 else if y = Str.ofString "word" then z.2.2.2.2 else m y
theorem mk5_eq {f m : Str → Option Value} (h : ∀ y, y ≠ Str.ofString "k" → y ≠ Str.ofString "item" → y ≠ Str.ofString "is_due" → y ≠ Str.ofString "alias" → y ≠ Str.ofString "word" → f y = m y) :
    f = mk5 (f (Str.ofString "k"), f (Str.ofString "item"), f (Str.ofString "is_due"), f (Str.ofString "alias"), f (Str.ofString "word")) m := by
  funext y
  unfold mk5
  by_cases e1 : y = Str.ofString "k"
  · subst e1; rfl
  by_cases e2 : y = Str.ofString "item"
  · subst e2; rfl
  by_cases e3 : y = Str.ofString "is_due"
  · subst e3; rfl
  by_cases e4 : y = Str.ofString "alias"
  · subst e4; rfl
  by_cases e5 : y = Str.ofString "word"
  · subst e5; rfl
  simp only [if_neg e1, if_neg e2, if_neg e3, if_neg e4, if_neg e5]
  exact h y e1 e2 e3 e4 e5
theorem mk5_self {m : Str → Option Value} : mk5 (m (Str.ofString "k"), m (Str.ofString "item"), m (Str.ofString "is_due"), m (Str.ofString "alias"), m (Str.ofString "word")) m = m := (mk5_eq (f := m) (m := m) fun _ _ _ _ _ _ => rfl).symm
theorem cut_at {M : Model} {α : Type} {A : Around} {E : Value → Shared → Prop} {s : Shared} {t : Sem α} {Q : α → Shared → Prop} {g : Heap} {L : Addr} {m : Str → Option Value} (_F : Fr g L s.heap m) (P : (Str → Option Value) → Shared → α → Shared → Prop) (walk : wpAny M A t (P m s) E s) (rest : ∀ f s', P m s f s' → Q f s') : wpAny M A t Q E s := wpAny_mono walk rest fun _ _ e => e
theorem order_plain {os : List (Str × Str)} {alias word : Str} (hw : word ∈ lawWords) (ha : (alias == Str.ofString "") = true) : orderIs os word word = meantOf os alias word := by
  rw [beq_iff_eq.mp ha]; exact order_plain0 hw
theorem add_alias {prog : Program} {w : World} {A : Around} {E : Value → Shared → Prop} {s : Shared} {x : Str} {t u : Tok} {Q : Value → Shared → Prop} (ha : x ∈ lawAliases) (h : ∀ t' k, Q (.str (x ++ Str.ofString "/") t') { s with toks := k }) : wpAny (model prog w) A (binaryOp .Add (.str x t) (.str (Str.ofString "/") u)) Q E s :=
  SBL.add (fun t' k _ => h t' k) (by have := alias_len x ha; have e : (Str.ofString "/").length = 1 := (by decide +kernel); rw [e, sizeLine_eq]; kpa_ne)
theorem add_word {prog : Program} {w : World} {A : Around} {E : Value → Shared → Prop} {s : Shared} {x y : Str} {t u : Tok} {Q : Value → Shared → Prop} (ha : x ∈ lawAliases) (hw : y ∈ lawWords) (h : ∀ t' k, Q (.str (x ++ Str.ofString "/" ++ y) t') { s with toks := k }) : wpAny (model prog w) A (binaryOp .Add (.str (x ++ Str.ofString "/") t) (.str y u)) Q E s :=
  SBL.add (fun t' k _ => h t' k) (by
    have h1 := alias_len x ha
    have h2 := word_len y hw
    have e : (Str.ofString "/").cps.size = 1 := (by decide +kernel)
    have e2 : (x ++ Str.ofString "/").length = x.length + 1 := by show (x ++ Str.ofString "/").cps.size = _; rw [app_size, e]; rfl
    rw [e2, sizeLine_eq]; kpa_ne)
structure IdxAt (vs : List Value) (r : Int) (v : Value) : Prop where
  h : vs[r.toNat]? = some v
theorem item_any {prog : Program} {w : World} {A : Around} {E : Value → Shared → Prop} {s : Shared} {h₀ : Heap} {L D : Addr} {news : List (Addr × Obj)} {vs : List Value} {k : Nat} {r : Int} {v : Value} {value slice : Expr} {u : Tok} {Q : Value → Shared → Prop} (N : News h₀ L s.heap news) (hm : (D, PySem.W.listOf vs.toArray k) ∈ news) (h0 : 0 ≤ r) (h1 : r < 1000) (hx : IdxAt vs r v) (h : Q v s)
    (hs : subscripted slice false (.ref D) (.int r u) = operate [.ref D, .int r u] (getItem (.ref D) (.int r u))) (hg : ∀ r, letTemporaryGo value (.ref D) r = pure ()) : wpAny (model prog w) A (subscriptTail value slice (.ref D) (.int r u)) Q E s :=
  item_listL (l := vs) (News.isList N hm) h0 (by kpa_ne) hx.h h hs hg
theorem item_fr {m : Str → Option Value} {v : Value} (h : m (Str.ofString "item") = some v) : m = fun y => if y = Str.ofString "item" then some v else m y := by
  funext y
  by_cases e : y = Str.ofString "item"
  · subst e; rw [if_pos rfl]; exact h
  · rw [if_neg e]
theorem item_frF {g h : Heap} {L : Addr} {m : Str → Option Value} {v : Value} (F : Fr g L h m) (e : m (Str.ofString "item") = some v) : Fr g L h (fun y => if y = Str.ofString "item" then some v else m y) := item_fr e ▸ F
theorem offIff {own : List (Addr × Obj)} {b : Addr} (h : OwnOff own [b]) : ∀ p ∈ own, p.1 ≠ b := fun p hp => h p hp b (.head _)
local macro_rules | `(tactic| k_mem) => `(tactic| ((repeat apply List.mem_cons_of_mem); assumption))
local macro_rules | `(tactic| k_in) => `(tactic| first | with_reducible assumption | exact Frag.In.keeps (by with_reducible assumption) (Fr.keep (by with_reducible assumption)))
theorem ne_int_same {prog : Program} {w : World} {A : Around} {E : Value → Shared → Prop} {s : Shared} {n : Int} {t u : Tok} {Q : Value → Shared → Prop} (h : Q (.bool false) s) : wpAny (model prog w) A (compareOp .NotEq (.int n t) (.int n u)) Q E s := by
  refine ne_int ?_
  have e : (n != n) = false := by simp
  rw [e]; exact h
local macro_rules | `(tactic| walk_at "getMethod ref") => `(tactic| (k_here; k_dflt (refine' method_inst ?k1 ?k2 ?k3 ?k4 ?k5 ?k6 ?k7 ?_; (case k1 => with_reducible assumption); (case k2 => with_reducible assumption); (case k3 => refine' InstAt.of_news ?kN ?kh1 ?kh2; (case kN => with_reducible assumption); (case kh1 => (repeat (first | exact .head _ | apply List.mem_cons_of_mem))); (case kh2 => (repeat (first | exact .head _ | apply List.mem_cons_of_mem)))); (case k4 => k_is); (case k5 => k_is); (case k6 => k_is); (case k7 => k_get); k_whole)))
theorem cut_ev {M : Model} {A : Around} {E : Value → Shared → Prop} {s : Shared} {t : Sem Value} {Q : Value → Shared → Prop} (P : Shared → Value → Shared → Prop) (walk : wpAny M A t (P s) E s) (rest : ∀ v s', P s v s' → Q v s') : wpAny M A t Q E s := wpAny_mono walk rest fun _ _ e => e
set_option Elab.async true
set_option maxHeartbeats 0 in
theorem top : PySem.Challenge.rw_rr0095_01.Holds := by
  w_on; o_law; k_head
  (case hw => w_witness2)
  k_go0
  all_goals (rename Frag.In _ _ => KX0; have KX : (K39 _).In _ := KX0; clear KX0)
  all_goals try k_fold
  (repeat' (first | (k_unfold; (try dsimp only)) | (k_end; wrow_close) | ((with_reducible show wpAny _ _ (eval (PySem.Expr.IfExp (PySem.Expr.Compare _ _ _ _) _ _ _) _) _ _ _); refine here_mark ?_) | ((with_reducible show wpAny _ _ (exec (Stmt.If (PySem.Expr.Name _ _) _ _ _) _) _ _ _); refine here_mark ?_) | ((with_reducible show wpAny _ _ (exec (Stmt.If (PySem.Expr.Compare (PySem.Expr.Call (PySem.Expr.Name _ _) _ _ _) _ _ _) _ _ _) _) _ _ _); refine here_mark ?_) | ((with_reducible show wpAny _ _ (subscriptTail _ _ (Value.ref _) (Value.int 2 _)) _ _ _); k_dflt (refine item_tupleT (by exact News.isTup (by k_asm) (by k_mem)) (by decide) (by decide) (by rfl) (by rfl) ?_; k_whole)) | ((with_reducible show wpAny _ _ (eval (PySem.Expr.ListComp (PySem.Expr.Name _ _) _ _ _) _) _ _ _); refine here_mark ?_) | ((with_reducible show wpAny _ _ (compareOp CmpOp.NotEq (Value.ref _) (Value.ref _)) _ _ _); (refine here_mark ?_)) | ((with_reducible show wpAny _ _ (exec (Stmt.If (PySem.Expr.BoolOp _ _ _) _ _ _) _) _ _ _); refine here_mark ?_) | ((with_reducible show wpAny _ _ (binaryOp _ (Value.str _ _) (Value.str _ _)) _ _ _); (k_dflt (first | (with_reducible refine add_alias (by with_reducible assumption) ?_; intro _ _) | (with_reducible refine add_word (by with_reducible assumption) (by with_reducible assumption) ?_; intro _ _)))) | ((with_reducible show wpAny _ _ (subscriptTail _ _ (Value.ref 517) (Value.int _ _)) _ _ _); k_dflt (refine word_at (by k_asm) (by with_reducible assumption) (by assumption) (by assumption) ?_ (by (intro _ _; with_unfolding_all rfl))); intro _ _ _) | ((with_reducible show wpAny _ _ (subscriptTail _ _ (Value.ref 516) (Value.int _ _)) _ _ _); k_dflt (refine alias_at (by k_asm) (by with_reducible assumption) (by assumption) (by assumption) ?_ (by (intro _ _; with_unfolding_all rfl))); intro _ _ _) | ((with_reducible show wpAny _ _ (subscriptTail _ _ (Value.ref _) (Value.int 1 _)) _ _ _); k_dflt (refine item_tupleT (by exact News.isTup (by k_asm) (by k_mem)) (by decide) (by decide) (by rfl) (by rfl) ?_; k_whole)) | ((with_reducible show wpAny _ _ (compareOp CmpOp.NotEq (Value.int _ _) (Value.int _ _)) _ _ _); (k_dflt (refine ne_int_same ?_))) | ((with_reducible show wpAny _ _ (call (Value.type _) [Value.ref _]) _ _ _); k_dflt (refine copy_list (by k_asm) (by k_asm) (by k_mem) (by assumption) ?_); intro _ _ _ _ _ q09; (try k_lt q09); revert q09; intro _) | ((with_reducible show wpAny _ _ (call (Value.builtin "list.append") _) _ _ _); (k_dflt (refine append_any (by k_asm) (by k_asm) (by k_updF) (by first | assumption | kpa_ne) ?_); intro _ _ q09; (try dsimp only at q09); revert q09; intro _)) | ((with_reducible show wpAny _ _ (subscriptTail _ _ (Value.ref _) (Value.int _ _)) _ _ _); k_dflt (refine item_any (by k_asm) (by k_mem) (by assumption) (by kpa_ne) (by assumption) ?_ (by with_unfolding_all rfl) (by kmk_pure))) | ((with_reducible show wpAny _ _ (call (Value.builtin "len") _) _ _ _); (k_dflt (refine len_any (by k_asm) (by k_mem) (by assumption) ?_))) | ((first | (with_reducible show wpAny _ _ (call (Value.ref 531) _) _ _ _) | (with_reducible show wpAny _ _ (call (Value.ref 524) _) _ _ _) | (with_reducible show wpAny _ _ (call (Value.ref 269) _) _ _ _) | (with_reducible show wpAny _ _ (call (Value.ref 513) _) _ _ _) | (with_reducible show wpAny _ _ (call (Value.ref 538) _) _ _ _) | (with_reducible show wpAny _ _ (call (Value.ref 550) _) _ _ _) | (with_reducible show wpAny _ _ (call (Value.ref 562) _) _ _ _) | (with_reducible show wpAny _ _ (call (Value.ref 545) _) _ _ _) | (with_reducible show wpAny _ _ (call (Value.ref 475) _) _ _ _) | (with_reducible show wpAny _ _ (call (Value.ref 555) _) _ _ _) | (with_reducible show wpAny _ _ (call (Value.ref 569) _) _ _ _)); refine here_mark ?_) | ((with_reducible show wpAny _ _ (call (Value.type "range") _) _ _ _); (k_dflt (refine range_N (by k_asm) (by k_asm) ?_); intro _ _ _ _ _ _ _ q09; (try k_lt q09); revert q09; intro _)) | ((with_reducible show wpAny _ _ (exec (Stmt.For _ _ _ _ _) _) _ _ _); (k_dflt (refine For_own (by k_asm) (by rfl) (by rfl) ?_))) | ((with_reducible show wpAny _ _ (pyIter (Value.ref _)) _ _ _); (refine here_mark ?_)) | ((with_reducible show wpAny _ _ (eval (PySem.Expr.Dict [] [] _) _) _ _ _); (k_dflt (refine newDict_K (by k_asm) (by k_asm) (by first | exact Top.nolimit (by k_asm) | exact Glob.nolimit (by k_asm)) ?_; k_whole); intro _ _ _ _ _ q09 _ _ _ _ _; (try k_lt q09); revert q09; intro _)) | walk1 | (dsimp only; walk1) | (leave1; walk_say "STEP leave1"; try dsimp only) | fail "no step"))
  change wpAny _ _ _ _ _ _
  rename_i w s₀ s₁ mg mb G Y fa o pm doc kV ho hg X V GL T B TE TW w1a w2a M w3a w4a hcd ns hs hlay0 hL hr0 hl2 wl1 wl2 sa svs0 wl3 hLs ra w1 r0 hI hr hc1 hc2 K0 hD hh1 b hhB ob0 lo hd0 l1a cD ws' hh2 hI' hC' hL' l1b hkl1 hkl2 gg hI8 hL8 c hh3 tkc oc hh4 ob hdb hh5 F9 N9
  have hcn : ((ns.take 60).map fun k' => k'.fmod 1000003).length ≤ 63 := by rw [List.length_map, List.length_take]; kpa_ne
  have hbc : @Ne Nat b c := oc.2
  have hb0 : BellTo w ob c 0 := ⟨0, _, _, _, by kpa_ne, by kpa_ne, hdb⟩
  have N8 : News s₁.heap s₁.heap.objs.size hh5 ((b, ob) :: (c, PySem.W.listOf ys.toArray ys.length) :: []) := N9.perm (by
    iterate 2 refine List.forall_mem_cons.mpr ⟨by k_mem, ?_⟩
    exact List.forall_mem_nil _)
  clear N9 hdb
  refine sigs_spec K0 F9 KX N8 T hb0 (by kpa_ne) (by ktr_room) (by ktr_units) lo hbc (fun p hp => absurd hp List.not_mem_nil) hI8 hcn ?_
  intro l ob1 own1 svs xs h1 tk1 F1 N1 hS hxs hb1 hsub1 hoff1 hlt1
  clear N8 F9 hb0
  obtain ⟨hlt1a, hlt1b, hlt1c⟩ := hlt1
  (repeat' (first | (k_unfold; (try dsimp only)) | (k_end; wrow_close) | ((with_reducible show wpAny _ _ (eval (PySem.Expr.IfExp (PySem.Expr.Compare _ _ _ _) _ _ _) _) _ _ _); refine here_mark ?_) | ((with_reducible show wpAny _ _ (exec (Stmt.If (PySem.Expr.Name _ _) _ _ _) _) _ _ _); refine here_mark ?_) | ((with_reducible show wpAny _ _ (exec (Stmt.If (PySem.Expr.Compare (PySem.Expr.Call (PySem.Expr.Name _ _) _ _ _) _ _ _) _ _ _) _) _ _ _); refine here_mark ?_) | ((with_reducible show wpAny _ _ (subscriptTail _ _ (Value.ref _) (Value.int 2 _)) _ _ _); k_dflt (refine item_tupleT (by exact News.isTup (by k_asm) (by k_mem)) (by decide) (by decide) (by rfl) (by rfl) ?_; k_whole)) | ((with_reducible show wpAny _ _ (eval (PySem.Expr.ListComp (PySem.Expr.Name _ _) _ _ _) _) _ _ _); refine here_mark ?_) | ((with_reducible show wpAny _ _ (compareOp CmpOp.NotEq (Value.ref _) (Value.ref _)) _ _ _); (refine here_mark ?_)) | ((with_reducible show wpAny _ _ (exec (Stmt.If (PySem.Expr.BoolOp _ _ _) _ _ _) _) _ _ _); refine here_mark ?_) | ((with_reducible show wpAny _ _ (binaryOp _ (Value.str _ _) (Value.str _ _)) _ _ _); (k_dflt (first | (with_reducible refine add_alias (by with_reducible assumption) ?_; intro _ _) | (with_reducible refine add_word (by with_reducible assumption) (by with_reducible assumption) ?_; intro _ _)))) | ((with_reducible show wpAny _ _ (subscriptTail _ _ (Value.ref 517) (Value.int _ _)) _ _ _); k_dflt (refine word_at (by k_asm) (by with_reducible assumption) (by assumption) (by assumption) ?_ (by (intro _ _; with_unfolding_all rfl))); intro _ _ _) | ((with_reducible show wpAny _ _ (subscriptTail _ _ (Value.ref 516) (Value.int _ _)) _ _ _); k_dflt (refine alias_at (by k_asm) (by with_reducible assumption) (by assumption) (by assumption) ?_ (by (intro _ _; with_unfolding_all rfl))); intro _ _ _) | ((with_reducible show wpAny _ _ (subscriptTail _ _ (Value.ref _) (Value.int 1 _)) _ _ _); k_dflt (refine item_tupleT (by exact News.isTup (by k_asm) (by k_mem)) (by decide) (by decide) (by rfl) (by rfl) ?_; k_whole)) | ((with_reducible show wpAny _ _ (compareOp CmpOp.NotEq (Value.int _ _) (Value.int _ _)) _ _ _); (k_dflt (refine ne_int_same ?_))) | ((with_reducible show wpAny _ _ (call (Value.type _) [Value.ref _]) _ _ _); k_dflt (refine copy_list (by k_asm) (by k_asm) (by k_mem) (by assumption) ?_); intro _ _ _ _ _ q09; (try k_lt q09); revert q09; intro _) | ((with_reducible show wpAny _ _ (call (Value.builtin "list.append") _) _ _ _); (k_dflt (refine append_any (by k_asm) (by k_asm) (by k_updF) (by first | assumption | kpa_ne) ?_); intro _ _ q09; (try dsimp only at q09); revert q09; intro _)) | ((with_reducible show wpAny _ _ (subscriptTail _ _ (Value.ref _) (Value.int _ _)) _ _ _); k_dflt (refine item_any (by k_asm) (by k_mem) (by assumption) (by kpa_ne) (by assumption) ?_ (by with_unfolding_all rfl) (by kmk_pure))) | ((with_reducible show wpAny _ _ (call (Value.builtin "len") _) _ _ _); (k_dflt (refine len_any (by k_asm) (by k_mem) (by assumption) ?_))) | ((first | (with_reducible show wpAny _ _ (call (Value.ref 531) _) _ _ _) | (with_reducible show wpAny _ _ (call (Value.ref 524) _) _ _ _) | (with_reducible show wpAny _ _ (call (Value.ref 269) _) _ _ _) | (with_reducible show wpAny _ _ (call (Value.ref 513) _) _ _ _) | (with_reducible show wpAny _ _ (call (Value.ref 538) _) _ _ _) | (with_reducible show wpAny _ _ (call (Value.ref 550) _) _ _ _) | (with_reducible show wpAny _ _ (call (Value.ref 562) _) _ _ _) | (with_reducible show wpAny _ _ (call (Value.ref 545) _) _ _ _) | (with_reducible show wpAny _ _ (call (Value.ref 475) _) _ _ _) | (with_reducible show wpAny _ _ (call (Value.ref 555) _) _ _ _) | (with_reducible show wpAny _ _ (call (Value.ref 569) _) _ _ _)); refine here_mark ?_) | ((with_reducible show wpAny _ _ (call (Value.type "range") _) _ _ _); (k_dflt (refine range_N (by k_asm) (by k_asm) ?_); intro _ _ _ _ _ _ _ q09; (try k_lt q09); revert q09; intro _)) | ((with_reducible show wpAny _ _ (exec (Stmt.For _ _ _ _ _) _) _ _ _); (k_dflt (refine For_own (by k_asm) (by rfl) (by rfl) ?_))) | ((with_reducible show wpAny _ _ (pyIter (Value.ref _)) _ _ _); (refine here_mark ?_)) | ((with_reducible show wpAny _ _ (eval (PySem.Expr.Dict [] [] _) _) _ _ _); (k_dflt (refine newDict_K (by k_asm) (by k_asm) (by first | exact Top.nolimit (by k_asm) | exact Glob.nolimit (by k_asm)) ?_; k_whole); intro _ _ _ _ _ q09 _ _ _ _ _; (try k_lt q09); revert q09; intro _)) | walk1 | (dsimp only; walk1) | (leave1; walk_say "STEP leave1"; try dsimp only) | fail "no step"))
  change wpAny _ _ _ _ _ _
  rename_i opn hx1 ld1 tkl hx2 ld2 tp hx3 ld3 hx4 hx5 hx6 hx7 F2 N2
  have N3 : News s₁.heap s₁.heap.objs.size hx7 ((l, PySem.W.listOf svs.toArray 0) :: (b, ob1) :: (c, PySem.W.listOf ys.toArray ys.length) :: (opn, PySem.W.listOf #[] 0) :: (tkl, PySem.W.listOf #[] 0) :: own1) := N2.perm (by
    iterate 5 refine List.forall_mem_cons.mpr ⟨by k_mem, ?_⟩
    intro p hp
    repeat (first | exact hp | apply List.mem_cons_of_mem))
  clear N2
  refine init_spec (its := xs.map It.sig) K0 F2 KX N3 T (by ktr_room) (by ktr_units) (All2.map_right (f := It.sig) (fun _ _ z => SigV.mono (fun p hp => .tail _ (.tail _ (.tail _ (.tail _ hp)))) z) hS) ((sigNames_sigs xs).symm ▸ hxs) (fun d hd => by rw [opensOf_sigs] at hd; cases hd) (by rw [opensOf_sigs]; exact Nat.zero_le _) ?_ ?_
  · intro sg sd en st op od ow oe os2 ovs kn nws t1 t2 t3 t4 t5 pairs h2 tk2 hrun2 F4 N4 hdd lo2 hkeys hps2 hos2 hgt2 l2
    rw [opensOf_sigs] at hrun2
    cases hrun2
    obtain rfl : ovs = [] := List.eq_nil_of_length_eq_zero hps2.length
    obtain ⟨l2a, l2b, l2c, l2d, l2e⟩ := l2
    simp only [AllLt] at l2b
    have N5 : News s₁.heap s₁.heap.objs.size h2 ((sg, instObj 269 sd) :: (sd, dictOf (sgEs w t1 t2 t3 t4 t5 en st op od ow) 5) :: (op, PySem.W.listOf ([] : List Value).toArray kn) :: (en, oe) :: (l, PySem.W.listOf svs.toArray 0) :: (b, ob1) :: (c, PySem.W.listOf ys.toArray ys.length) :: (opn, PySem.W.listOf #[] 0) :: (tkl, PySem.W.listOf #[] 0) :: own1) := N4.perm (by
      iterate 5 refine List.forall_mem_cons.mpr ⟨by k_mem, ?_⟩
      intro p hp
      exact .tail _ (.tail _ (.tail _ (.tail _ (.tail _ (List.mem_append.mpr (.inr hp)))))))
    clear N4 N3 hgt2 hps2
    (repeat' (first | (k_unfold; (try dsimp only)) | (k_end; wrow_close) | ((with_reducible show wpAny _ _ (eval (PySem.Expr.IfExp (PySem.Expr.Compare _ _ _ _) _ _ _) _) _ _ _); refine here_mark ?_) | ((with_reducible show wpAny _ _ (exec (Stmt.If (PySem.Expr.Name _ _) _ _ _) _) _ _ _); refine here_mark ?_) | ((with_reducible show wpAny _ _ (exec (Stmt.If (PySem.Expr.Compare (PySem.Expr.Call (PySem.Expr.Name _ _) _ _ _) _ _ _) _ _ _) _) _ _ _); refine here_mark ?_) | ((with_reducible show wpAny _ _ (subscriptTail _ _ (Value.ref _) (Value.int 2 _)) _ _ _); k_dflt (refine item_tupleT (by exact News.isTup (by k_asm) (by k_mem)) (by decide) (by decide) (by rfl) (by rfl) ?_; k_whole)) | ((with_reducible show wpAny _ _ (eval (PySem.Expr.ListComp (PySem.Expr.Name _ _) _ _ _) _) _ _ _); refine here_mark ?_) | ((with_reducible show wpAny _ _ (compareOp CmpOp.NotEq (Value.ref _) (Value.ref _)) _ _ _); (refine here_mark ?_)) | ((with_reducible show wpAny _ _ (exec (Stmt.If (PySem.Expr.BoolOp _ _ _) _ _ _) _) _ _ _); refine here_mark ?_) | ((with_reducible show wpAny _ _ (binaryOp _ (Value.str _ _) (Value.str _ _)) _ _ _); (k_dflt (first | (with_reducible refine add_alias (by with_reducible assumption) ?_; intro _ _) | (with_reducible refine add_word (by with_reducible assumption) (by with_reducible assumption) ?_; intro _ _)))) | ((with_reducible show wpAny _ _ (subscriptTail _ _ (Value.ref 517) (Value.int _ _)) _ _ _); k_dflt (refine word_at (by k_asm) (by with_reducible assumption) (by assumption) (by assumption) ?_ (by (intro _ _; with_unfolding_all rfl))); intro _ _ _) | ((with_reducible show wpAny _ _ (subscriptTail _ _ (Value.ref 516) (Value.int _ _)) _ _ _); k_dflt (refine alias_at (by k_asm) (by with_reducible assumption) (by assumption) (by assumption) ?_ (by (intro _ _; with_unfolding_all rfl))); intro _ _ _) | ((with_reducible show wpAny _ _ (subscriptTail _ _ (Value.ref _) (Value.int 1 _)) _ _ _); k_dflt (refine item_tupleT (by exact News.isTup (by k_asm) (by k_mem)) (by decide) (by decide) (by rfl) (by rfl) ?_; k_whole)) | ((with_reducible show wpAny _ _ (compareOp CmpOp.NotEq (Value.int _ _) (Value.int _ _)) _ _ _); (k_dflt (refine ne_int_same ?_))) | ((with_reducible show wpAny _ _ (call (Value.type _) [Value.ref _]) _ _ _); k_dflt (refine copy_list (by k_asm) (by k_asm) (by k_mem) (by assumption) ?_); intro _ _ _ _ _ q09; (try k_lt q09); revert q09; intro _) | ((with_reducible show wpAny _ _ (call (Value.builtin "list.append") _) _ _ _); (k_dflt (refine append_any (by k_asm) (by k_asm) (by k_updF) (by first | assumption | kpa_ne) ?_); intro _ _ q09; (try dsimp only at q09); revert q09; intro _)) | ((with_reducible show wpAny _ _ (subscriptTail _ _ (Value.ref _) (Value.int _ _)) _ _ _); k_dflt (refine item_any (by k_asm) (by k_mem) (by assumption) (by kpa_ne) (by assumption) ?_ (by with_unfolding_all rfl) (by kmk_pure))) | ((with_reducible show wpAny _ _ (call (Value.builtin "len") _) _ _ _); (k_dflt (refine len_any (by k_asm) (by k_mem) (by assumption) ?_))) | ((first | (with_reducible show wpAny _ _ (call (Value.ref 531) _) _ _ _) | (with_reducible show wpAny _ _ (call (Value.ref 524) _) _ _ _) | (with_reducible show wpAny _ _ (call (Value.ref 269) _) _ _ _) | (with_reducible show wpAny _ _ (call (Value.ref 513) _) _ _ _) | (with_reducible show wpAny _ _ (call (Value.ref 538) _) _ _ _) | (with_reducible show wpAny _ _ (call (Value.ref 550) _) _ _ _) | (with_reducible show wpAny _ _ (call (Value.ref 562) _) _ _ _) | (with_reducible show wpAny _ _ (call (Value.ref 545) _) _ _ _) | (with_reducible show wpAny _ _ (call (Value.ref 475) _) _ _ _) | (with_reducible show wpAny _ _ (call (Value.ref 555) _) _ _ _) | (with_reducible show wpAny _ _ (call (Value.ref 569) _) _ _ _)); refine here_mark ?_) | ((with_reducible show wpAny _ _ (call (Value.type "range") _) _ _ _); (k_dflt (refine range_N (by k_asm) (by k_asm) ?_); intro _ _ _ _ _ _ _ q09; (try k_lt q09); revert q09; intro _)) | ((with_reducible show wpAny _ _ (exec (Stmt.For _ _ _ _ _) _) _ _ _); (k_dflt (refine For_own (by k_asm) (by rfl) (by rfl) ?_))) | ((with_reducible show wpAny _ _ (pyIter (Value.ref _)) _ _ _); (refine here_mark ?_)) | ((with_reducible show wpAny _ _ (eval (PySem.Expr.Dict [] [] _) _) _ _ _); (k_dflt (refine newDict_K (by k_asm) (by k_asm) (by first | exact Top.nolimit (by k_asm) | exact Glob.nolimit (by k_asm)) ?_; k_whole); intro _ _ _ _ _ q09 _ _ _ _ _; (try k_lt q09); revert q09; intro _)) | walk1 | (dsimp only; walk1) | (leave1; walk_say "STEP leave1"; try dsimp only) | fail "no step"))
    change wpAny _ _ _ _ _ _
    rename News s₁.heap s₁.heap.objs.size _ _ => N5n
    refine kinds_spec K0 (by k_asm) KX N5n T (by ktr_room) (by ktr_units) ?_
    intro kd kdd v1 v2 v3 v4 v5 v6 v7 k2 k3 k4 k5 h5 tk5 F5 N5b lk
    obtain ⟨lk2, lk1, lk3⟩ := lk
    simp only [AllLt] at lk3
    clear N5n
    (repeat' (first | (k_unfold; (try dsimp only)) | (k_end; wrow_close) | ((with_reducible show wpAny _ _ (eval (PySem.Expr.IfExp (PySem.Expr.Compare _ _ _ _) _ _ _) _) _ _ _); refine here_mark ?_) | ((with_reducible show wpAny _ _ (exec (Stmt.If (PySem.Expr.Name _ _) _ _ _) _) _ _ _); refine here_mark ?_) | ((with_reducible show wpAny _ _ (exec (Stmt.If (PySem.Expr.Compare (PySem.Expr.Call (PySem.Expr.Name _ _) _ _ _) _ _ _) _ _ _) _) _ _ _); refine here_mark ?_) | ((with_reducible show wpAny _ _ (subscriptTail _ _ (Value.ref _) (Value.int 2 _)) _ _ _); k_dflt (refine item_tupleT (by exact News.isTup (by k_asm) (by k_mem)) (by decide) (by decide) (by rfl) (by rfl) ?_; k_whole)) | ((with_reducible show wpAny _ _ (eval (PySem.Expr.ListComp (PySem.Expr.Name _ _) _ _ _) _) _ _ _); refine here_mark ?_) | ((with_reducible show wpAny _ _ (compareOp CmpOp.NotEq (Value.ref _) (Value.ref _)) _ _ _); (refine here_mark ?_)) | ((with_reducible show wpAny _ _ (exec (Stmt.If (PySem.Expr.BoolOp _ _ _) _ _ _) _) _ _ _); refine here_mark ?_) | ((with_reducible show wpAny _ _ (binaryOp _ (Value.str _ _) (Value.str _ _)) _ _ _); (k_dflt (first | (with_reducible refine add_alias (by with_reducible assumption) ?_; intro _ _) | (with_reducible refine add_word (by with_reducible assumption) (by with_reducible assumption) ?_; intro _ _)))) | ((with_reducible show wpAny _ _ (subscriptTail _ _ (Value.ref 517) (Value.int _ _)) _ _ _); k_dflt (refine word_at (by k_asm) (by with_reducible assumption) (by assumption) (by assumption) ?_ (by (intro _ _; with_unfolding_all rfl))); intro _ _ _) | ((with_reducible show wpAny _ _ (subscriptTail _ _ (Value.ref 516) (Value.int _ _)) _ _ _); k_dflt (refine alias_at (by k_asm) (by with_reducible assumption) (by assumption) (by assumption) ?_ (by (intro _ _; with_unfolding_all rfl))); intro _ _ _) | ((with_reducible show wpAny _ _ (subscriptTail _ _ (Value.ref _) (Value.int 1 _)) _ _ _); k_dflt (refine item_tupleT (by exact News.isTup (by k_asm) (by k_mem)) (by decide) (by decide) (by rfl) (by rfl) ?_; k_whole)) | ((with_reducible show wpAny _ _ (compareOp CmpOp.NotEq (Value.int _ _) (Value.int _ _)) _ _ _); (k_dflt (refine ne_int_same ?_))) | ((with_reducible show wpAny _ _ (call (Value.type _) [Value.ref _]) _ _ _); k_dflt (refine copy_list (by k_asm) (by k_asm) (by k_mem) (by assumption) ?_); intro _ _ _ _ _ q09; (try k_lt q09); revert q09; intro _) | ((with_reducible show wpAny _ _ (call (Value.builtin "list.append") _) _ _ _); (k_dflt (refine append_any (by k_asm) (by k_asm) (by k_updF) (by first | assumption | kpa_ne) ?_); intro _ _ q09; (try dsimp only at q09); revert q09; intro _)) | ((with_reducible show wpAny _ _ (subscriptTail _ _ (Value.ref _) (Value.int _ _)) _ _ _); k_dflt (refine item_any (by k_asm) (by k_mem) (by assumption) (by kpa_ne) (by assumption) ?_ (by with_unfolding_all rfl) (by kmk_pure))) | ((with_reducible show wpAny _ _ (call (Value.builtin "len") _) _ _ _); (k_dflt (refine len_any (by k_asm) (by k_mem) (by assumption) ?_))) | ((first | (with_reducible show wpAny _ _ (call (Value.ref 531) _) _ _ _) | (with_reducible show wpAny _ _ (call (Value.ref 524) _) _ _ _) | (with_reducible show wpAny _ _ (call (Value.ref 269) _) _ _ _) | (with_reducible show wpAny _ _ (call (Value.ref 513) _) _ _ _) | (with_reducible show wpAny _ _ (call (Value.ref 538) _) _ _ _) | (with_reducible show wpAny _ _ (call (Value.ref 550) _) _ _ _) | (with_reducible show wpAny _ _ (call (Value.ref 562) _) _ _ _) | (with_reducible show wpAny _ _ (call (Value.ref 545) _) _ _ _) | (with_reducible show wpAny _ _ (call (Value.ref 475) _) _ _ _) | (with_reducible show wpAny _ _ (call (Value.ref 555) _) _ _ _) | (with_reducible show wpAny _ _ (call (Value.ref 569) _) _ _ _)); refine here_mark ?_) | ((with_reducible show wpAny _ _ (call (Value.type "range") _) _ _ _); (k_dflt (refine range_N (by k_asm) (by k_asm) ?_); intro _ _ _ _ _ _ _ q09; (try k_lt q09); revert q09; intro _)) | ((with_reducible show wpAny _ _ (exec (Stmt.For _ _ _ _ _) _) _ _ _); (k_dflt (refine For_own (by k_asm) (by rfl) (by rfl) ?_))) | ((with_reducible show wpAny _ _ (pyIter (Value.ref _)) _ _ _); (refine here_mark ?_)) | ((with_reducible show wpAny _ _ (eval (PySem.Expr.Dict [] [] _) _) _ _ _); (k_dflt (refine newDict_K (by k_asm) (by k_asm) (by first | exact Top.nolimit (by k_asm) | exact Glob.nolimit (by k_asm)) ?_; k_whole); intro _ _ _ _ _ q09 _ _ _ _ _; (try k_lt q09); revert q09; intro _)) | walk1 | (dsimp only; walk1) | (leave1; walk_say "STEP leave1"; try dsimp only) | fail "no step"))
    change wpAny _ _ _ _ _ _
    rename News s₁.heap s₁.heap.objs.size _ _ => N6
    rename Fr s₁.heap s₁.heap.objs.size _ _ => F6
    let sdO : Obj := dictOf (sgEs w t1 t2 t3 t4 t5 en st op od ow) 5
    let kdO : Obj := dictOf (kdEs w v1 v2 v3 v4 v5 v6 v7 sg k2 k3 k4 k5) 6
    have NK : News s₁.heap s₁.heap.objs.size _ ((b, ob1) :: (c, PySem.W.listOf ys.toArray ys.length) :: (op, PySem.W.listOf ([] : List Value).toArray kn) :: (tkl, PySem.W.listOf ([] : List Value).toArray 0) :: (opn, PySem.W.listOf ([] : List Value).toArray 0) :: (l, PySem.W.listOf svs.toArray 0) ::
        (sg, instObj 269 sd) :: (sd, sdO) :: (en, oe) :: (kd, instObj 513 kdd) :: (kdd, kdO) :: ([] ++ own1)) := N6.perm (by
      iterate 11 refine List.forall_mem_cons.mpr ⟨by repeat (first | exact .head _ | apply List.mem_cons_of_mem), ?_⟩
      intro p hp
      repeat (first | exact hp | apply List.mem_cons_of_mem))
    clear N6
    have hoffK : OwnOff ((op, PySem.W.listOf ([] : List Value).toArray kn) :: (tkl, PySem.W.listOf ([] : List Value).toArray 0) :: (opn, PySem.W.listOf ([] : List Value).toArray 0) :: (l, PySem.W.listOf svs.toArray 0) ::
        (sg, instObj 269 sd) :: (sd, sdO) :: (en, oe) :: (kd, instObj 513 kdd) :: (kdd, kdO) :: ([] ++ own1)) [b] := by
      refine offC (offC (offC (offC (offC (offC (offC (offC (offC (by simpa using hoff1) ?_) ?_) ?_) ?_) ?_) ?_) ?_) ?_) ?_ <;> exact Nat.ne_of_gt (by show @LT.lt Nat _ _ _; kpa_ne)
    refine draw_B K0 F6 KX NK T hb1 (by kpa_ne) (by ktr_room) (by ktr_units) lo hbc hoffK hI8 hcn (by decide) (by decide) ?_
    intro r tr h7 tk7 ob2 r0' r1' F7 N7 hb2
    obtain ⟨kk, rfl⟩ := Int.eq_ofNat_of_zero_le r0'
    clear NK hoffK F6
    (repeat' (first | (k_unfold; (try dsimp only)) | (k_end; wrow_close) | ((with_reducible show wpAny _ _ (eval (PySem.Expr.IfExp (PySem.Expr.Compare _ _ _ _) _ _ _) _) _ _ _); refine here_mark ?_) | ((with_reducible show wpAny _ _ (exec (Stmt.If (PySem.Expr.Name _ _) _ _ _) _) _ _ _); refine here_mark ?_) | ((with_reducible show wpAny _ _ (exec (Stmt.If (PySem.Expr.Compare (PySem.Expr.Call (PySem.Expr.Name _ _) _ _ _) _ _ _) _ _ _) _) _ _ _); refine here_mark ?_) | ((with_reducible show wpAny _ _ (subscriptTail _ _ (Value.ref _) (Value.int 2 _)) _ _ _); k_dflt (refine item_tupleT (by exact News.isTup (by k_asm) (by k_mem)) (by decide) (by decide) (by rfl) (by rfl) ?_; k_whole)) | ((with_reducible show wpAny _ _ (eval (PySem.Expr.ListComp (PySem.Expr.Name _ _) _ _ _) _) _ _ _); refine here_mark ?_) | ((with_reducible show wpAny _ _ (compareOp CmpOp.NotEq (Value.ref _) (Value.ref _)) _ _ _); (refine here_mark ?_)) | ((with_reducible show wpAny _ _ (exec (Stmt.If (PySem.Expr.BoolOp _ _ _) _ _ _) _) _ _ _); refine here_mark ?_) | ((with_reducible show wpAny _ _ (binaryOp _ (Value.str _ _) (Value.str _ _)) _ _ _); (k_dflt (first | (with_reducible refine add_alias (by with_reducible assumption) ?_; intro _ _) | (with_reducible refine add_word (by with_reducible assumption) (by with_reducible assumption) ?_; intro _ _)))) | ((with_reducible show wpAny _ _ (subscriptTail _ _ (Value.ref 517) (Value.int _ _)) _ _ _); k_dflt (refine word_at (by k_asm) (by with_reducible assumption) (by assumption) (by assumption) ?_ (by (intro _ _; with_unfolding_all rfl))); intro _ _ _) | ((with_reducible show wpAny _ _ (subscriptTail _ _ (Value.ref 516) (Value.int _ _)) _ _ _); k_dflt (refine alias_at (by k_asm) (by with_reducible assumption) (by assumption) (by assumption) ?_ (by (intro _ _; with_unfolding_all rfl))); intro _ _ _) | ((with_reducible show wpAny _ _ (subscriptTail _ _ (Value.ref _) (Value.int 1 _)) _ _ _); k_dflt (refine item_tupleT (by exact News.isTup (by k_asm) (by k_mem)) (by decide) (by decide) (by rfl) (by rfl) ?_; k_whole)) | ((with_reducible show wpAny _ _ (compareOp CmpOp.NotEq (Value.int _ _) (Value.int _ _)) _ _ _); (k_dflt (refine ne_int_same ?_))) | ((with_reducible show wpAny _ _ (call (Value.type _) [Value.ref _]) _ _ _); k_dflt (refine copy_list (by k_asm) (by k_asm) (by k_mem) (by assumption) ?_); intro _ _ _ _ _ q09; (try k_lt q09); revert q09; intro _) | ((with_reducible show wpAny _ _ (call (Value.builtin "list.append") _) _ _ _); (k_dflt (refine append_any (by k_asm) (by k_asm) (by k_updF) (by first | assumption | kpa_ne) ?_); intro _ _ q09; (try dsimp only at q09); revert q09; intro _)) | ((with_reducible show wpAny _ _ (subscriptTail _ _ (Value.ref _) (Value.int _ _)) _ _ _); k_dflt (refine item_any (by k_asm) (by k_mem) (by assumption) (by kpa_ne) (by assumption) ?_ (by with_unfolding_all rfl) (by kmk_pure))) | ((with_reducible show wpAny _ _ (call (Value.builtin "len") _) _ _ _); (k_dflt (refine len_any (by k_asm) (by k_mem) (by assumption) ?_))) | ((first | (with_reducible show wpAny _ _ (call (Value.ref 531) _) _ _ _) | (with_reducible show wpAny _ _ (call (Value.ref 524) _) _ _ _) | (with_reducible show wpAny _ _ (call (Value.ref 269) _) _ _ _) | (with_reducible show wpAny _ _ (call (Value.ref 513) _) _ _ _) | (with_reducible show wpAny _ _ (call (Value.ref 538) _) _ _ _) | (with_reducible show wpAny _ _ (call (Value.ref 550) _) _ _ _) | (with_reducible show wpAny _ _ (call (Value.ref 562) _) _ _ _) | (with_reducible show wpAny _ _ (call (Value.ref 545) _) _ _ _) | (with_reducible show wpAny _ _ (call (Value.ref 475) _) _ _ _) | (with_reducible show wpAny _ _ (call (Value.ref 555) _) _ _ _) | (with_reducible show wpAny _ _ (call (Value.ref 569) _) _ _ _)); refine here_mark ?_) | ((with_reducible show wpAny _ _ (call (Value.type "range") _) _ _ _); (k_dflt (refine range_N (by k_asm) (by k_asm) ?_); intro _ _ _ _ _ _ _ q09; (try k_lt q09); revert q09; intro _)) | ((with_reducible show wpAny _ _ (exec (Stmt.For _ _ _ _ _) _) _ _ _); (k_dflt (refine For_own (by k_asm) (by rfl) (by rfl) ?_))) | ((with_reducible show wpAny _ _ (pyIter (Value.ref _)) _ _ _); (refine here_mark ?_)) | ((with_reducible show wpAny _ _ (eval (PySem.Expr.Dict [] [] _) _) _ _ _); (k_dflt (refine newDict_K (by k_asm) (by k_asm) (by first | exact Top.nolimit (by k_asm) | exact Glob.nolimit (by k_asm)) ?_; k_whole); intro _ _ _ _ _ q09 _ _ _ _ _; (try k_lt q09); revert q09; intro _)) | walk1 | (dsimp only; walk1) | (leave1; walk_say "STEP leave1"; try dsimp only) | fail "no step"))
    change wpAny _ _ _ _ _ _
    rename_i rg ug vg h8 tk8 F8 N8 l8
    have hbl : @LT.lt Nat _ b l := hlt1a
    have hz_l_opn : @LT.lt Nat _ l opn := by kpa_ne
    have hz_opn_tkl : @LT.lt Nat _ opn tkl := by kpa_ne
    have hz_tkl_sd : @LT.lt Nat _ tkl sd := l2b.2.2.2.1
    have hz_sd_sg : @LT.lt Nat _ sd sg := l2c
    have hz_sg_en : @LT.lt Nat _ sg en := l2d
    have hz_en_op : @LT.lt Nat _ en op := l2e
    have hz_op_kdd : @LT.lt Nat _ op kdd := by kpa_ne
    have hz_kdd_kd : @LT.lt Nat _ kdd kd := lk2
    have hbopn : @LT.lt Nat _ b opn := Nat.lt_trans hbl hz_l_opn
    have hz_l_tkl : @LT.lt Nat _ l tkl := Nat.lt_trans hz_l_opn hz_opn_tkl
    have hz_opn_sd : @LT.lt Nat _ opn sd := Nat.lt_trans hz_opn_tkl hz_tkl_sd
    have hz_tkl_sg : @LT.lt Nat _ tkl sg := Nat.lt_trans hz_tkl_sd hz_sd_sg
    have hz_sd_en : @LT.lt Nat _ sd en := Nat.lt_trans hz_sd_sg hz_sg_en
    have hz_sg_op : @LT.lt Nat _ sg op := Nat.lt_trans hz_sg_en hz_en_op
    have hz_en_kdd : @LT.lt Nat _ en kdd := Nat.lt_trans hz_en_op hz_op_kdd
    have hz_op_kd : @LT.lt Nat _ op kd := Nat.lt_trans hz_op_kdd hz_kdd_kd
    have hbtk : @LT.lt Nat _ b tkl := Nat.lt_trans hbopn hz_opn_tkl
    have hz_l_sd : @LT.lt Nat _ l sd := Nat.lt_trans hz_l_tkl hz_tkl_sd
    have hz_opn_sg : @LT.lt Nat _ opn sg := Nat.lt_trans hz_opn_sd hz_sd_sg
    have hz_tkl_en : @LT.lt Nat _ tkl en := Nat.lt_trans hz_tkl_sg hz_sg_en
    have hz_sd_op : @LT.lt Nat _ sd op := Nat.lt_trans hz_sd_en hz_en_op
    have hz_sg_kdd : @LT.lt Nat _ sg kdd := Nat.lt_trans hz_sg_op hz_op_kdd
    have hz_en_kd : @LT.lt Nat _ en kd := Nat.lt_trans hz_en_kdd hz_kdd_kd
    have hbsd : @LT.lt Nat _ b sd := Nat.lt_trans hbtk hz_tkl_sd
    have hz_l_sg : @LT.lt Nat _ l sg := Nat.lt_trans hz_l_sd hz_sd_sg
    have hz_opn_en : @LT.lt Nat _ opn en := Nat.lt_trans hz_opn_sg hz_sg_en
    have hz_tkl_op : @LT.lt Nat _ tkl op := Nat.lt_trans hz_tkl_en hz_en_op
    have hz_sd_kdd : @LT.lt Nat _ sd kdd := Nat.lt_trans hz_sd_op hz_op_kdd
    have hz_sg_kd : @LT.lt Nat _ sg kd := Nat.lt_trans hz_sg_kdd hz_kdd_kd
    have hbsg : @LT.lt Nat _ b sg := Nat.lt_trans hbsd hz_sd_sg
    have hz_l_en : @LT.lt Nat _ l en := Nat.lt_trans hz_l_sg hz_sg_en
    have hz_opn_op : @LT.lt Nat _ opn op := Nat.lt_trans hz_opn_en hz_en_op
    have hz_tkl_kdd : @LT.lt Nat _ tkl kdd := Nat.lt_trans hz_tkl_op hz_op_kdd
    have hz_sd_kd : @LT.lt Nat _ sd kd := Nat.lt_trans hz_sd_kdd hz_kdd_kd
    have hben : @LT.lt Nat _ b en := Nat.lt_trans hbsg hz_sg_en
    have hz_l_op : @LT.lt Nat _ l op := Nat.lt_trans hz_l_en hz_en_op
    have hz_opn_kdd : @LT.lt Nat _ opn kdd := Nat.lt_trans hz_opn_op hz_op_kdd
    have hz_tkl_kd : @LT.lt Nat _ tkl kd := Nat.lt_trans hz_tkl_kdd hz_kdd_kd
    have hbop : @LT.lt Nat _ b op := Nat.lt_trans hben hz_en_op
    have hz_l_kdd : @LT.lt Nat _ l kdd := Nat.lt_trans hz_l_op hz_op_kdd
    have hz_opn_kd : @LT.lt Nat _ opn kd := Nat.lt_trans hz_opn_kdd hz_kdd_kd
    have hbkd : @LT.lt Nat _ b kdd := Nat.lt_trans hbop hz_op_kdd
    have hz_l_kd : @LT.lt Nat _ l kd := Nat.lt_trans hz_l_kdd hz_kdd_kd
    have hbk : @LT.lt Nat _ b kd := Nat.lt_trans hbkd hz_kdd_kd
    have hbrg : @LT.lt Nat _ b rg := l8.1
    have e1k : (1 + (kk : Int)) = ((kk + 1 : Nat) : Int) := by kpa_ne
    rw [e1k] at N8
    refine inv_gen (fun (i : Nat) (z : Option Value × Option Value × Option Value × Option Value × Option Value) (nw : List (Addr × Obj)) => ∀ CC : Prop, (∀ ob' ovs ko tvs kt dvs kd' os ds nws, (nw = (b, ob') :: (c, PySem.W.listOf ys.toArray ys.length) :: (op, PySem.W.listOf ovs.toArray ko) :: (tkl, PySem.W.listOf tvs.toArray kt) :: (opn, PySem.W.listOf dvs.toArray kd') :: (l, PySem.W.listOf svs.toArray 0) :: (sg, instObj 269 sd) :: (sd, sdO) :: (en, oe) :: (kd, instObj 513 kdd) :: (kdd, kdO) :: (nws ++ own1)) → (BellTo w ob' c (3 + 9 * i)) → (PairsAt nws ovs os) → (PairsAt nws tvs os) → (OsOk os) → (All2 (OpenV nws) dvs ds) → ((∀ d ∈ ds, d.Ok ∧ 0 < d.spot ∧ d.spot < 1000)) → (ds.length = i) → (os.length ≤ i) → ((∀ p ∈ nws, @LT.lt Nat _ kd p.1)) → CC) → CC) ?_
    intro J hJ
    refine for_rangeZ mk5 J
      _ (by rfl) (by kpa_ne) F8 N8 mk5_self (of_inv hJ fun CC kQ9 => kQ9 ob2 [] kn [] 0 [] 0 [] [] [] rfl (hb2.mono (by kpa_ne)) trivial trivial (fun _ h => nomatch h) trivial (fun _ h => nomatch h) rfl (Nat.le_refl _) (fun _ h => nomatch h)) ?_ ?_
    · rintro i tv ⟨z1, z2, z3, z4, z5⟩ nw h9 tk9 I oI hI hi hJ1 off F9 N9
      refine abs_both fun TT EE hTT => ?_
      refine to_inv hJ hJ1 _ ?_; rintro ob3 ovs ko tvs kt dvs kd' os ds nws rfl hb3 hps hqs hos hds hdok hdl hol hgt
      clear hJ1
      clear N8 F8
      unfold mk5 at F9
      dsimp only at F9
      have hib : @Ne Nat I b := fun z => off (b, ob3) (.head _) z.symm
      have hi8 : i < 9 := by kpa_ne
      (repeat' (first | (k_unfold; (try dsimp only)) | (k_end; wrow_close) | ((with_reducible show wpAny _ _ (eval (PySem.Expr.IfExp (PySem.Expr.Compare _ _ _ _) _ _ _) _) _ _ _); refine here_mark ?_) | ((with_reducible show wpAny _ _ (exec (Stmt.If (PySem.Expr.Name _ _) _ _ _) _) _ _ _); refine here_mark ?_) | ((with_reducible show wpAny _ _ (exec (Stmt.If (PySem.Expr.Compare (PySem.Expr.Call (PySem.Expr.Name _ _) _ _ _) _ _ _) _ _ _) _) _ _ _); refine here_mark ?_) | ((with_reducible show wpAny _ _ (subscriptTail _ _ (Value.ref _) (Value.int 2 _)) _ _ _); k_dflt (refine item_tupleT (by exact News.isTup (by k_asm) (by k_mem)) (by decide) (by decide) (by rfl) (by rfl) ?_; k_whole)) | ((with_reducible show wpAny _ _ (eval (PySem.Expr.ListComp (PySem.Expr.Name _ _) _ _ _) _) _ _ _); refine here_mark ?_) | ((with_reducible show wpAny _ _ (compareOp CmpOp.NotEq (Value.ref _) (Value.ref _)) _ _ _); (refine here_mark ?_)) | ((with_reducible show wpAny _ _ (exec (Stmt.If (PySem.Expr.BoolOp _ _ _) _ _ _) _) _ _ _); refine here_mark ?_) | ((with_reducible show wpAny _ _ (binaryOp _ (Value.str _ _) (Value.str _ _)) _ _ _); (k_dflt (first | (with_reducible refine add_alias (by with_reducible assumption) ?_; intro _ _) | (with_reducible refine add_word (by with_reducible assumption) (by with_reducible assumption) ?_; intro _ _)))) | ((with_reducible show wpAny _ _ (subscriptTail _ _ (Value.ref 517) (Value.int _ _)) _ _ _); k_dflt (refine word_at (by k_asm) (by with_reducible assumption) (by assumption) (by assumption) ?_ (by (intro _ _; with_unfolding_all rfl))); intro _ _ _) | ((with_reducible show wpAny _ _ (subscriptTail _ _ (Value.ref 516) (Value.int _ _)) _ _ _); k_dflt (refine alias_at (by k_asm) (by with_reducible assumption) (by assumption) (by assumption) ?_ (by (intro _ _; with_unfolding_all rfl))); intro _ _ _) | ((with_reducible show wpAny _ _ (subscriptTail _ _ (Value.ref _) (Value.int 1 _)) _ _ _); k_dflt (refine item_tupleT (by exact News.isTup (by k_asm) (by k_mem)) (by decide) (by decide) (by rfl) (by rfl) ?_; k_whole)) | ((with_reducible show wpAny _ _ (compareOp CmpOp.NotEq (Value.int _ _) (Value.int _ _)) _ _ _); (k_dflt (refine ne_int_same ?_))) | ((with_reducible show wpAny _ _ (call (Value.type _) [Value.ref _]) _ _ _); k_dflt (refine copy_list (by k_asm) (by k_asm) (by k_mem) (by assumption) ?_); intro _ _ _ _ _ q09; (try k_lt q09); revert q09; intro _) | ((with_reducible show wpAny _ _ (call (Value.builtin "list.append") _) _ _ _); (k_dflt (refine append_any (by k_asm) (by k_asm) (by k_updF) (by first | assumption | kpa_ne) ?_); intro _ _ q09; (try dsimp only at q09); revert q09; intro _)) | ((with_reducible show wpAny _ _ (subscriptTail _ _ (Value.ref _) (Value.int _ _)) _ _ _); k_dflt (refine item_any (by k_asm) (by k_mem) (by assumption) (by kpa_ne) (by assumption) ?_ (by with_unfolding_all rfl) (by kmk_pure))) | ((with_reducible show wpAny _ _ (call (Value.builtin "len") _) _ _ _); (k_dflt (refine len_any (by k_asm) (by k_mem) (by assumption) ?_))) | ((first | (with_reducible show wpAny _ _ (call (Value.ref 531) _) _ _ _) | (with_reducible show wpAny _ _ (call (Value.ref 524) _) _ _ _) | (with_reducible show wpAny _ _ (call (Value.ref 269) _) _ _ _) | (with_reducible show wpAny _ _ (call (Value.ref 513) _) _ _ _) | (with_reducible show wpAny _ _ (call (Value.ref 538) _) _ _ _) | (with_reducible show wpAny _ _ (call (Value.ref 550) _) _ _ _) | (with_reducible show wpAny _ _ (call (Value.ref 562) _) _ _ _) | (with_reducible show wpAny _ _ (call (Value.ref 545) _) _ _ _) | (with_reducible show wpAny _ _ (call (Value.ref 475) _) _ _ _) | (with_reducible show wpAny _ _ (call (Value.ref 555) _) _ _ _) | (with_reducible show wpAny _ _ (call (Value.ref 569) _) _ _ _)); refine here_mark ?_) | ((with_reducible show wpAny _ _ (call (Value.type "range") _) _ _ _); (k_dflt (refine range_N (by k_asm) (by k_asm) ?_); intro _ _ _ _ _ _ _ q09; (try k_lt q09); revert q09; intro _)) | ((with_reducible show wpAny _ _ (exec (Stmt.For _ _ _ _ _) _) _ _ _); (k_dflt (refine For_own (by k_asm) (by rfl) (by rfl) ?_))) | ((with_reducible show wpAny _ _ (pyIter (Value.ref _)) _ _ _); (refine here_mark ?_)) | ((with_reducible show wpAny _ _ (eval (PySem.Expr.Dict [] [] _) _) _ _ _); (k_dflt (refine newDict_K (by k_asm) (by k_asm) (by first | exact Top.nolimit (by k_asm) | exact Glob.nolimit (by k_asm)) ?_; k_whole); intro _ _ _ _ _ q09 _ _ _ _ _; (try k_lt q09); revert q09; intro _)) | walk1 | (dsimp only; walk1) | (leave1; walk_say "STEP leave1"; try dsimp only) | fail "no step"))
      change wpAny _ _ _ _ _ _
      have hoffT : OwnOff ((l, PySem.W.listOf svs.toArray 0) :: (sg, instObj 269 sd) :: (sd, sdO) :: (en, oe) :: (kd, instObj 513 kdd) :: (kdd, kdO) :: (nws ++ own1)) [b] := by
        refine offC (offC (offC (offC (offC (offC (offA hoff1 fun p hp => Nat.lt_trans hbk (hgt p hp)) ?_) ?_) ?_) ?_) ?_) ?_ <;> exact Nat.ne_of_gt (by assumption)
      have hoffO : OwnOff ((I, oI) :: (rg, rngO ((kk + 1 : Nat) : Int) ug tk7 vg) :: (op, PySem.W.listOf ovs.toArray ko) :: (tkl, PySem.W.listOf tvs.toArray kt) :: (opn, PySem.W.listOf dvs.toArray kd') :: (l, PySem.W.listOf svs.toArray 0) :: (sg, instObj 269 sd) :: (sd, sdO) :: (en, oe) :: (kd, instObj 513 kdd) :: (kdd, kdO) :: (nws ++ own1)) [b] :=
        offC (offC (offC (offC (offC hoffT (Nat.ne_of_gt hbopn)) (Nat.ne_of_gt hbtk)) (Nat.ne_of_gt hbop)) (Nat.ne_of_gt hbrg)) hib
      have N10 : News s₁.heap s₁.heap.objs.size h9 ((b, ob3) :: (c, PySem.W.listOf ys.toArray ys.length) :: (I, oI) :: (rg, rngO ((kk + 1 : Nat) : Int) ug tk7 vg) :: (op, PySem.W.listOf ovs.toArray ko) :: (tkl, PySem.W.listOf tvs.toArray kt) :: (opn, PySem.W.listOf dvs.toArray kd') :: (l, PySem.W.listOf svs.toArray 0) :: (sg, instObj 269 sd) :: (sd, sdO) :: (en, oe) :: (kd, instObj 513 kdd) :: (kdd, kdO) :: (nws ++ own1)) := N9.perm (by
        iterate 13 refine List.forall_mem_cons.mpr ⟨by repeat (first | exact .head _ | apply List.mem_cons_of_mem), ?_⟩
        intro p hp
        repeat (first | exact hp | apply List.mem_cons_of_mem))
      clear N9
      refine open_spec K0 (by k_asm) KX N10 T hb3 (by kpa_ne) (by ktr_room) (by ktr_units) lo hbc hoffO hI8 hcn ?_
      intro ai aa avs args module alias u1 u2 u3 ob4 h10 tk10 F10 N11 hargs hok hb4 l10
      clear N10
      obtain ⟨l10a, l10b, l10c, l10d⟩ := l10
      have l10i : @LT.lt Nat _ I aa := l10d.1
      have l10k : @LT.lt Nat _ kd aa := l10d.2.2.2.2.2.2.2.2.2.1
      (repeat' (first | (k_unfold; (try dsimp only)) | (k_end; wrow_close) | ((with_reducible show wpAny _ _ (eval (PySem.Expr.IfExp (PySem.Expr.Compare _ _ _ _) _ _ _) _) _ _ _); refine here_mark ?_) | ((with_reducible show wpAny _ _ (exec (Stmt.If (PySem.Expr.Name _ _) _ _ _) _) _ _ _); refine here_mark ?_) | ((with_reducible show wpAny _ _ (exec (Stmt.If (PySem.Expr.Compare (PySem.Expr.Call (PySem.Expr.Name _ _) _ _ _) _ _ _) _ _ _) _) _ _ _); refine here_mark ?_) | ((with_reducible show wpAny _ _ (subscriptTail _ _ (Value.ref _) (Value.int 2 _)) _ _ _); k_dflt (refine item_tupleT (by exact News.isTup (by k_asm) (by k_mem)) (by decide) (by decide) (by rfl) (by rfl) ?_; k_whole)) | ((with_reducible show wpAny _ _ (eval (PySem.Expr.ListComp (PySem.Expr.Name _ _) _ _ _) _) _ _ _); refine here_mark ?_) | ((with_reducible show wpAny _ _ (compareOp CmpOp.NotEq (Value.ref _) (Value.ref _)) _ _ _); (refine here_mark ?_)) | ((with_reducible show wpAny _ _ (exec (Stmt.If (PySem.Expr.BoolOp _ _ _) _ _ _) _) _ _ _); refine here_mark ?_) | ((with_reducible show wpAny _ _ (binaryOp _ (Value.str _ _) (Value.str _ _)) _ _ _); (k_dflt (first | (with_reducible refine add_alias (by with_reducible assumption) ?_; intro _ _) | (with_reducible refine add_word (by with_reducible assumption) (by with_reducible assumption) ?_; intro _ _)))) | ((with_reducible show wpAny _ _ (subscriptTail _ _ (Value.ref 517) (Value.int _ _)) _ _ _); k_dflt (refine word_at (by k_asm) (by with_reducible assumption) (by assumption) (by assumption) ?_ (by (intro _ _; with_unfolding_all rfl))); intro _ _ _) | ((with_reducible show wpAny _ _ (subscriptTail _ _ (Value.ref 516) (Value.int _ _)) _ _ _); k_dflt (refine alias_at (by k_asm) (by with_reducible assumption) (by assumption) (by assumption) ?_ (by (intro _ _; with_unfolding_all rfl))); intro _ _ _) | ((with_reducible show wpAny _ _ (subscriptTail _ _ (Value.ref _) (Value.int 1 _)) _ _ _); k_dflt (refine item_tupleT (by exact News.isTup (by k_asm) (by k_mem)) (by decide) (by decide) (by rfl) (by rfl) ?_; k_whole)) | ((with_reducible show wpAny _ _ (compareOp CmpOp.NotEq (Value.int _ _) (Value.int _ _)) _ _ _); (k_dflt (refine ne_int_same ?_))) | ((with_reducible show wpAny _ _ (call (Value.type _) [Value.ref _]) _ _ _); k_dflt (refine copy_list (by k_asm) (by k_asm) (by k_mem) (by assumption) ?_); intro _ _ _ _ _ q09; (try k_lt q09); revert q09; intro _) | ((with_reducible show wpAny _ _ (call (Value.builtin "list.append") _) _ _ _); (k_dflt (refine append_any (by k_asm) (by k_asm) (by k_updF) (by first | assumption | kpa_ne) ?_); intro _ _ q09; (try dsimp only at q09); revert q09; intro _)) | ((with_reducible show wpAny _ _ (subscriptTail _ _ (Value.ref _) (Value.int _ _)) _ _ _); k_dflt (refine item_any (by k_asm) (by k_mem) (by assumption) (by kpa_ne) (by assumption) ?_ (by with_unfolding_all rfl) (by kmk_pure))) | ((with_reducible show wpAny _ _ (call (Value.builtin "len") _) _ _ _); (k_dflt (refine len_any (by k_asm) (by k_mem) (by assumption) ?_))) | ((first | (with_reducible show wpAny _ _ (call (Value.ref 531) _) _ _ _) | (with_reducible show wpAny _ _ (call (Value.ref 524) _) _ _ _) | (with_reducible show wpAny _ _ (call (Value.ref 269) _) _ _ _) | (with_reducible show wpAny _ _ (call (Value.ref 513) _) _ _ _) | (with_reducible show wpAny _ _ (call (Value.ref 538) _) _ _ _) | (with_reducible show wpAny _ _ (call (Value.ref 550) _) _ _ _) | (with_reducible show wpAny _ _ (call (Value.ref 562) _) _ _ _) | (with_reducible show wpAny _ _ (call (Value.ref 545) _) _ _ _) | (with_reducible show wpAny _ _ (call (Value.ref 475) _) _ _ _) | (with_reducible show wpAny _ _ (call (Value.ref 555) _) _ _ _) | (with_reducible show wpAny _ _ (call (Value.ref 569) _) _ _ _)); refine here_mark ?_) | ((with_reducible show wpAny _ _ (call (Value.type "range") _) _ _ _); (k_dflt (refine range_N (by k_asm) (by k_asm) ?_); intro _ _ _ _ _ _ _ q09; (try k_lt q09); revert q09; intro _)) | ((with_reducible show wpAny _ _ (exec (Stmt.For _ _ _ _ _) _) _ _ _); (k_dflt (refine For_own (by k_asm) (by rfl) (by rfl) ?_))) | ((with_reducible show wpAny _ _ (pyIter (Value.ref _)) _ _ _); (refine here_mark ?_)) | ((with_reducible show wpAny _ _ (eval (PySem.Expr.Dict [] [] _) _) _ _ _); (k_dflt (refine newDict_K (by k_asm) (by k_asm) (by first | exact Top.nolimit (by k_asm) | exact Glob.nolimit (by k_asm)) ?_; k_whole); intro _ _ _ _ _ q09 _ _ _ _ _; (try k_lt q09); revert q09; intro _)) | walk1 | (dsimp only; walk1) | (leave1; walk_say "STEP leave1"; try dsimp only) | fail "no step"))
      change wpAny _ _ _ _ _ _
      rename_i h11 F11 N12
      have hov : OpenV ((ai, tupO [.str (Str.ofString "open") u1, .int (100 + 10 * (i : Int)) (tk9 + 1 + 1 + 1), .str module u2, .ref aa, .str alias u3]) :: (aa, tupO avs) :: nws) (.ref ai) ⟨100 + 10 * (i : Int), module, args, alias⟩ :=
        ⟨ai, aa, u1, _, u2, u3, avs, rfl, .head _, .tail _ (.head _), hargs⟩
      have hdl2 : dvs.length = ds.length := hds.length
      have hnI : ∀ p ∈ (ai, tupO [.str (Str.ofString "open") u1, .int (100 + 10 * (i : Int)) (tk9 + 1 + 1 + 1), .str module u2, .ref aa, .str alias u3]) :: (aa, tupO avs) :: nws, @Ne Nat p.1 I ∧ @LT.lt Nat _ kd p.1 := by
        refine List.forall_mem_cons.mpr ⟨⟨Nat.ne_of_gt (Nat.lt_trans l10i l10a), Nat.lt_trans l10k l10a⟩, List.forall_mem_cons.mpr ⟨⟨Nat.ne_of_gt l10i, l10k⟩, fun p hp => ⟨off p ?_, hgt p hp⟩⟩⟩
        exact .tail _ (.tail _ (.tail _ (.tail _ (.tail _ (.tail _ (.tail _ (.tail _ (.tail _ (.tail _ (.tail _ (List.mem_append.mpr (.inl hp))))))))))))
      refine inv_gen (fun (m : Str → Option Value) (s0 : Shared) (f : Flow) (s' : Shared) => ∀ CC : Prop, ((f = .next) → ∀ h' tk' ob' v d nws', (s' = { s0 with heap := h', toks := tk' }) → (Fr s₁.heap s₁.heap.objs.size h' (fun y => if y = Str.ofString "item" then some v else m y)) → (News s₁.heap s₁.heap.objs.size h' ((b, ob') :: (c, PySem.W.listOf ys.toArray ys.length) :: (I, oI) :: (rg, rngO ((kk + 1 : Nat) : Int) ug tk7 vg) :: (op, PySem.W.listOf ovs.toArray ko) :: (tkl, PySem.W.listOf tvs.toArray kt) :: (opn, PySem.W.listOf dvs.toArray kd') :: (l, PySem.W.listOf svs.toArray 0) :: (sg, instObj 269 sd) :: (sd, sdO) :: (en, oe) :: (kd, instObj 513 kdd) :: (kdd, kdO) :: (nws' ++ own1))) → (BellTo w ob' c (3 + 9 * i + 6)) → (OpenV nws' v d) → ((d.Ok ∧ 0 < d.spot ∧ d.spot < 1000)) → ((∀ p ∈ nws, p ∈ nws')) → ((∀ p ∈ nws', @Ne Nat p.1 I ∧ @LT.lt Nat _ kd p.1)) → CC) → CC) ?_
      intro P1 hP1
      refine cut_at F11 (fun m s0 f s' => Here (P1 m s0 f s')) ?_ ?_
      · refine wpAny_If ?_
        (repeat' (first | (k_unfold; (try dsimp only)) | (k_end; wrow_close) | ((with_reducible show wpAny _ _ (eval (PySem.Expr.IfExp (PySem.Expr.Compare _ _ _ _) _ _ _) _) _ _ _); refine here_mark ?_) | ((with_reducible show wpAny _ _ (exec (Stmt.If (PySem.Expr.Name _ _) _ _ _) _) _ _ _); refine here_mark ?_) | ((with_reducible show wpAny _ _ (exec (Stmt.If (PySem.Expr.Compare (PySem.Expr.Call (PySem.Expr.Name _ _) _ _ _) _ _ _) _ _ _) _) _ _ _); refine here_mark ?_) | ((with_reducible show wpAny _ _ (subscriptTail _ _ (Value.ref _) (Value.int 2 _)) _ _ _); k_dflt (refine item_tupleT (by exact News.isTup (by k_asm) (by k_mem)) (by decide) (by decide) (by rfl) (by rfl) ?_; k_whole)) | ((with_reducible show wpAny _ _ (eval (PySem.Expr.ListComp (PySem.Expr.Name _ _) _ _ _) _) _ _ _); refine here_mark ?_) | ((with_reducible show wpAny _ _ (compareOp CmpOp.NotEq (Value.ref _) (Value.ref _)) _ _ _); (refine here_mark ?_)) | ((with_reducible show wpAny _ _ (exec (Stmt.If (PySem.Expr.BoolOp _ _ _) _ _ _) _) _ _ _); refine here_mark ?_) | ((with_reducible show wpAny _ _ (binaryOp _ (Value.str _ _) (Value.str _ _)) _ _ _); (k_dflt (first | (with_reducible refine add_alias (by with_reducible assumption) ?_; intro _ _) | (with_reducible refine add_word (by with_reducible assumption) (by with_reducible assumption) ?_; intro _ _)))) | ((with_reducible show wpAny _ _ (subscriptTail _ _ (Value.ref 517) (Value.int _ _)) _ _ _); k_dflt (refine word_at (by k_asm) (by with_reducible assumption) (by assumption) (by assumption) ?_ (by (intro _ _; with_unfolding_all rfl))); intro _ _ _) | ((with_reducible show wpAny _ _ (subscriptTail _ _ (Value.ref 516) (Value.int _ _)) _ _ _); k_dflt (refine alias_at (by k_asm) (by with_reducible assumption) (by assumption) (by assumption) ?_ (by (intro _ _; with_unfolding_all rfl))); intro _ _ _) | ((with_reducible show wpAny _ _ (subscriptTail _ _ (Value.ref _) (Value.int 1 _)) _ _ _); k_dflt (refine item_tupleT (by exact News.isTup (by k_asm) (by k_mem)) (by decide) (by decide) (by rfl) (by rfl) ?_; k_whole)) | ((with_reducible show wpAny _ _ (compareOp CmpOp.NotEq (Value.int _ _) (Value.int _ _)) _ _ _); (k_dflt (refine ne_int_same ?_))) | ((with_reducible show wpAny _ _ (call (Value.type _) [Value.ref _]) _ _ _); k_dflt (refine copy_list (by k_asm) (by k_asm) (by k_mem) (by assumption) ?_); intro _ _ _ _ _ q09; (try k_lt q09); revert q09; intro _) | ((with_reducible show wpAny _ _ (call (Value.builtin "list.append") _) _ _ _); (k_dflt (refine append_any (by k_asm) (by k_asm) (by k_updF) (by first | assumption | kpa_ne) ?_); intro _ _ q09; (try dsimp only at q09); revert q09; intro _)) | ((with_reducible show wpAny _ _ (subscriptTail _ _ (Value.ref _) (Value.int _ _)) _ _ _); k_dflt (refine item_any (by k_asm) (by k_mem) (by assumption) (by kpa_ne) (by assumption) ?_ (by with_unfolding_all rfl) (by kmk_pure))) | ((with_reducible show wpAny _ _ (call (Value.builtin "len") _) _ _ _); (k_dflt (refine len_any (by k_asm) (by k_mem) (by assumption) ?_))) | ((first | (with_reducible show wpAny _ _ (call (Value.ref 531) _) _ _ _) | (with_reducible show wpAny _ _ (call (Value.ref 524) _) _ _ _) | (with_reducible show wpAny _ _ (call (Value.ref 269) _) _ _ _) | (with_reducible show wpAny _ _ (call (Value.ref 513) _) _ _ _) | (with_reducible show wpAny _ _ (call (Value.ref 538) _) _ _ _) | (with_reducible show wpAny _ _ (call (Value.ref 550) _) _ _ _) | (with_reducible show wpAny _ _ (call (Value.ref 562) _) _ _ _) | (with_reducible show wpAny _ _ (call (Value.ref 545) _) _ _ _) | (with_reducible show wpAny _ _ (call (Value.ref 475) _) _ _ _) | (with_reducible show wpAny _ _ (call (Value.ref 555) _) _ _ _) | (with_reducible show wpAny _ _ (call (Value.ref 569) _) _ _ _)); refine here_mark ?_) | ((with_reducible show wpAny _ _ (call (Value.type "range") _) _ _ _); (k_dflt (refine range_N (by k_asm) (by k_asm) ?_); intro _ _ _ _ _ _ _ q09; (try k_lt q09); revert q09; intro _)) | ((with_reducible show wpAny _ _ (exec (Stmt.For _ _ _ _ _) _) _ _ _); (k_dflt (refine For_own (by k_asm) (by rfl) (by rfl) ?_))) | ((with_reducible show wpAny _ _ (pyIter (Value.ref _)) _ _ _); (refine here_mark ?_)) | ((with_reducible show wpAny _ _ (eval (PySem.Expr.Dict [] [] _) _) _ _ _); (k_dflt (refine newDict_K (by k_asm) (by k_asm) (by first | exact Top.nolimit (by k_asm) | exact Glob.nolimit (by k_asm)) ?_; k_whole); intro _ _ _ _ _ q09 _ _ _ _ _; (try k_lt q09); revert q09; intro _)) | walk1 | (dsimp only; walk1) | (leave1; walk_say "STEP leave1"; try dsimp only) | fail "no step"))
        change wpAny _ _ _ _ _ _
        rename_i l0 hx8 F12 N13 l11
        have hd0 : (⟨100 + 10 * (i : Int), module, args, alias⟩ : OpD).Ok ∧ 0 < (100 + 10 * (i : Int)) ∧ (100 + 10 * (i : Int)) < 1000 := ⟨hok, bl5 hi8, bl6 hi8⟩
        have fin0 : ∀ h' obx, News s₁.heap s₁.heap.objs.size h' ((b, obx) :: (c, PySem.W.listOf ys.toArray ys.length) :: (l0, PySem.W.listOf #[] 0) :: (ai, tupO [.str (Str.ofString "open") u1, .int (100 + 10 * (i : Int)) (tk9 + 1 + 1 + 1), .str module u2, .ref aa, .str alias u3]) :: (aa, tupO avs) :: (I, oI) :: (rg, rngO ((kk + 1 : Nat) : Int) ug tk7 vg) :: (op, PySem.W.listOf ovs.toArray ko) :: (tkl, PySem.W.listOf tvs.toArray kt) :: (opn, PySem.W.listOf dvs.toArray kd') :: (l, PySem.W.listOf svs.toArray 0) :: (sg, instObj 269 sd) :: (sd, sdO) :: (en, oe) :: (kd, instObj 513 kdd) :: (kdd, kdO) :: (nws ++ own1)) →
            News s₁.heap s₁.heap.objs.size h' ((b, obx) :: (c, PySem.W.listOf ys.toArray ys.length) :: (I, oI) :: (rg, rngO ((kk + 1 : Nat) : Int) ug tk7 vg) :: (op, PySem.W.listOf ovs.toArray ko) :: (tkl, PySem.W.listOf tvs.toArray kt) :: (opn, PySem.W.listOf dvs.toArray kd') :: (l, PySem.W.listOf svs.toArray 0) :: (sg, instObj 269 sd) :: (sd, sdO) :: (en, oe) :: (kd, instObj 513 kdd) :: (kdd, kdO) :: (((ai, tupO [.str (Str.ofString "open") u1, .int (100 + 10 * (i : Int)) (tk9 + 1 + 1 + 1), .str module u2, .ref aa, .str alias u3]) :: (aa, tupO avs) :: nws) ++ own1)) := fun h' obx N => N.perm (by
          iterate 13 refine List.forall_mem_cons.mpr ⟨by repeat (first | exact .head _ | apply List.mem_cons_of_mem), ?_⟩
          refine List.forall_mem_cons.mpr ⟨.tail _ (.tail _ (.tail _ (.head _))), List.forall_mem_cons.mpr ⟨.tail _ (.tail _ (.tail _ (.tail _ (.head _)))), ?_⟩⟩
          intro p hp
          repeat (first | exact hp | apply List.mem_cons_of_mem))
        have N14 : News s₁.heap s₁.heap.objs.size hx8 ((b, ob4) :: (c, PySem.W.listOf ys.toArray ys.length) :: (l0, PySem.W.listOf #[] 0) :: (ai, tupO [.str (Str.ofString "open") u1, .int (100 + 10 * (i : Int)) (tk9 + 1 + 1 + 1), .str module u2, .ref aa, .str alias u3]) :: (aa, tupO avs) :: (I, oI) :: (rg, rngO ((kk + 1 : Nat) : Int) ug tk7 vg) :: (op, PySem.W.listOf ovs.toArray ko) :: (tkl, PySem.W.listOf tvs.toArray kt) :: (opn, PySem.W.listOf dvs.toArray kd') :: (l, PySem.W.listOf svs.toArray 0) :: (sg, instObj 269 sd) :: (sd, sdO) :: (en, oe) :: (kd, instObj 513 kdd) :: (kdd, kdO) :: (nws ++ own1)) := N13.perm (by
          iterate 16 refine List.forall_mem_cons.mpr ⟨by repeat (first | exact .head _ | apply List.mem_cons_of_mem), ?_⟩
          intro p hp
          repeat (first | exact hp | apply List.mem_cons_of_mem))
        clear N13
        have hnil : DatIn ((b, ob4) :: (c, PySem.W.listOf ys.toArray ys.length) :: (l0, PySem.W.listOf #[] 0) :: (ai, tupO [.str (Str.ofString "open") u1, .int (100 + 10 * (i : Int)) (tk9 + 1 + 1 + 1), .str module u2, .ref aa, .str alias u3]) :: (aa, tupO avs) :: (I, oI) :: (rg, rngO ((kk + 1 : Nat) : Int) ug tk7 vg) :: (op, PySem.W.listOf ovs.toArray ko) :: (tkl, PySem.W.listOf tvs.toArray kt) :: (opn, PySem.W.listOf dvs.toArray kd') :: (l, PySem.W.listOf svs.toArray 0) :: (sg, instObj 269 sd) :: (sd, sdO) :: (en, oe) :: (kd, instObj 513 kdd) :: (kdd, kdO) :: (nws ++ own1)) (.ref l0) (.list []) := .list (vs := []) (n := 0) (.tail _ (.tail _ (.head _))) .nil
        have hopn : DatIn ((b, ob4) :: (c, PySem.W.listOf ys.toArray ys.length) :: (l0, PySem.W.listOf #[] 0) :: (ai, tupO [.str (Str.ofString "open") u1, .int (100 + 10 * (i : Int)) (tk9 + 1 + 1 + 1), .str module u2, .ref aa, .str alias u3]) :: (aa, tupO avs) :: (I, oI) :: (rg, rngO ((kk + 1 : Nat) : Int) ug tk7 vg) :: (op, PySem.W.listOf ovs.toArray ko) :: (tkl, PySem.W.listOf tvs.toArray kt) :: (opn, PySem.W.listOf dvs.toArray kd') :: (l, PySem.W.listOf svs.toArray 0) :: (sg, instObj 269 sd) :: (sd, sdO) :: (en, oe) :: (kd, instObj 513 kdd) :: (kdd, kdO) :: (nws ++ own1)) (.ref opn) (.list (ds.map itemD)) :=
          .list (vs := dvs) (n := kd') (by repeat (first | exact .head _ | apply List.mem_cons_of_mem)) ((opens_in hds).mono fun p hp => by
            iterate 16 apply List.mem_cons_of_mem
            exact List.mem_append.mpr (.inl hp))
        have okD := opens_ok (fun d hd => (hdok d hd).1)
        by_cases hds0 : ds = []
        · subst hds0
          refine dat_same N14 hopn hnil okD (by ktr_units) ?_
          (repeat' (first | (k_unfold; (try dsimp only)) | (k_end; wrow_close) | ((with_reducible show wpAny _ _ (eval (PySem.Expr.IfExp (PySem.Expr.Compare _ _ _ _) _ _ _) _) _ _ _); refine here_mark ?_) | ((with_reducible show wpAny _ _ (exec (Stmt.If (PySem.Expr.Name _ _) _ _ _) _) _ _ _); refine here_mark ?_) | ((with_reducible show wpAny _ _ (exec (Stmt.If (PySem.Expr.Compare (PySem.Expr.Call (PySem.Expr.Name _ _) _ _ _) _ _ _) _ _ _) _) _ _ _); refine here_mark ?_) | ((with_reducible show wpAny _ _ (subscriptTail _ _ (Value.ref _) (Value.int 2 _)) _ _ _); k_dflt (refine item_tupleT (by exact News.isTup (by k_asm) (by k_mem)) (by decide) (by decide) (by rfl) (by rfl) ?_; k_whole)) | ((with_reducible show wpAny _ _ (eval (PySem.Expr.ListComp (PySem.Expr.Name _ _) _ _ _) _) _ _ _); refine here_mark ?_) | ((with_reducible show wpAny _ _ (compareOp CmpOp.NotEq (Value.ref _) (Value.ref _)) _ _ _); (refine here_mark ?_)) | ((with_reducible show wpAny _ _ (exec (Stmt.If (PySem.Expr.BoolOp _ _ _) _ _ _) _) _ _ _); refine here_mark ?_) | ((with_reducible show wpAny _ _ (binaryOp _ (Value.str _ _) (Value.str _ _)) _ _ _); (k_dflt (first | (with_reducible refine add_alias (by with_reducible assumption) ?_; intro _ _) | (with_reducible refine add_word (by with_reducible assumption) (by with_reducible assumption) ?_; intro _ _)))) | ((with_reducible show wpAny _ _ (subscriptTail _ _ (Value.ref 517) (Value.int _ _)) _ _ _); k_dflt (refine word_at (by k_asm) (by with_reducible assumption) (by assumption) (by assumption) ?_ (by (intro _ _; with_unfolding_all rfl))); intro _ _ _) | ((with_reducible show wpAny _ _ (subscriptTail _ _ (Value.ref 516) (Value.int _ _)) _ _ _); k_dflt (refine alias_at (by k_asm) (by with_reducible assumption) (by assumption) (by assumption) ?_ (by (intro _ _; with_unfolding_all rfl))); intro _ _ _) | ((with_reducible show wpAny _ _ (subscriptTail _ _ (Value.ref _) (Value.int 1 _)) _ _ _); k_dflt (refine item_tupleT (by exact News.isTup (by k_asm) (by k_mem)) (by decide) (by decide) (by rfl) (by rfl) ?_; k_whole)) | ((with_reducible show wpAny _ _ (compareOp CmpOp.NotEq (Value.int _ _) (Value.int _ _)) _ _ _); (k_dflt (refine ne_int_same ?_))) | ((with_reducible show wpAny _ _ (call (Value.type _) [Value.ref _]) _ _ _); k_dflt (refine copy_list (by k_asm) (by k_asm) (by k_mem) (by assumption) ?_); intro _ _ _ _ _ q09; (try k_lt q09); revert q09; intro _) | ((with_reducible show wpAny _ _ (call (Value.builtin "list.append") _) _ _ _); (k_dflt (refine append_any (by k_asm) (by k_asm) (by k_updF) (by first | assumption | kpa_ne) ?_); intro _ _ q09; (try dsimp only at q09); revert q09; intro _)) | ((with_reducible show wpAny _ _ (subscriptTail _ _ (Value.ref _) (Value.int _ _)) _ _ _); k_dflt (refine item_any (by k_asm) (by k_mem) (by assumption) (by kpa_ne) (by assumption) ?_ (by with_unfolding_all rfl) (by kmk_pure))) | ((with_reducible show wpAny _ _ (call (Value.builtin "len") _) _ _ _); (k_dflt (refine len_any (by k_asm) (by k_mem) (by assumption) ?_))) | ((first | (with_reducible show wpAny _ _ (call (Value.ref 531) _) _ _ _) | (with_reducible show wpAny _ _ (call (Value.ref 524) _) _ _ _) | (with_reducible show wpAny _ _ (call (Value.ref 269) _) _ _ _) | (with_reducible show wpAny _ _ (call (Value.ref 513) _) _ _ _) | (with_reducible show wpAny _ _ (call (Value.ref 538) _) _ _ _) | (with_reducible show wpAny _ _ (call (Value.ref 550) _) _ _ _) | (with_reducible show wpAny _ _ (call (Value.ref 562) _) _ _ _) | (with_reducible show wpAny _ _ (call (Value.ref 545) _) _ _ _) | (with_reducible show wpAny _ _ (call (Value.ref 475) _) _ _ _) | (with_reducible show wpAny _ _ (call (Value.ref 555) _) _ _ _) | (with_reducible show wpAny _ _ (call (Value.ref 569) _) _ _ _)); refine here_mark ?_) | ((with_reducible show wpAny _ _ (call (Value.type "range") _) _ _ _); (k_dflt (refine range_N (by k_asm) (by k_asm) ?_); intro _ _ _ _ _ _ _ q09; (try k_lt q09); revert q09; intro _)) | ((with_reducible show wpAny _ _ (exec (Stmt.For _ _ _ _ _) _) _ _ _); (k_dflt (refine For_own (by k_asm) (by rfl) (by rfl) ?_))) | ((with_reducible show wpAny _ _ (pyIter (Value.ref _)) _ _ _); (refine here_mark ?_)) | ((with_reducible show wpAny _ _ (eval (PySem.Expr.Dict [] [] _) _) _ _ _); (k_dflt (refine newDict_K (by k_asm) (by k_asm) (by first | exact Top.nolimit (by k_asm) | exact Glob.nolimit (by k_asm)) ?_; k_whole); intro _ _ _ _ _ q09 _ _ _ _ _; (try k_lt q09); revert q09; intro _)) | walk1 | (dsimp only; walk1) | (leave1; walk_say "STEP leave1"; try dsimp only) | fail "no step"))
          (show P1 _ _ _ _)
          exact of_inv4 hP1 (fun CC kQ9 => kQ9 rfl _ _ ob4 (.ref ai) _ _ rfl (item_frF (by k_asm) rfl) (fin0 _ _ N14) (hb4.mono (by kpa_ne)) hov hd0 (fun p hp => .tail _ (.tail _ hp)) hnI)
        · have hne0 : 0 < dvs.length := by rw [hdl2]; exact List.length_pos_iff.mpr hds0
          refine dat_diff N14 hopn hnil okD rfl (fun e => hds0 (by simpa using e)) (by ktr_units) ?_
          (repeat' (first | (k_unfold; (try dsimp only)) | (k_end; wrow_close) | ((with_reducible show wpAny _ _ (eval (PySem.Expr.IfExp (PySem.Expr.Compare _ _ _ _) _ _ _) _) _ _ _); refine here_mark ?_) | ((with_reducible show wpAny _ _ (exec (Stmt.If (PySem.Expr.Name _ _) _ _ _) _) _ _ _); refine here_mark ?_) | ((with_reducible show wpAny _ _ (exec (Stmt.If (PySem.Expr.Compare (PySem.Expr.Call (PySem.Expr.Name _ _) _ _ _) _ _ _) _ _ _) _) _ _ _); refine here_mark ?_) | ((with_reducible show wpAny _ _ (subscriptTail _ _ (Value.ref _) (Value.int 2 _)) _ _ _); k_dflt (refine item_tupleT (by exact News.isTup (by k_asm) (by k_mem)) (by decide) (by decide) (by rfl) (by rfl) ?_; k_whole)) | ((with_reducible show wpAny _ _ (eval (PySem.Expr.ListComp (PySem.Expr.Name _ _) _ _ _) _) _ _ _); refine here_mark ?_) | ((with_reducible show wpAny _ _ (compareOp CmpOp.NotEq (Value.ref _) (Value.ref _)) _ _ _); (refine here_mark ?_)) | ((with_reducible show wpAny _ _ (exec (Stmt.If (PySem.Expr.BoolOp _ _ _) _ _ _) _) _ _ _); refine here_mark ?_) | ((with_reducible show wpAny _ _ (binaryOp _ (Value.str _ _) (Value.str _ _)) _ _ _); (k_dflt (first | (with_reducible refine add_alias (by with_reducible assumption) ?_; intro _ _) | (with_reducible refine add_word (by with_reducible assumption) (by with_reducible assumption) ?_; intro _ _)))) | ((with_reducible show wpAny _ _ (subscriptTail _ _ (Value.ref 517) (Value.int _ _)) _ _ _); k_dflt (refine word_at (by k_asm) (by with_reducible assumption) (by assumption) (by assumption) ?_ (by (intro _ _; with_unfolding_all rfl))); intro _ _ _) | ((with_reducible show wpAny _ _ (subscriptTail _ _ (Value.ref 516) (Value.int _ _)) _ _ _); k_dflt (refine alias_at (by k_asm) (by with_reducible assumption) (by assumption) (by assumption) ?_ (by (intro _ _; with_unfolding_all rfl))); intro _ _ _) | ((with_reducible show wpAny _ _ (subscriptTail _ _ (Value.ref _) (Value.int 1 _)) _ _ _); k_dflt (refine item_tupleT (by exact News.isTup (by k_asm) (by k_mem)) (by decide) (by decide) (by rfl) (by rfl) ?_; k_whole)) | ((with_reducible show wpAny _ _ (compareOp CmpOp.NotEq (Value.int _ _) (Value.int _ _)) _ _ _); (k_dflt (refine ne_int_same ?_))) | ((with_reducible show wpAny _ _ (call (Value.type _) [Value.ref _]) _ _ _); k_dflt (refine copy_list (by k_asm) (by k_asm) (by k_mem) (by assumption) ?_); intro _ _ _ _ _ q09; (try k_lt q09); revert q09; intro _) | ((with_reducible show wpAny _ _ (call (Value.builtin "list.append") _) _ _ _); (k_dflt (refine append_any (by k_asm) (by k_asm) (by k_updF) (by first | assumption | kpa_ne) ?_); intro _ _ q09; (try dsimp only at q09); revert q09; intro _)) | ((with_reducible show wpAny _ _ (subscriptTail _ _ (Value.ref _) (Value.int _ _)) _ _ _); k_dflt (refine item_any (by k_asm) (by k_mem) (by assumption) (by kpa_ne) (by assumption) ?_ (by with_unfolding_all rfl) (by kmk_pure))) | ((with_reducible show wpAny _ _ (call (Value.builtin "len") _) _ _ _); (k_dflt (refine len_any (by k_asm) (by k_mem) (by assumption) ?_))) | ((first | (with_reducible show wpAny _ _ (call (Value.ref 531) _) _ _ _) | (with_reducible show wpAny _ _ (call (Value.ref 524) _) _ _ _) | (with_reducible show wpAny _ _ (call (Value.ref 269) _) _ _ _) | (with_reducible show wpAny _ _ (call (Value.ref 513) _) _ _ _) | (with_reducible show wpAny _ _ (call (Value.ref 538) _) _ _ _) | (with_reducible show wpAny _ _ (call (Value.ref 550) _) _ _ _) | (with_reducible show wpAny _ _ (call (Value.ref 562) _) _ _ _) | (with_reducible show wpAny _ _ (call (Value.ref 545) _) _ _ _) | (with_reducible show wpAny _ _ (call (Value.ref 475) _) _ _ _) | (with_reducible show wpAny _ _ (call (Value.ref 555) _) _ _ _) | (with_reducible show wpAny _ _ (call (Value.ref 569) _) _ _ _)); refine here_mark ?_) | ((with_reducible show wpAny _ _ (call (Value.type "range") _) _ _ _); (k_dflt (refine range_N (by k_asm) (by k_asm) ?_); intro _ _ _ _ _ _ _ q09; (try k_lt q09); revert q09; intro _)) | ((with_reducible show wpAny _ _ (exec (Stmt.For _ _ _ _ _) _) _ _ _); (k_dflt (refine For_own (by k_asm) (by rfl) (by rfl) ?_))) | ((with_reducible show wpAny _ _ (pyIter (Value.ref _)) _ _ _); (refine here_mark ?_)) | ((with_reducible show wpAny _ _ (eval (PySem.Expr.Dict [] [] _) _) _ _ _); (k_dflt (refine newDict_K (by k_asm) (by k_asm) (by first | exact Top.nolimit (by k_asm) | exact Glob.nolimit (by k_asm)) ?_; k_whole); intro _ _ _ _ _ q09 _ _ _ _ _; (try k_lt q09); revert q09; intro _)) | walk1 | (dsimp only; walk1) | (leave1; walk_say "STEP leave1"; try dsimp only) | fail "no step"))
          change wpAny _ _ _ _ _ _
          have hoffP : OwnOff ((l0, PySem.W.listOf #[] 0) :: (ai, tupO [.str (Str.ofString "open") u1, .int (100 + 10 * (i : Int)) (tk9 + 1 + 1 + 1), .str module u2, .ref aa, .str alias u3]) :: (aa, tupO avs) :: (I, oI) :: (rg, rngO ((kk + 1 : Nat) : Int) ug tk7 vg) :: (op, PySem.W.listOf ovs.toArray ko) :: (tkl, PySem.W.listOf tvs.toArray kt) :: (opn, PySem.W.listOf dvs.toArray kd') :: (l, PySem.W.listOf svs.toArray 0) :: (sg, instObj 269 sd) :: (sd, sdO) :: (en, oe) :: (kd, instObj 513 kdd) :: (kdd, kdO) :: (nws ++ own1)) [b] :=
            offC (offC (offC hoffO (Nat.ne_of_gt l10b)) (Nat.ne_of_gt (Nat.lt_trans l10b l10a))) (Nat.ne_of_gt l11.2.2.1)
          have hw1 : (dvs.length : Int) < 1000 := by kpa_ne
          have hw0 : (0 : Int) < (dvs.length : Int) := by kpa_ne
          have hlen9 : dvs.length ≤ 1000 := Nat.le_trans (Nat.le_of_eq (hdl2.trans hdl)) (Nat.le_trans (Nat.le_of_lt hi8) (by decide))
          refine draw_B K0 (by k_asm) KX N14 T hb4 (by kpa_ne) (by ktr_room) (by ktr_units) lo hbc hoffP hI8 hcn (by decide) (by decide) ?_
          intro r5 tr5 h5 tk5 ob5 r50 r51 F5 N5 hb5
          clear N14 hopn hnil
          (repeat' (first | (k_unfold; (try dsimp only)) | (k_end; wrow_close) | ((with_reducible show wpAny _ _ (eval (PySem.Expr.IfExp (PySem.Expr.Compare _ _ _ _) _ _ _) _) _ _ _); refine here_mark ?_) | ((with_reducible show wpAny _ _ (exec (Stmt.If (PySem.Expr.Name _ _) _ _ _) _) _ _ _); refine here_mark ?_) | ((with_reducible show wpAny _ _ (exec (Stmt.If (PySem.Expr.Compare (PySem.Expr.Call (PySem.Expr.Name _ _) _ _ _) _ _ _) _ _ _) _) _ _ _); refine here_mark ?_) | ((with_reducible show wpAny _ _ (subscriptTail _ _ (Value.ref _) (Value.int 2 _)) _ _ _); k_dflt (refine item_tupleT (by exact News.isTup (by k_asm) (by k_mem)) (by decide) (by decide) (by rfl) (by rfl) ?_; k_whole)) | ((with_reducible show wpAny _ _ (eval (PySem.Expr.ListComp (PySem.Expr.Name _ _) _ _ _) _) _ _ _); refine here_mark ?_) | ((with_reducible show wpAny _ _ (compareOp CmpOp.NotEq (Value.ref _) (Value.ref _)) _ _ _); (refine here_mark ?_)) | ((with_reducible show wpAny _ _ (exec (Stmt.If (PySem.Expr.BoolOp _ _ _) _ _ _) _) _ _ _); refine here_mark ?_) | ((with_reducible show wpAny _ _ (binaryOp _ (Value.str _ _) (Value.str _ _)) _ _ _); (k_dflt (first | (with_reducible refine add_alias (by with_reducible assumption) ?_; intro _ _) | (with_reducible refine add_word (by with_reducible assumption) (by with_reducible assumption) ?_; intro _ _)))) | ((with_reducible show wpAny _ _ (subscriptTail _ _ (Value.ref 517) (Value.int _ _)) _ _ _); k_dflt (refine word_at (by k_asm) (by with_reducible assumption) (by assumption) (by assumption) ?_ (by (intro _ _; with_unfolding_all rfl))); intro _ _ _) | ((with_reducible show wpAny _ _ (subscriptTail _ _ (Value.ref 516) (Value.int _ _)) _ _ _); k_dflt (refine alias_at (by k_asm) (by with_reducible assumption) (by assumption) (by assumption) ?_ (by (intro _ _; with_unfolding_all rfl))); intro _ _ _) | ((with_reducible show wpAny _ _ (subscriptTail _ _ (Value.ref _) (Value.int 1 _)) _ _ _); k_dflt (refine item_tupleT (by exact News.isTup (by k_asm) (by k_mem)) (by decide) (by decide) (by rfl) (by rfl) ?_; k_whole)) | ((with_reducible show wpAny _ _ (compareOp CmpOp.NotEq (Value.int _ _) (Value.int _ _)) _ _ _); (k_dflt (refine ne_int_same ?_))) | ((with_reducible show wpAny _ _ (call (Value.type _) [Value.ref _]) _ _ _); k_dflt (refine copy_list (by k_asm) (by k_asm) (by k_mem) (by assumption) ?_); intro _ _ _ _ _ q09; (try k_lt q09); revert q09; intro _) | ((with_reducible show wpAny _ _ (call (Value.builtin "list.append") _) _ _ _); (k_dflt (refine append_any (by k_asm) (by k_asm) (by k_updF) (by first | assumption | kpa_ne) ?_); intro _ _ q09; (try dsimp only at q09); revert q09; intro _)) | ((with_reducible show wpAny _ _ (subscriptTail _ _ (Value.ref _) (Value.int _ _)) _ _ _); k_dflt (refine item_any (by k_asm) (by k_mem) (by assumption) (by kpa_ne) (by assumption) ?_ (by with_unfolding_all rfl) (by kmk_pure))) | ((with_reducible show wpAny _ _ (call (Value.builtin "len") _) _ _ _); (k_dflt (refine len_any (by k_asm) (by k_mem) (by assumption) ?_))) | ((first | (with_reducible show wpAny _ _ (call (Value.ref 531) _) _ _ _) | (with_reducible show wpAny _ _ (call (Value.ref 524) _) _ _ _) | (with_reducible show wpAny _ _ (call (Value.ref 269) _) _ _ _) | (with_reducible show wpAny _ _ (call (Value.ref 513) _) _ _ _) | (with_reducible show wpAny _ _ (call (Value.ref 538) _) _ _ _) | (with_reducible show wpAny _ _ (call (Value.ref 550) _) _ _ _) | (with_reducible show wpAny _ _ (call (Value.ref 562) _) _ _ _) | (with_reducible show wpAny _ _ (call (Value.ref 545) _) _ _ _) | (with_reducible show wpAny _ _ (call (Value.ref 475) _) _ _ _) | (with_reducible show wpAny _ _ (call (Value.ref 555) _) _ _ _) | (with_reducible show wpAny _ _ (call (Value.ref 569) _) _ _ _)); refine here_mark ?_) | ((with_reducible show wpAny _ _ (call (Value.type "range") _) _ _ _); (k_dflt (refine range_N (by k_asm) (by k_asm) ?_); intro _ _ _ _ _ _ _ q09; (try k_lt q09); revert q09; intro _)) | ((with_reducible show wpAny _ _ (exec (Stmt.For _ _ _ _ _) _) _ _ _); (k_dflt (refine For_own (by k_asm) (by rfl) (by rfl) ?_))) | ((with_reducible show wpAny _ _ (pyIter (Value.ref _)) _ _ _); (refine here_mark ?_)) | ((with_reducible show wpAny _ _ (eval (PySem.Expr.Dict [] [] _) _) _ _ _); (k_dflt (refine newDict_K (by k_asm) (by k_asm) (by first | exact Top.nolimit (by k_asm) | exact Glob.nolimit (by k_asm)) ?_; k_whole); intro _ _ _ _ _ q09 _ _ _ _ _; (try k_lt q09); revert q09; intro _)) | walk1 | (dsimp only; walk1) | (leave1; walk_say "STEP leave1"; try dsimp only) | fail "no step"))
          · change wpAny _ _ _ _ _ _
            refine draw_B K0 (by k_asm) KX N5 T hb5 (by kpa_ne) (by ktr_room) (by ktr_units) lo hbc hoffP hI8 hcn hw0 hw1 ?_
            intro r6 tr6 h6' tk6 ob6 r60 r61 F6' N6 hb6
            clear N5 F5
            have hr6 : r6.toNat < dvs.length := (Int.toNat_lt r60).mpr r61
            have hr6k : r6 < 1000 := Int.lt_trans r61 hw1
            obtain ⟨v6', hv6⟩ : ∃ v, dvs[r6.toNat]? = some v := ⟨dvs[r6.toNat], List.getElem?_eq_getElem hr6⟩
            obtain ⟨d6, hd6, hov6⟩ := hds.get hv6
            have hidx : IdxAt dvs r6 v6' := ⟨hv6⟩
            (repeat' (first | (k_unfold; (try dsimp only)) | (k_end; wrow_close) | ((with_reducible show wpAny _ _ (eval (PySem.Expr.IfExp (PySem.Expr.Compare _ _ _ _) _ _ _) _) _ _ _); refine here_mark ?_) | ((with_reducible show wpAny _ _ (exec (Stmt.If (PySem.Expr.Name _ _) _ _ _) _) _ _ _); refine here_mark ?_) | ((with_reducible show wpAny _ _ (exec (Stmt.If (PySem.Expr.Compare (PySem.Expr.Call (PySem.Expr.Name _ _) _ _ _) _ _ _) _ _ _) _) _ _ _); refine here_mark ?_) | ((with_reducible show wpAny _ _ (subscriptTail _ _ (Value.ref _) (Value.int 2 _)) _ _ _); k_dflt (refine item_tupleT (by exact News.isTup (by k_asm) (by k_mem)) (by decide) (by decide) (by rfl) (by rfl) ?_; k_whole)) | ((with_reducible show wpAny _ _ (eval (PySem.Expr.ListComp (PySem.Expr.Name _ _) _ _ _) _) _ _ _); refine here_mark ?_) | ((with_reducible show wpAny _ _ (compareOp CmpOp.NotEq (Value.ref _) (Value.ref _)) _ _ _); (refine here_mark ?_)) | ((with_reducible show wpAny _ _ (exec (Stmt.If (PySem.Expr.BoolOp _ _ _) _ _ _) _) _ _ _); refine here_mark ?_) | ((with_reducible show wpAny _ _ (binaryOp _ (Value.str _ _) (Value.str _ _)) _ _ _); (k_dflt (first | (with_reducible refine add_alias (by with_reducible assumption) ?_; intro _ _) | (with_reducible refine add_word (by with_reducible assumption) (by with_reducible assumption) ?_; intro _ _)))) | ((with_reducible show wpAny _ _ (subscriptTail _ _ (Value.ref 517) (Value.int _ _)) _ _ _); k_dflt (refine word_at (by k_asm) (by with_reducible assumption) (by assumption) (by assumption) ?_ (by (intro _ _; with_unfolding_all rfl))); intro _ _ _) | ((with_reducible show wpAny _ _ (subscriptTail _ _ (Value.ref 516) (Value.int _ _)) _ _ _); k_dflt (refine alias_at (by k_asm) (by with_reducible assumption) (by assumption) (by assumption) ?_ (by (intro _ _; with_unfolding_all rfl))); intro _ _ _) | ((with_reducible show wpAny _ _ (subscriptTail _ _ (Value.ref _) (Value.int 1 _)) _ _ _); k_dflt (refine item_tupleT (by exact News.isTup (by k_asm) (by k_mem)) (by decide) (by decide) (by rfl) (by rfl) ?_; k_whole)) | ((with_reducible show wpAny _ _ (compareOp CmpOp.NotEq (Value.int _ _) (Value.int _ _)) _ _ _); (k_dflt (refine ne_int_same ?_))) | ((with_reducible show wpAny _ _ (call (Value.type _) [Value.ref _]) _ _ _); k_dflt (refine copy_list (by k_asm) (by k_asm) (by k_mem) (by assumption) ?_); intro _ _ _ _ _ q09; (try k_lt q09); revert q09; intro _) | ((with_reducible show wpAny _ _ (call (Value.builtin "list.append") _) _ _ _); (k_dflt (refine append_any (by k_asm) (by k_asm) (by k_updF) (by first | assumption | kpa_ne) ?_); intro _ _ q09; (try dsimp only at q09); revert q09; intro _)) | ((with_reducible show wpAny _ _ (subscriptTail _ _ (Value.ref _) (Value.int _ _)) _ _ _); k_dflt (refine item_any (by k_asm) (by k_mem) (by assumption) (by kpa_ne) (by assumption) ?_ (by with_unfolding_all rfl) (by kmk_pure))) | ((with_reducible show wpAny _ _ (call (Value.builtin "len") _) _ _ _); (k_dflt (refine len_any (by k_asm) (by k_mem) (by assumption) ?_))) | ((first | (with_reducible show wpAny _ _ (call (Value.ref 531) _) _ _ _) | (with_reducible show wpAny _ _ (call (Value.ref 524) _) _ _ _) | (with_reducible show wpAny _ _ (call (Value.ref 269) _) _ _ _) | (with_reducible show wpAny _ _ (call (Value.ref 513) _) _ _ _) | (with_reducible show wpAny _ _ (call (Value.ref 538) _) _ _ _) | (with_reducible show wpAny _ _ (call (Value.ref 550) _) _ _ _) | (with_reducible show wpAny _ _ (call (Value.ref 562) _) _ _ _) | (with_reducible show wpAny _ _ (call (Value.ref 545) _) _ _ _) | (with_reducible show wpAny _ _ (call (Value.ref 475) _) _ _ _) | (with_reducible show wpAny _ _ (call (Value.ref 555) _) _ _ _) | (with_reducible show wpAny _ _ (call (Value.ref 569) _) _ _ _)); refine here_mark ?_) | ((with_reducible show wpAny _ _ (call (Value.type "range") _) _ _ _); (k_dflt (refine range_N (by k_asm) (by k_asm) ?_); intro _ _ _ _ _ _ _ q09; (try k_lt q09); revert q09; intro _)) | ((with_reducible show wpAny _ _ (exec (Stmt.For _ _ _ _ _) _) _ _ _); (k_dflt (refine For_own (by k_asm) (by rfl) (by rfl) ?_))) | ((with_reducible show wpAny _ _ (pyIter (Value.ref _)) _ _ _); (refine here_mark ?_)) | ((with_reducible show wpAny _ _ (eval (PySem.Expr.Dict [] [] _) _) _ _ _); (k_dflt (refine newDict_K (by k_asm) (by k_asm) (by first | exact Top.nolimit (by k_asm) | exact Glob.nolimit (by k_asm)) ?_; k_whole); intro _ _ _ _ _ q09 _ _ _ _ _; (try k_lt q09); revert q09; intro _)) | walk1 | (dsimp only; walk1) | (leave1; walk_say "STEP leave1"; try dsimp only) | fail "no step"))
            (show P1 _ _ _ _)
            exact of_inv4 hP1 (fun CC kQ9 => kQ9 rfl _ _ ob6 v6' d6 _ rfl (by k_asm) (fin0 _ ob6 (by k_asm)) (hb6.mono (by kpa_ne)) (hov6.mono (fun p hp => .tail _ (.tail _ hp))) (hdok d6 (List.mem_of_getElem? hd6)) (fun p hp => .tail _ (.tail _ hp)) hnI)
          · (show P1 _ _ _ _)
            exact of_inv4 hP1 (fun CC kQ9 => kQ9 rfl _ _ ob5 (.ref ai) _ _ rfl (item_frF (by k_asm) rfl) (fin0 _ ob5 (by k_asm)) (hb5.mono (by kpa_ne)) hov hd0 (fun p hp => .tail _ (.tail _ hp)) hnI)
      · intro f s' hZ
        refine to_inv4 hP1 hZ _ ?_; rintro rfl h12 tk12 ob5 v d nws5 rfl F13 N13 hb5 hov5 hd5 hsub5 hgt5
        clear hZ hP1
        dsimp only
        have hov6 := hov5
        refine OpenV.ch hov5 _ ?_; clear hov5; rintro bi ba w1' w2' w3' w4' bvs rfl hm1 hm2 hargs5
        have hm1a : _ ∈ nws5 ++ own1 := List.mem_append.mpr (.inl hm1)
        have hm2a : _ ∈ nws5 ++ own1 := List.mem_append.mpr (.inl hm2)
        have hps5 := hps.mono hsub5
        have hqs5 := hqs.mono hsub5
        have hds5 : All2 (OpenV nws5) dvs ds := hds.mono fun _ _ z => OpenV.mono hsub5 z
        have hwG : ∀ {n : List (Addr × Obj)}, (∀ p ∈ n, @Ne Nat p.1 I ∧ @LT.lt Nat _ kd p.1) → OwnOff n [b, op, tkl, opn] := fun hg p hp e he => by
          refine Nat.ne_of_gt (Nat.lt_of_le_of_lt ?_ (hg p hp).2)
          rcases List.mem_cons.mp he with rfl | he
          · exact Nat.le_of_lt hbk
          rcases List.mem_cons.mp he with rfl | he
          · show @LE.le Nat _ _ _; kpa_ne
          rcases List.mem_cons.mp he with rfl | he
          · show @LE.le Nat _ _ _; kpa_ne
          · rw [List.mem_singleton.mp he]; show @LE.le Nat _ _ _; kpa_ne
        have hw5 := hwG hgt5
        have hlown : AllLt l own1 := hlt1c
        have hw1 : OwnOff own1 [b, op, tkl, opn] := fun p hp e he => by
          rcases List.mem_cons.mp he with rfl | he
          · exact hoff1 p hp _ (.head _)
          refine neOf hlown hp ?_
          rcases List.mem_cons.mp he with rfl | he
          · show @LE.le Nat _ _ _; kpa_ne
          rcases List.mem_cons.mp he with rfl | he
          · show @LE.le Nat _ _ _; kpa_ne
          · rw [List.mem_singleton.mp he]; show @LE.le Nat _ _ _; kpa_ne
        have oIop : @Ne Nat op I := off (op, PySem.W.listOf ovs.toArray ko) (.tail _ (.tail _ (.head _)))
        have oItk : @Ne Nat tkl I := off (tkl, PySem.W.listOf tvs.toArray kt) (.tail _ (.tail _ (.tail _ (.head _))))
        have oIon : @Ne Nat opn I := off (opn, PySem.W.listOf dvs.toArray kd') (.tail _ (.tail _ (.tail _ (.tail _ (.head _)))))
        have hovl : ovs.length ≤ 100 := Nat.le_trans (Nat.le_of_eq hps.length) (Nat.le_trans hol (Nat.le_trans (Nat.le_of_lt hi8) (by decide)))
        have htvl : tvs.length ≤ 100 := Nat.le_trans (Nat.le_of_eq hqs.length) (Nat.le_trans hol (Nat.le_trans (Nat.le_of_lt hi8) (by decide)))
        have hdvl : dvs.length ≤ 100 := Nat.le_trans (Nat.le_of_eq (hdl2.trans hdl)) (Nat.le_trans (Nat.le_of_lt hi8) (by decide))
        (repeat' (first | (k_unfold; (try dsimp only)) | (k_end; wrow_close) | ((with_reducible show wpAny _ _ (eval (PySem.Expr.IfExp (PySem.Expr.Compare _ _ _ _) _ _ _) _) _ _ _); refine here_mark ?_) | ((with_reducible show wpAny _ _ (exec (Stmt.If (PySem.Expr.Name _ _) _ _ _) _) _ _ _); refine here_mark ?_) | ((with_reducible show wpAny _ _ (exec (Stmt.If (PySem.Expr.Compare (PySem.Expr.Call (PySem.Expr.Name _ _) _ _ _) _ _ _) _ _ _) _) _ _ _); refine here_mark ?_) | ((with_reducible show wpAny _ _ (subscriptTail _ _ (Value.ref _) (Value.int 2 _)) _ _ _); k_dflt (refine item_tupleT (by exact News.isTup (by k_asm) (by k_mem)) (by decide) (by decide) (by rfl) (by rfl) ?_; k_whole)) | ((with_reducible show wpAny _ _ (eval (PySem.Expr.ListComp (PySem.Expr.Name _ _) _ _ _) _) _ _ _); refine here_mark ?_) | ((with_reducible show wpAny _ _ (compareOp CmpOp.NotEq (Value.ref _) (Value.ref _)) _ _ _); (refine here_mark ?_)) | ((with_reducible show wpAny _ _ (exec (Stmt.If (PySem.Expr.BoolOp _ _ _) _ _ _) _) _ _ _); refine here_mark ?_) | ((with_reducible show wpAny _ _ (binaryOp _ (Value.str _ _) (Value.str _ _)) _ _ _); (k_dflt (first | (with_reducible refine add_alias (by with_reducible assumption) ?_; intro _ _) | (with_reducible refine add_word (by with_reducible assumption) (by with_reducible assumption) ?_; intro _ _)))) | ((with_reducible show wpAny _ _ (subscriptTail _ _ (Value.ref 517) (Value.int _ _)) _ _ _); k_dflt (refine word_at (by k_asm) (by with_reducible assumption) (by assumption) (by assumption) ?_ (by (intro _ _; with_unfolding_all rfl))); intro _ _ _) | ((with_reducible show wpAny _ _ (subscriptTail _ _ (Value.ref 516) (Value.int _ _)) _ _ _); k_dflt (refine alias_at (by k_asm) (by with_reducible assumption) (by assumption) (by assumption) ?_ (by (intro _ _; with_unfolding_all rfl))); intro _ _ _) | ((with_reducible show wpAny _ _ (subscriptTail _ _ (Value.ref _) (Value.int 1 _)) _ _ _); k_dflt (refine item_tupleT (by exact News.isTup (by k_asm) (by k_mem)) (by decide) (by decide) (by rfl) (by rfl) ?_; k_whole)) | ((with_reducible show wpAny _ _ (compareOp CmpOp.NotEq (Value.int _ _) (Value.int _ _)) _ _ _); (k_dflt (refine ne_int_same ?_))) | ((with_reducible show wpAny _ _ (call (Value.type _) [Value.ref _]) _ _ _); k_dflt (refine copy_list (by k_asm) (by k_asm) (by k_mem) (by assumption) ?_); intro _ _ _ _ _ q09; (try k_lt q09); revert q09; intro _) | ((with_reducible show wpAny _ _ (call (Value.builtin "list.append") _) _ _ _); (k_dflt (refine append_any (by k_asm) (by k_asm) (by k_updF) (by first | assumption | kpa_ne) ?_); intro _ _ q09; (try dsimp only at q09); revert q09; intro _)) | ((with_reducible show wpAny _ _ (subscriptTail _ _ (Value.ref _) (Value.int _ _)) _ _ _); k_dflt (refine item_any (by k_asm) (by k_mem) (by assumption) (by kpa_ne) (by assumption) ?_ (by with_unfolding_all rfl) (by kmk_pure))) | ((with_reducible show wpAny _ _ (call (Value.builtin "len") _) _ _ _); (k_dflt (refine len_any (by k_asm) (by k_mem) (by assumption) ?_))) | ((first | (with_reducible show wpAny _ _ (call (Value.ref 531) _) _ _ _) | (with_reducible show wpAny _ _ (call (Value.ref 524) _) _ _ _) | (with_reducible show wpAny _ _ (call (Value.ref 269) _) _ _ _) | (with_reducible show wpAny _ _ (call (Value.ref 513) _) _ _ _) | (with_reducible show wpAny _ _ (call (Value.ref 538) _) _ _ _) | (with_reducible show wpAny _ _ (call (Value.ref 550) _) _ _ _) | (with_reducible show wpAny _ _ (call (Value.ref 562) _) _ _ _) | (with_reducible show wpAny _ _ (call (Value.ref 545) _) _ _ _) | (with_reducible show wpAny _ _ (call (Value.ref 475) _) _ _ _) | (with_reducible show wpAny _ _ (call (Value.ref 555) _) _ _ _) | (with_reducible show wpAny _ _ (call (Value.ref 569) _) _ _ _)); refine here_mark ?_) | ((with_reducible show wpAny _ _ (call (Value.type "range") _) _ _ _); (k_dflt (refine range_N (by k_asm) (by k_asm) ?_); intro _ _ _ _ _ _ _ q09; (try k_lt q09); revert q09; intro _)) | ((with_reducible show wpAny _ _ (exec (Stmt.For _ _ _ _ _) _) _ _ _); (k_dflt (refine For_own (by k_asm) (by rfl) (by rfl) ?_))) | ((with_reducible show wpAny _ _ (pyIter (Value.ref _)) _ _ _); (refine here_mark ?_)) | ((with_reducible show wpAny _ _ (eval (PySem.Expr.Dict [] [] _) _) _ _ _); (k_dflt (refine newDict_K (by k_asm) (by k_asm) (by first | exact Top.nolimit (by k_asm) | exact Glob.nolimit (by k_asm)) ?_; k_whole); intro _ _ _ _ _ q09 _ _ _ _ _; (try k_lt q09); revert q09; intro _)) | walk1 | (dsimp only; walk1) | (leave1; walk_say "STEP leave1"; try dsimp only) | fail "no step"))
        change wpAny _ _ _ _ _ _
        rename_i h13 F14 N14
        have tailm : ∀ {p1 p2 p3 p4 p5 p6 p7 p8 p9 p10 p11 p12 p13 : Addr × Obj} (p : Addr × Obj), p ∈ nws5 → p ∈ p1 :: p2 :: p3 :: p4 :: p5 :: p6 :: p7 :: p8 :: p9 :: p10 :: p11 :: p12 :: p13 :: (nws5 ++ own1) := fun p hp => by
          iterate 13 apply List.mem_cons_of_mem
          exact List.mem_append.mpr (.inl hp)
        have N15 : News s₁.heap s₁.heap.objs.size h13 ((bi, tupO [.str (Str.ofString "open") w1', .int d.spot w2', .str d.module w3', .ref ba, .str d.alias w4']) :: (ba, tupO bvs) :: (tkl, PySem.W.listOf tvs.toArray kt) :: (b, ob5) :: (c, PySem.W.listOf ys.toArray ys.length) :: (I, oI) :: (rg, rngO ((kk + 1 : Nat) : Int) ug tk7 vg) :: (op, PySem.W.listOf ovs.toArray ko) :: (opn, PySem.W.listOf (dvs ++ [Value.ref bi]).toArray (kd' + 1)) :: (l, PySem.W.listOf svs.toArray 0) :: (sg, instObj 269 sd) :: (sd, sdO) :: (en, oe) :: (kd, instObj 513 kdd) :: (kdd, kdO) :: (nws5 ++ own1)) := N14.perm (by
          refine List.forall_mem_cons.mpr ⟨tailm _ hm1, List.forall_mem_cons.mpr ⟨tailm _ hm2, ?_⟩⟩
          iterate 13 refine List.forall_mem_cons.mpr ⟨by repeat (first | exact .head _ | apply List.mem_cons_of_mem), ?_⟩
          intro p hp
          repeat (first | exact hp | apply List.mem_cons_of_mem))
        have hal : ∀ x ∈ d.args, x.length ≤ 100 := fun x hx => (one_sig (hd5.1.2.1 x hx)).1
        have hal2 : d.args.length ≤ 10 := by have := hd5.1.2.2.1; kpa_ne
        have hala := one_alias hd5.1.2.2.2
        refine isTaken_spec K0 F14 KX N15 T (by ktr_room) (by ktr_units) hargs5 hal2 hal (PairsAt.mono (fun p hp => by
          iterate 12 apply List.mem_cons_of_mem
          exact List.mem_append.mpr (.inl hp)) hqs5) htvl ?_
        intro bv h14 tk14 hbv F15 N16
        clear N14 N15 F14
        (repeat' (first | (k_unfold; (try dsimp only)) | (k_end; wrow_close) | ((with_reducible show wpAny _ _ (eval (PySem.Expr.IfExp (PySem.Expr.Compare _ _ _ _) _ _ _) _) _ _ _); refine here_mark ?_) | ((with_reducible show wpAny _ _ (exec (Stmt.If (PySem.Expr.Name _ _) _ _ _) _) _ _ _); refine here_mark ?_) | ((with_reducible show wpAny _ _ (exec (Stmt.If (PySem.Expr.Compare (PySem.Expr.Call (PySem.Expr.Name _ _) _ _ _) _ _ _) _ _ _) _) _ _ _); refine here_mark ?_) | ((with_reducible show wpAny _ _ (subscriptTail _ _ (Value.ref _) (Value.int 2 _)) _ _ _); k_dflt (refine item_tupleT (by exact News.isTup (by k_asm) (by k_mem)) (by decide) (by decide) (by rfl) (by rfl) ?_; k_whole)) | ((with_reducible show wpAny _ _ (eval (PySem.Expr.ListComp (PySem.Expr.Name _ _) _ _ _) _) _ _ _); refine here_mark ?_) | ((with_reducible show wpAny _ _ (compareOp CmpOp.NotEq (Value.ref _) (Value.ref _)) _ _ _); (refine here_mark ?_)) | ((with_reducible show wpAny _ _ (exec (Stmt.If (PySem.Expr.BoolOp _ _ _) _ _ _) _) _ _ _); refine here_mark ?_) | ((with_reducible show wpAny _ _ (binaryOp _ (Value.str _ _) (Value.str _ _)) _ _ _); (k_dflt (first | (with_reducible refine add_alias (by with_reducible assumption) ?_; intro _ _) | (with_reducible refine add_word (by with_reducible assumption) (by with_reducible assumption) ?_; intro _ _)))) | ((with_reducible show wpAny _ _ (subscriptTail _ _ (Value.ref 517) (Value.int _ _)) _ _ _); k_dflt (refine word_at (by k_asm) (by with_reducible assumption) (by assumption) (by assumption) ?_ (by (intro _ _; with_unfolding_all rfl))); intro _ _ _) | ((with_reducible show wpAny _ _ (subscriptTail _ _ (Value.ref 516) (Value.int _ _)) _ _ _); k_dflt (refine alias_at (by k_asm) (by with_reducible assumption) (by assumption) (by assumption) ?_ (by (intro _ _; with_unfolding_all rfl))); intro _ _ _) | ((with_reducible show wpAny _ _ (subscriptTail _ _ (Value.ref _) (Value.int 1 _)) _ _ _); k_dflt (refine item_tupleT (by exact News.isTup (by k_asm) (by k_mem)) (by decide) (by decide) (by rfl) (by rfl) ?_; k_whole)) | ((with_reducible show wpAny _ _ (compareOp CmpOp.NotEq (Value.int _ _) (Value.int _ _)) _ _ _); (k_dflt (refine ne_int_same ?_))) | ((with_reducible show wpAny _ _ (call (Value.type _) [Value.ref _]) _ _ _); k_dflt (refine copy_list (by k_asm) (by k_asm) (by k_mem) (by assumption) ?_); intro _ _ _ _ _ q09; (try k_lt q09); revert q09; intro _) | ((with_reducible show wpAny _ _ (call (Value.builtin "list.append") _) _ _ _); (k_dflt (refine append_any (by k_asm) (by k_asm) (by k_updF) (by first | assumption | kpa_ne) ?_); intro _ _ q09; (try dsimp only at q09); revert q09; intro _)) | ((with_reducible show wpAny _ _ (subscriptTail _ _ (Value.ref _) (Value.int _ _)) _ _ _); k_dflt (refine item_any (by k_asm) (by k_mem) (by assumption) (by kpa_ne) (by assumption) ?_ (by with_unfolding_all rfl) (by kmk_pure))) | ((with_reducible show wpAny _ _ (call (Value.builtin "len") _) _ _ _); (k_dflt (refine len_any (by k_asm) (by k_mem) (by assumption) ?_))) | ((first | (with_reducible show wpAny _ _ (call (Value.ref 531) _) _ _ _) | (with_reducible show wpAny _ _ (call (Value.ref 524) _) _ _ _) | (with_reducible show wpAny _ _ (call (Value.ref 269) _) _ _ _) | (with_reducible show wpAny _ _ (call (Value.ref 513) _) _ _ _) | (with_reducible show wpAny _ _ (call (Value.ref 538) _) _ _ _) | (with_reducible show wpAny _ _ (call (Value.ref 550) _) _ _ _) | (with_reducible show wpAny _ _ (call (Value.ref 562) _) _ _ _) | (with_reducible show wpAny _ _ (call (Value.ref 545) _) _ _ _) | (with_reducible show wpAny _ _ (call (Value.ref 475) _) _ _ _) | (with_reducible show wpAny _ _ (call (Value.ref 555) _) _ _ _) | (with_reducible show wpAny _ _ (call (Value.ref 569) _) _ _ _)); refine here_mark ?_) | ((with_reducible show wpAny _ _ (call (Value.type "range") _) _ _ _); (k_dflt (refine range_N (by k_asm) (by k_asm) ?_); intro _ _ _ _ _ _ _ q09; (try k_lt q09); revert q09; intro _)) | ((with_reducible show wpAny _ _ (exec (Stmt.For _ _ _ _ _) _) _ _ _); (k_dflt (refine For_own (by k_asm) (by rfl) (by rfl) ?_))) | ((with_reducible show wpAny _ _ (pyIter (Value.ref _)) _ _ _); (refine here_mark ?_)) | ((with_reducible show wpAny _ _ (eval (PySem.Expr.Dict [] [] _) _) _ _ _); (k_dflt (refine newDict_K (by k_asm) (by k_asm) (by first | exact Top.nolimit (by k_asm) | exact Glob.nolimit (by k_asm)) ?_; k_whole); intro _ _ _ _ _ q09 _ _ _ _ _; (try k_lt q09); revert q09; intro _)) | walk1 | (dsimp only; walk1) | (leave1; walk_say "STEP leave1"; try dsimp only) | fail "no step"))
        change wpAny _ _ _ _ _ _
        rename_i h15 F16 N17
        have N18 : News s₁.heap s₁.heap.objs.size h15 ((sg, instObj 269 sd) :: (sd, sdO) :: (op, PySem.W.listOf ovs.toArray ko) :: (en, oe) :: (bi, tupO [.str (Str.ofString "open") w1', .int d.spot w2', .str d.module w3', .ref ba, .str d.alias w4']) :: (ba, tupO bvs) :: (tkl, PySem.W.listOf tvs.toArray kt) :: (b, ob5) :: (c, PySem.W.listOf ys.toArray ys.length) :: (I, oI) :: (rg, rngO ((kk + 1 : Nat) : Int) ug tk7 vg) :: (opn, PySem.W.listOf (dvs ++ [Value.ref bi]).toArray (kd' + 1)) :: (l, PySem.W.listOf svs.toArray 0) :: (kd, instObj 513 kdd) :: (kdd, kdO) :: (nws5 ++ own1)) := N17.perm (by
          iterate 15 refine List.forall_mem_cons.mpr ⟨by repeat (first | exact .head _ | apply List.mem_cons_of_mem), ?_⟩
          intro p hp
          repeat (first | exact hp | apply List.mem_cons_of_mem))
        have hoffH : OwnOff ((tkl, PySem.W.listOf tvs.toArray kt) :: (b, ob5) :: (c, PySem.W.listOf ys.toArray ys.length) :: (I, oI) :: (rg, rngO ((kk + 1 : Nat) : Int) ug tk7 vg) :: (opn, PySem.W.listOf (dvs ++ [Value.ref bi]).toArray (kd' + 1)) :: (l, PySem.W.listOf svs.toArray 0) :: (kd, instObj 513 kdd) :: (kdd, kdO) :: (nws5 ++ own1)) [op] := by
          refine offC (offC (offC (offC (offC (offC (offC (offC (offC (fun p hp e he => ?_) ?_) ?_) ?_) ?_) ?_) ?_) ?_) ?_) ?_
          · obtain rfl := List.mem_singleton.mp he
            rcases List.mem_append.mp hp with q | q
            · exact hw5 p q _ (.tail _ (.head _))
            · exact hw1 p q _ (.tail _ (.head _))
          all_goals (first | exact oIop.symm | (show @Ne Nat _ _; kpa_ne))
        refine inv_gen (fun (m : Str → Option Value) (s0 : Shared) (f : Flow) (s' : Shared) => ∀ CC : Prop, ((f = .next) → ∀ h' tk' ovs2 ko2 nws2 os2, (s' = { s0 with heap := h', toks := tk' }) → (Fr s₁.heap s₁.heap.objs.size h' m) → (News s₁.heap s₁.heap.objs.size h' ((sg, instObj 269 sd) :: (sd, sdO) :: (op, PySem.W.listOf ovs2.toArray ko2) :: (tkl, PySem.W.listOf tvs.toArray kt) :: (en, oe) :: (b, ob5) :: (c, PySem.W.listOf ys.toArray ys.length) :: (I, oI) :: (rg, rngO ((kk + 1 : Nat) : Int) ug tk7 vg) :: (opn, PySem.W.listOf (dvs ++ [Value.ref bi]).toArray (kd' + 1)) :: (l, PySem.W.listOf svs.toArray 0) :: (kd, instObj 513 kdd) :: (kdd, kdO) :: (nws2 ++ own1))) → (PairsAt nws2 ovs2 os2) → ((∀ p ∈ nws5, p ∈ nws2)) → ((∀ p ∈ nws2, @Ne Nat p.1 I ∧ @LT.lt Nat _ kd p.1)) → (((bv = true ∧ OsOk os2 ∧ os2.length ≤ i + 1 ∧ 0 < d.args.length ∧ ∃ nm x, d.args = [x] ∧ ordName d.alias = nm ∧ os2 = os ++ [(nm, x)]) ∨ (bv = false ∧ os2 = os))) → CC) → CC) ?_
        intro P2 hP2
        refine cut_at F16 (fun m s0 f s' => Here (P2 m s0 f s')) ?_ ?_
        · refine wpAny_If ?_
          (repeat' (first | (k_unfold; (try dsimp only)) | (k_end; wrow_close) | ((with_reducible show wpAny _ _ (eval (PySem.Expr.IfExp (PySem.Expr.Compare _ _ _ _) _ _ _) _) _ _ _); refine here_mark ?_) | ((with_reducible show wpAny _ _ (exec (Stmt.If (PySem.Expr.Name _ _) _ _ _) _) _ _ _); refine here_mark ?_) | ((with_reducible show wpAny _ _ (exec (Stmt.If (PySem.Expr.Compare (PySem.Expr.Call (PySem.Expr.Name _ _) _ _ _) _ _ _) _ _ _) _) _ _ _); refine here_mark ?_) | ((with_reducible show wpAny _ _ (subscriptTail _ _ (Value.ref _) (Value.int 2 _)) _ _ _); k_dflt (refine item_tupleT (by exact News.isTup (by k_asm) (by k_mem)) (by decide) (by decide) (by rfl) (by rfl) ?_; k_whole)) | ((with_reducible show wpAny _ _ (eval (PySem.Expr.ListComp (PySem.Expr.Name _ _) _ _ _) _) _ _ _); refine here_mark ?_) | ((with_reducible show wpAny _ _ (compareOp CmpOp.NotEq (Value.ref _) (Value.ref _)) _ _ _); (refine here_mark ?_)) | ((with_reducible show wpAny _ _ (exec (Stmt.If (PySem.Expr.BoolOp _ _ _) _ _ _) _) _ _ _); refine here_mark ?_) | ((with_reducible show wpAny _ _ (binaryOp _ (Value.str _ _) (Value.str _ _)) _ _ _); (k_dflt (first | (with_reducible refine add_alias (by with_reducible assumption) ?_; intro _ _) | (with_reducible refine add_word (by with_reducible assumption) (by with_reducible assumption) ?_; intro _ _)))) | ((with_reducible show wpAny _ _ (subscriptTail _ _ (Value.ref 517) (Value.int _ _)) _ _ _); k_dflt (refine word_at (by k_asm) (by with_reducible assumption) (by assumption) (by assumption) ?_ (by (intro _ _; with_unfolding_all rfl))); intro _ _ _) | ((with_reducible show wpAny _ _ (subscriptTail _ _ (Value.ref 516) (Value.int _ _)) _ _ _); k_dflt (refine alias_at (by k_asm) (by with_reducible assumption) (by assumption) (by assumption) ?_ (by (intro _ _; with_unfolding_all rfl))); intro _ _ _) | ((with_reducible show wpAny _ _ (subscriptTail _ _ (Value.ref _) (Value.int 1 _)) _ _ _); k_dflt (refine item_tupleT (by exact News.isTup (by k_asm) (by k_mem)) (by decide) (by decide) (by rfl) (by rfl) ?_; k_whole)) | ((with_reducible show wpAny _ _ (compareOp CmpOp.NotEq (Value.int _ _) (Value.int _ _)) _ _ _); (k_dflt (refine ne_int_same ?_))) | ((with_reducible show wpAny _ _ (call (Value.type _) [Value.ref _]) _ _ _); k_dflt (refine copy_list (by k_asm) (by k_asm) (by k_mem) (by assumption) ?_); intro _ _ _ _ _ q09; (try k_lt q09); revert q09; intro _) | ((with_reducible show wpAny _ _ (call (Value.builtin "list.append") _) _ _ _); (k_dflt (refine append_any (by k_asm) (by k_asm) (by k_updF) (by first | assumption | kpa_ne) ?_); intro _ _ q09; (try dsimp only at q09); revert q09; intro _)) | ((with_reducible show wpAny _ _ (subscriptTail _ _ (Value.ref _) (Value.int _ _)) _ _ _); k_dflt (refine item_any (by k_asm) (by k_mem) (by assumption) (by kpa_ne) (by assumption) ?_ (by with_unfolding_all rfl) (by kmk_pure))) | ((with_reducible show wpAny _ _ (call (Value.builtin "len") _) _ _ _); (k_dflt (refine len_any (by k_asm) (by k_mem) (by assumption) ?_))) | ((first | (with_reducible show wpAny _ _ (call (Value.ref 531) _) _ _ _) | (with_reducible show wpAny _ _ (call (Value.ref 524) _) _ _ _) | (with_reducible show wpAny _ _ (call (Value.ref 269) _) _ _ _) | (with_reducible show wpAny _ _ (call (Value.ref 513) _) _ _ _) | (with_reducible show wpAny _ _ (call (Value.ref 538) _) _ _ _) | (with_reducible show wpAny _ _ (call (Value.ref 550) _) _ _ _) | (with_reducible show wpAny _ _ (call (Value.ref 562) _) _ _ _) | (with_reducible show wpAny _ _ (call (Value.ref 545) _) _ _ _) | (with_reducible show wpAny _ _ (call (Value.ref 475) _) _ _ _) | (with_reducible show wpAny _ _ (call (Value.ref 555) _) _ _ _) | (with_reducible show wpAny _ _ (call (Value.ref 569) _) _ _ _)); refine here_mark ?_) | ((with_reducible show wpAny _ _ (call (Value.type "range") _) _ _ _); (k_dflt (refine range_N (by k_asm) (by k_asm) ?_); intro _ _ _ _ _ _ _ q09; (try k_lt q09); revert q09; intro _)) | ((with_reducible show wpAny _ _ (exec (Stmt.For _ _ _ _ _) _) _ _ _); (k_dflt (refine For_own (by k_asm) (by rfl) (by rfl) ?_))) | ((with_reducible show wpAny _ _ (pyIter (Value.ref _)) _ _ _); (refine here_mark ?_)) | ((with_reducible show wpAny _ _ (eval (PySem.Expr.Dict [] [] _) _) _ _ _); (k_dflt (refine newDict_K (by k_asm) (by k_asm) (by first | exact Top.nolimit (by k_asm) | exact Glob.nolimit (by k_asm)) ?_; k_whole); intro _ _ _ _ _ q09 _ _ _ _ _; (try k_lt q09); revert q09; intro _)) | walk1 | (dsimp only; walk1) | (leave1; walk_say "STEP leave1"; try dsimp only) | fail "no step"))
          change wpAny _ _ _ _ _ _
          refine heard_spec (u5 := w1') (u6 := w1') (u7 := w1') (u8 := w1') K0 (by k_asm) KX N18 T (by ktr_room) (by ktr_units) hdd lo2 (by show @Ne Nat _ _; kpa_ne) (by show @Ne Nat _ _; kpa_ne) (by show @Ne Nat _ _; kpa_ne) (hw5 _ hm1 _ (.tail _ (.head _))) (hw5 _ hm2 _ (.tail _ (.head _))) hoffH
            (PairsAt.mono (fun p hp => by
              iterate 9 apply List.mem_cons_of_mem
              exact List.mem_append.mpr (.inl hp)) hps5) hovl hargs5 hal2 (mod_len hd5.1.1) hala.1 hal (fun o ho => (hos o ho).2.2.1) hala.2.1 hos.dat ?hq ?he
          case' hq =>
            intro nm x p ta tb0 t0 h16 tk16 hT hnm hx F17 N19 l19
            have hbt : bv = true := hbv.trans ((takes_law hkeys).mp hT)
            subst hbt
            clear N17 N18
            obtain ⟨l19a, l19b, l19c, l19d, l19e⟩ := l19
            simp only [AllLt] at l19e
            (repeat' (first | (k_unfold; (try dsimp only)) | (k_end; wrow_close) | ((with_reducible show wpAny _ _ (eval (PySem.Expr.IfExp (PySem.Expr.Compare _ _ _ _) _ _ _) _) _ _ _); refine here_mark ?_) | ((with_reducible show wpAny _ _ (exec (Stmt.If (PySem.Expr.Name _ _) _ _ _) _) _ _ _); refine here_mark ?_) | ((with_reducible show wpAny _ _ (exec (Stmt.If (PySem.Expr.Compare (PySem.Expr.Call (PySem.Expr.Name _ _) _ _ _) _ _ _) _ _ _) _) _ _ _); refine here_mark ?_) | ((with_reducible show wpAny _ _ (subscriptTail _ _ (Value.ref _) (Value.int 2 _)) _ _ _); k_dflt (refine item_tupleT (by exact News.isTup (by k_asm) (by k_mem)) (by decide) (by decide) (by rfl) (by rfl) ?_; k_whole)) | ((with_reducible show wpAny _ _ (eval (PySem.Expr.ListComp (PySem.Expr.Name _ _) _ _ _) _) _ _ _); refine here_mark ?_) | ((with_reducible show wpAny _ _ (compareOp CmpOp.NotEq (Value.ref _) (Value.ref _)) _ _ _); (refine here_mark ?_)) | ((with_reducible show wpAny _ _ (exec (Stmt.If (PySem.Expr.BoolOp _ _ _) _ _ _) _) _ _ _); refine here_mark ?_) | ((with_reducible show wpAny _ _ (binaryOp _ (Value.str _ _) (Value.str _ _)) _ _ _); (k_dflt (first | (with_reducible refine add_alias (by with_reducible assumption) ?_; intro _ _) | (with_reducible refine add_word (by with_reducible assumption) (by with_reducible assumption) ?_; intro _ _)))) | ((with_reducible show wpAny _ _ (subscriptTail _ _ (Value.ref 517) (Value.int _ _)) _ _ _); k_dflt (refine word_at (by k_asm) (by with_reducible assumption) (by assumption) (by assumption) ?_ (by (intro _ _; with_unfolding_all rfl))); intro _ _ _) | ((with_reducible show wpAny _ _ (subscriptTail _ _ (Value.ref 516) (Value.int _ _)) _ _ _); k_dflt (refine alias_at (by k_asm) (by with_reducible assumption) (by assumption) (by assumption) ?_ (by (intro _ _; with_unfolding_all rfl))); intro _ _ _) | ((with_reducible show wpAny _ _ (subscriptTail _ _ (Value.ref _) (Value.int 1 _)) _ _ _); k_dflt (refine item_tupleT (by exact News.isTup (by k_asm) (by k_mem)) (by decide) (by decide) (by rfl) (by rfl) ?_; k_whole)) | ((with_reducible show wpAny _ _ (compareOp CmpOp.NotEq (Value.int _ _) (Value.int _ _)) _ _ _); (k_dflt (refine ne_int_same ?_))) | ((with_reducible show wpAny _ _ (call (Value.type _) [Value.ref _]) _ _ _); k_dflt (refine copy_list (by k_asm) (by k_asm) (by k_mem) (by assumption) ?_); intro _ _ _ _ _ q09; (try k_lt q09); revert q09; intro _) | ((with_reducible show wpAny _ _ (call (Value.builtin "list.append") _) _ _ _); (k_dflt (refine append_any (by k_asm) (by k_asm) (by k_updF) (by first | assumption | kpa_ne) ?_); intro _ _ q09; (try dsimp only at q09); revert q09; intro _)) | ((with_reducible show wpAny _ _ (subscriptTail _ _ (Value.ref _) (Value.int _ _)) _ _ _); k_dflt (refine item_any (by k_asm) (by k_mem) (by assumption) (by kpa_ne) (by assumption) ?_ (by with_unfolding_all rfl) (by kmk_pure))) | ((with_reducible show wpAny _ _ (call (Value.builtin "len") _) _ _ _); (k_dflt (refine len_any (by k_asm) (by k_mem) (by assumption) ?_))) | ((first | (with_reducible show wpAny _ _ (call (Value.ref 531) _) _ _ _) | (with_reducible show wpAny _ _ (call (Value.ref 524) _) _ _ _) | (with_reducible show wpAny _ _ (call (Value.ref 269) _) _ _ _) | (with_reducible show wpAny _ _ (call (Value.ref 513) _) _ _ _) | (with_reducible show wpAny _ _ (call (Value.ref 538) _) _ _ _) | (with_reducible show wpAny _ _ (call (Value.ref 550) _) _ _ _) | (with_reducible show wpAny _ _ (call (Value.ref 562) _) _ _ _) | (with_reducible show wpAny _ _ (call (Value.ref 545) _) _ _ _) | (with_reducible show wpAny _ _ (call (Value.ref 475) _) _ _ _) | (with_reducible show wpAny _ _ (call (Value.ref 555) _) _ _ _) | (with_reducible show wpAny _ _ (call (Value.ref 569) _) _ _ _)); refine here_mark ?_) | ((with_reducible show wpAny _ _ (call (Value.type "range") _) _ _ _); (k_dflt (refine range_N (by k_asm) (by k_asm) ?_); intro _ _ _ _ _ _ _ q09; (try k_lt q09); revert q09; intro _)) | ((with_reducible show wpAny _ _ (exec (Stmt.For _ _ _ _ _) _) _ _ _); (k_dflt (refine For_own (by k_asm) (by rfl) (by rfl) ?_))) | ((with_reducible show wpAny _ _ (pyIter (Value.ref _)) _ _ _); (refine here_mark ?_)) | ((with_reducible show wpAny _ _ (eval (PySem.Expr.Dict [] [] _) _) _ _ _); (k_dflt (refine newDict_K (by k_asm) (by k_asm) (by first | exact Top.nolimit (by k_asm) | exact Glob.nolimit (by k_asm)) ?_; k_whole); intro _ _ _ _ _ q09 _ _ _ _ _; (try k_lt q09); revert q09; intro _)) | walk1 | (dsimp only; walk1) | (leave1; walk_say "STEP leave1"; try dsimp only) | fail "no step"))
            (show P2 _ _ _ _)
            have ha0 : 0 < d.args.length := by rw [hx]; exact Nat.succ_pos _
            rename News s₁.heap s₁.heap.objs.size _ _ => N20
            refine of_inv4 hP2 (fun CC kQ9 => kQ9 rfl _ _ (ovs ++ [Value.ref p]) (ko + 1) ((p, tupO [.str nm ta, .str x tb0]) :: nws5) (os ++ [(nm, x)]) rfl (by k_asm) (N20.perm ?_) (PairsAt.snoc (o := (nm, x)) ⟨p, ta, tb0, rfl, .head _⟩ (PairsAt.mono (fun _ h => .tail _ h) hps5)) (fun p hp => .tail _ hp) (List.forall_mem_cons.mpr ⟨⟨Nat.ne_of_gt ?_, ?_⟩, hgt5⟩) (.inl ⟨rfl, hnm ▸ hos.snoc hd5.1 hx, by rw [List.length_append, List.length_singleton]; exact Nat.succ_le_succ hol, ha0, nm, x, hx, hnm, rfl⟩))
            · iterate 13 refine List.forall_mem_cons.mpr ⟨by repeat (first | exact .head _ | apply List.mem_cons_of_mem), ?_⟩
              refine List.forall_mem_cons.mpr ⟨by repeat (first | exact .head _ | apply List.mem_cons_of_mem), ?_⟩
              intro p hp
              repeat (first | exact hp | apply List.mem_cons_of_mem)
            · show @LT.lt Nat _ _ _; kpa_ne
            · show @LT.lt Nat _ _ _; kpa_ne
          case' he =>
            intro hT h16 tk16 F17 N19
            have hbt : bv = false := by
              rw [hbv]; exact Bool.eq_false_iff.mpr fun z => hT ((takes_law hkeys).mpr z)
            subst hbt
            clear N17 N18
            (repeat' (first | (k_unfold; (try dsimp only)) | (k_end; wrow_close) | ((with_reducible show wpAny _ _ (eval (PySem.Expr.IfExp (PySem.Expr.Compare _ _ _ _) _ _ _) _) _ _ _); refine here_mark ?_) | ((with_reducible show wpAny _ _ (exec (Stmt.If (PySem.Expr.Name _ _) _ _ _) _) _ _ _); refine here_mark ?_) | ((with_reducible show wpAny _ _ (exec (Stmt.If (PySem.Expr.Compare (PySem.Expr.Call (PySem.Expr.Name _ _) _ _ _) _ _ _) _ _ _) _) _ _ _); refine here_mark ?_) | ((with_reducible show wpAny _ _ (subscriptTail _ _ (Value.ref _) (Value.int 2 _)) _ _ _); k_dflt (refine item_tupleT (by exact News.isTup (by k_asm) (by k_mem)) (by decide) (by decide) (by rfl) (by rfl) ?_; k_whole)) | ((with_reducible show wpAny _ _ (eval (PySem.Expr.ListComp (PySem.Expr.Name _ _) _ _ _) _) _ _ _); refine here_mark ?_) | ((with_reducible show wpAny _ _ (compareOp CmpOp.NotEq (Value.ref _) (Value.ref _)) _ _ _); (refine here_mark ?_)) | ((with_reducible show wpAny _ _ (exec (Stmt.If (PySem.Expr.BoolOp _ _ _) _ _ _) _) _ _ _); refine here_mark ?_) | ((with_reducible show wpAny _ _ (binaryOp _ (Value.str _ _) (Value.str _ _)) _ _ _); (k_dflt (first | (with_reducible refine add_alias (by with_reducible assumption) ?_; intro _ _) | (with_reducible refine add_word (by with_reducible assumption) (by with_reducible assumption) ?_; intro _ _)))) | ((with_reducible show wpAny _ _ (subscriptTail _ _ (Value.ref 517) (Value.int _ _)) _ _ _); k_dflt (refine word_at (by k_asm) (by with_reducible assumption) (by assumption) (by assumption) ?_ (by (intro _ _; with_unfolding_all rfl))); intro _ _ _) | ((with_reducible show wpAny _ _ (subscriptTail _ _ (Value.ref 516) (Value.int _ _)) _ _ _); k_dflt (refine alias_at (by k_asm) (by with_reducible assumption) (by assumption) (by assumption) ?_ (by (intro _ _; with_unfolding_all rfl))); intro _ _ _) | ((with_reducible show wpAny _ _ (subscriptTail _ _ (Value.ref _) (Value.int 1 _)) _ _ _); k_dflt (refine item_tupleT (by exact News.isTup (by k_asm) (by k_mem)) (by decide) (by decide) (by rfl) (by rfl) ?_; k_whole)) | ((with_reducible show wpAny _ _ (compareOp CmpOp.NotEq (Value.int _ _) (Value.int _ _)) _ _ _); (k_dflt (refine ne_int_same ?_))) | ((with_reducible show wpAny _ _ (call (Value.type _) [Value.ref _]) _ _ _); k_dflt (refine copy_list (by k_asm) (by k_asm) (by k_mem) (by assumption) ?_); intro _ _ _ _ _ q09; (try k_lt q09); revert q09; intro _) | ((with_reducible show wpAny _ _ (call (Value.builtin "list.append") _) _ _ _); (k_dflt (refine append_any (by k_asm) (by k_asm) (by k_updF) (by first | assumption | kpa_ne) ?_); intro _ _ q09; (try dsimp only at q09); revert q09; intro _)) | ((with_reducible show wpAny _ _ (subscriptTail _ _ (Value.ref _) (Value.int _ _)) _ _ _); k_dflt (refine item_any (by k_asm) (by k_mem) (by assumption) (by kpa_ne) (by assumption) ?_ (by with_unfolding_all rfl) (by kmk_pure))) | ((with_reducible show wpAny _ _ (call (Value.builtin "len") _) _ _ _); (k_dflt (refine len_any (by k_asm) (by k_mem) (by assumption) ?_))) | ((first | (with_reducible show wpAny _ _ (call (Value.ref 531) _) _ _ _) | (with_reducible show wpAny _ _ (call (Value.ref 524) _) _ _ _) | (with_reducible show wpAny _ _ (call (Value.ref 269) _) _ _ _) | (with_reducible show wpAny _ _ (call (Value.ref 513) _) _ _ _) | (with_reducible show wpAny _ _ (call (Value.ref 538) _) _ _ _) | (with_reducible show wpAny _ _ (call (Value.ref 550) _) _ _ _) | (with_reducible show wpAny _ _ (call (Value.ref 562) _) _ _ _) | (with_reducible show wpAny _ _ (call (Value.ref 545) _) _ _ _) | (with_reducible show wpAny _ _ (call (Value.ref 475) _) _ _ _) | (with_reducible show wpAny _ _ (call (Value.ref 555) _) _ _ _) | (with_reducible show wpAny _ _ (call (Value.ref 569) _) _ _ _)); refine here_mark ?_) | ((with_reducible show wpAny _ _ (call (Value.type "range") _) _ _ _); (k_dflt (refine range_N (by k_asm) (by k_asm) ?_); intro _ _ _ _ _ _ _ q09; (try k_lt q09); revert q09; intro _)) | ((with_reducible show wpAny _ _ (exec (Stmt.For _ _ _ _ _) _) _ _ _); (k_dflt (refine For_own (by k_asm) (by rfl) (by rfl) ?_))) | ((with_reducible show wpAny _ _ (pyIter (Value.ref _)) _ _ _); (refine here_mark ?_)) | ((with_reducible show wpAny _ _ (eval (PySem.Expr.Dict [] [] _) _) _ _ _); (k_dflt (refine newDict_K (by k_asm) (by k_asm) (by first | exact Top.nolimit (by k_asm) | exact Glob.nolimit (by k_asm)) ?_; k_whole); intro _ _ _ _ _ q09 _ _ _ _ _; (try k_lt q09); revert q09; intro _)) | walk1 | (dsimp only; walk1) | (leave1; walk_say "STEP leave1"; try dsimp only) | fail "no step"))
            (show P2 _ _ _ _)
            rename News s₁.heap s₁.heap.objs.size _ _ => N20
            refine of_inv4 hP2 (fun CC kQ9 => kQ9 rfl _ _ ovs ko nws5 os rfl (by k_asm) (N20.perm ?_) hps5 (fun p hp => hp) hgt5 (.inr ⟨rfl, rfl⟩))
            iterate 13 refine List.forall_mem_cons.mpr ⟨by repeat (first | exact .head _ | apply List.mem_cons_of_mem), ?_⟩
            intro p hp
            repeat (first | exact hp | apply List.mem_cons_of_mem)
        intro f s' hZ
        refine to_inv4 hP2 hZ _ ?_; rintro rfl h16 tk16 ovs1 ko1 nws1 os1 rfl F17 N20 hps1 hsub1 hgt1 hb1
        clear hZ hP2
        dsimp only
        clear N18 N17 F16 hoffH
        have hw1x := hwG hgt1
        (repeat' (first | (k_unfold; (try dsimp only)) | (k_end; wrow_close) | ((with_reducible show wpAny _ _ (eval (PySem.Expr.IfExp (PySem.Expr.Compare _ _ _ _) _ _ _) _) _ _ _); refine here_mark ?_) | ((with_reducible show wpAny _ _ (exec (Stmt.If (PySem.Expr.Name _ _) _ _ _) _) _ _ _); refine here_mark ?_) | ((with_reducible show wpAny _ _ (exec (Stmt.If (PySem.Expr.Compare (PySem.Expr.Call (PySem.Expr.Name _ _) _ _ _) _ _ _) _ _ _) _) _ _ _); refine here_mark ?_) | ((with_reducible show wpAny _ _ (subscriptTail _ _ (Value.ref _) (Value.int 2 _)) _ _ _); k_dflt (refine item_tupleT (by exact News.isTup (by k_asm) (by k_mem)) (by decide) (by decide) (by rfl) (by rfl) ?_; k_whole)) | ((with_reducible show wpAny _ _ (eval (PySem.Expr.ListComp (PySem.Expr.Name _ _) _ _ _) _) _ _ _); refine here_mark ?_) | ((with_reducible show wpAny _ _ (compareOp CmpOp.NotEq (Value.ref _) (Value.ref _)) _ _ _); (refine here_mark ?_)) | ((with_reducible show wpAny _ _ (exec (Stmt.If (PySem.Expr.BoolOp _ _ _) _ _ _) _) _ _ _); refine here_mark ?_) | ((with_reducible show wpAny _ _ (binaryOp _ (Value.str _ _) (Value.str _ _)) _ _ _); (k_dflt (first | (with_reducible refine add_alias (by with_reducible assumption) ?_; intro _ _) | (with_reducible refine add_word (by with_reducible assumption) (by with_reducible assumption) ?_; intro _ _)))) | ((with_reducible show wpAny _ _ (subscriptTail _ _ (Value.ref 517) (Value.int _ _)) _ _ _); k_dflt (refine word_at (by k_asm) (by with_reducible assumption) (by assumption) (by assumption) ?_ (by (intro _ _; with_unfolding_all rfl))); intro _ _ _) | ((with_reducible show wpAny _ _ (subscriptTail _ _ (Value.ref 516) (Value.int _ _)) _ _ _); k_dflt (refine alias_at (by k_asm) (by with_reducible assumption) (by assumption) (by assumption) ?_ (by (intro _ _; with_unfolding_all rfl))); intro _ _ _) | ((with_reducible show wpAny _ _ (subscriptTail _ _ (Value.ref _) (Value.int 1 _)) _ _ _); k_dflt (refine item_tupleT (by exact News.isTup (by k_asm) (by k_mem)) (by decide) (by decide) (by rfl) (by rfl) ?_; k_whole)) | ((with_reducible show wpAny _ _ (compareOp CmpOp.NotEq (Value.int _ _) (Value.int _ _)) _ _ _); (k_dflt (refine ne_int_same ?_))) | ((with_reducible show wpAny _ _ (call (Value.type _) [Value.ref _]) _ _ _); k_dflt (refine copy_list (by k_asm) (by k_asm) (by k_mem) (by assumption) ?_); intro _ _ _ _ _ q09; (try k_lt q09); revert q09; intro _) | ((with_reducible show wpAny _ _ (call (Value.builtin "list.append") _) _ _ _); (k_dflt (refine append_any (by k_asm) (by k_asm) (by k_updF) (by first | assumption | kpa_ne) ?_); intro _ _ q09; (try dsimp only at q09); revert q09; intro _)) | ((with_reducible show wpAny _ _ (subscriptTail _ _ (Value.ref _) (Value.int _ _)) _ _ _); k_dflt (refine item_any (by k_asm) (by k_mem) (by assumption) (by kpa_ne) (by assumption) ?_ (by with_unfolding_all rfl) (by kmk_pure))) | ((with_reducible show wpAny _ _ (call (Value.builtin "len") _) _ _ _); (k_dflt (refine len_any (by k_asm) (by k_mem) (by assumption) ?_))) | ((first | (with_reducible show wpAny _ _ (call (Value.ref 531) _) _ _ _) | (with_reducible show wpAny _ _ (call (Value.ref 524) _) _ _ _) | (with_reducible show wpAny _ _ (call (Value.ref 269) _) _ _ _) | (with_reducible show wpAny _ _ (call (Value.ref 513) _) _ _ _) | (with_reducible show wpAny _ _ (call (Value.ref 538) _) _ _ _) | (with_reducible show wpAny _ _ (call (Value.ref 550) _) _ _ _) | (with_reducible show wpAny _ _ (call (Value.ref 562) _) _ _ _) | (with_reducible show wpAny _ _ (call (Value.ref 545) _) _ _ _) | (with_reducible show wpAny _ _ (call (Value.ref 475) _) _ _ _) | (with_reducible show wpAny _ _ (call (Value.ref 555) _) _ _ _) | (with_reducible show wpAny _ _ (call (Value.ref 569) _) _ _ _)); refine here_mark ?_) | ((with_reducible show wpAny _ _ (call (Value.type "range") _) _ _ _); (k_dflt (refine range_N (by k_asm) (by k_asm) ?_); intro _ _ _ _ _ _ _ q09; (try k_lt q09); revert q09; intro _)) | ((with_reducible show wpAny _ _ (exec (Stmt.For _ _ _ _ _) _) _ _ _); (k_dflt (refine For_own (by k_asm) (by rfl) (by rfl) ?_))) | ((with_reducible show wpAny _ _ (pyIter (Value.ref _)) _ _ _); (refine here_mark ?_)) | ((with_reducible show wpAny _ _ (eval (PySem.Expr.Dict [] [] _) _) _ _ _); (k_dflt (refine newDict_K (by k_asm) (by k_asm) (by first | exact Top.nolimit (by k_asm) | exact Glob.nolimit (by k_asm)) ?_; k_whole); intro _ _ _ _ _ q09 _ _ _ _ _; (try k_lt q09); revert q09; intro _)) | walk1 | (dsimp only; walk1) | (leave1; walk_say "STEP leave1"; try dsimp only) | fail "no step"))
        refine inv_gen (fun (m : Str → Option Value) (s0 : Shared) (f : Flow) (s' : Shared) => ∀ CC : Prop, ((f = .next) → ∀ h' tk' tvs2 kt2 nws2, (s' = { s0 with heap := h', toks := tk' }) → (Fr s₁.heap s₁.heap.objs.size h' m) → (News s₁.heap s₁.heap.objs.size h' ((sg, instObj 269 sd) :: (sd, sdO) :: (op, PySem.W.listOf ovs1.toArray ko1) :: (tkl, PySem.W.listOf tvs2.toArray kt2) :: (en, oe) :: (b, ob5) :: (c, PySem.W.listOf ys.toArray ys.length) :: (I, oI) :: (rg, rngO ((kk + 1 : Nat) : Int) ug tk7 vg) :: (opn, PySem.W.listOf (dvs ++ [Value.ref bi]).toArray (kd' + 1)) :: (l, PySem.W.listOf svs.toArray 0) :: (kd, instObj 513 kdd) :: (kdd, kdO) :: (nws2 ++ own1))) → (PairsAt nws2 ovs1 os1) → (PairsAt nws2 tvs2 os1) → (OsOk os1) → ((∀ p ∈ nws5, p ∈ nws2)) → ((∀ p ∈ nws2, @Ne Nat p.1 I ∧ @LT.lt Nat _ kd p.1)) → (os1.length ≤ i + 1) → CC) → CC) ?_
        intro P3 hP3
        refine cut_at F17 (fun m s0 f s' => Here (P3 m s0 f s')) ?_ ?_
        · refine wpAny_If ?_
          rcases hb1 with ⟨rfl, hok1, hlen1, ha0, nm, x, hx, hnm, rfl⟩ | ⟨rfl, rfl⟩
          · (repeat' (first | (k_unfold; (try dsimp only)) | (k_end; wrow_close) | ((with_reducible show wpAny _ _ (eval (PySem.Expr.IfExp (PySem.Expr.Compare _ _ _ _) _ _ _) _) _ _ _); refine here_mark ?_) | ((with_reducible show wpAny _ _ (exec (Stmt.If (PySem.Expr.Name _ _) _ _ _) _) _ _ _); refine here_mark ?_) | ((with_reducible show wpAny _ _ (exec (Stmt.If (PySem.Expr.Compare (PySem.Expr.Call (PySem.Expr.Name _ _) _ _ _) _ _ _) _ _ _) _) _ _ _); refine here_mark ?_) | ((with_reducible show wpAny _ _ (subscriptTail _ _ (Value.ref _) (Value.int 2 _)) _ _ _); k_dflt (refine item_tupleT (by exact News.isTup (by k_asm) (by k_mem)) (by decide) (by decide) (by rfl) (by rfl) ?_; k_whole)) | ((with_reducible show wpAny _ _ (eval (PySem.Expr.ListComp (PySem.Expr.Name _ _) _ _ _) _) _ _ _); refine here_mark ?_) | ((with_reducible show wpAny _ _ (compareOp CmpOp.NotEq (Value.ref _) (Value.ref _)) _ _ _); (refine here_mark ?_)) | ((with_reducible show wpAny _ _ (exec (Stmt.If (PySem.Expr.BoolOp _ _ _) _ _ _) _) _ _ _); refine here_mark ?_) | ((with_reducible show wpAny _ _ (binaryOp _ (Value.str _ _) (Value.str _ _)) _ _ _); (k_dflt (first | (with_reducible refine add_alias (by with_reducible assumption) ?_; intro _ _) | (with_reducible refine add_word (by with_reducible assumption) (by with_reducible assumption) ?_; intro _ _)))) | ((with_reducible show wpAny _ _ (subscriptTail _ _ (Value.ref 517) (Value.int _ _)) _ _ _); k_dflt (refine word_at (by k_asm) (by with_reducible assumption) (by assumption) (by assumption) ?_ (by (intro _ _; with_unfolding_all rfl))); intro _ _ _) | ((with_reducible show wpAny _ _ (subscriptTail _ _ (Value.ref 516) (Value.int _ _)) _ _ _); k_dflt (refine alias_at (by k_asm) (by with_reducible assumption) (by assumption) (by assumption) ?_ (by (intro _ _; with_unfolding_all rfl))); intro _ _ _) | ((with_reducible show wpAny _ _ (subscriptTail _ _ (Value.ref _) (Value.int 1 _)) _ _ _); k_dflt (refine item_tupleT (by exact News.isTup (by k_asm) (by k_mem)) (by decide) (by decide) (by rfl) (by rfl) ?_; k_whole)) | ((with_reducible show wpAny _ _ (compareOp CmpOp.NotEq (Value.int _ _) (Value.int _ _)) _ _ _); (k_dflt (refine ne_int_same ?_))) | ((with_reducible show wpAny _ _ (call (Value.type _) [Value.ref _]) _ _ _); k_dflt (refine copy_list (by k_asm) (by k_asm) (by k_mem) (by assumption) ?_); intro _ _ _ _ _ q09; (try k_lt q09); revert q09; intro _) | ((with_reducible show wpAny _ _ (call (Value.builtin "list.append") _) _ _ _); (k_dflt (refine append_any (by k_asm) (by k_asm) (by k_updF) (by first | assumption | kpa_ne) ?_); intro _ _ q09; (try dsimp only at q09); revert q09; intro _)) | ((with_reducible show wpAny _ _ (subscriptTail _ _ (Value.ref _) (Value.int _ _)) _ _ _); k_dflt (refine item_any (by k_asm) (by k_mem) (by assumption) (by kpa_ne) (by assumption) ?_ (by with_unfolding_all rfl) (by kmk_pure))) | ((with_reducible show wpAny _ _ (call (Value.builtin "len") _) _ _ _); (k_dflt (refine len_any (by k_asm) (by k_mem) (by assumption) ?_))) | ((first | (with_reducible show wpAny _ _ (call (Value.ref 531) _) _ _ _) | (with_reducible show wpAny _ _ (call (Value.ref 524) _) _ _ _) | (with_reducible show wpAny _ _ (call (Value.ref 269) _) _ _ _) | (with_reducible show wpAny _ _ (call (Value.ref 513) _) _ _ _) | (with_reducible show wpAny _ _ (call (Value.ref 538) _) _ _ _) | (with_reducible show wpAny _ _ (call (Value.ref 550) _) _ _ _) | (with_reducible show wpAny _ _ (call (Value.ref 562) _) _ _ _) | (with_reducible show wpAny _ _ (call (Value.ref 545) _) _ _ _) | (with_reducible show wpAny _ _ (call (Value.ref 475) _) _ _ _) | (with_reducible show wpAny _ _ (call (Value.ref 555) _) _ _ _) | (with_reducible show wpAny _ _ (call (Value.ref 569) _) _ _ _)); refine here_mark ?_) | ((with_reducible show wpAny _ _ (call (Value.type "range") _) _ _ _); (k_dflt (refine range_N (by k_asm) (by k_asm) ?_); intro _ _ _ _ _ _ _ q09; (try k_lt q09); revert q09; intro _)) | ((with_reducible show wpAny _ _ (exec (Stmt.For _ _ _ _ _) _) _ _ _); (k_dflt (refine For_own (by k_asm) (by rfl) (by rfl) ?_))) | ((with_reducible show wpAny _ _ (pyIter (Value.ref _)) _ _ _); (refine here_mark ?_)) | ((with_reducible show wpAny _ _ (eval (PySem.Expr.Dict [] [] _) _) _ _ _); (k_dflt (refine newDict_K (by k_asm) (by k_asm) (by first | exact Top.nolimit (by k_asm) | exact Glob.nolimit (by k_asm)) ?_; k_whole); intro _ _ _ _ _ q09 _ _ _ _ _; (try k_lt q09); revert q09; intro _)) | walk1 | (dsimp only; walk1) | (leave1; walk_say "STEP leave1"; try dsimp only) | fail "no step"))
            change wpAny _ _ _ _ _ _
            have hm1b : _ ∈ nws1 ++ own1 := List.mem_append.mpr (.inl (hsub1 _ hm1))
            have hm2b : _ ∈ nws1 ++ own1 := List.mem_append.mpr (.inl (hsub1 _ hm2))
            refine row_K K0 (by k_asm) KX N20 T (by k_mem) (by k_mem) (by ktr_room) (by ktr_units) hargs5 ha0 hal ?_
            intro p2 nm2 x2 r2 ta2 tb2 h17 tk17 e12 e22 F18 N21 l21
            clear N20
            obtain rfl : nm2 = nm := by rw [← hnm, ← e22]
            obtain rfl : x2 = x := by rw [hx] at e12; cases e12; rfl
            have o21b : @LT.lt Nat _ I p2 := l21 (I, oI) (by repeat (first | exact .head _ | apply List.mem_cons_of_mem))
            have o21c : @LT.lt Nat _ kd p2 := l21 (kd, instObj 513 kdd) (by repeat (first | exact .head _ | apply List.mem_cons_of_mem))
            have o21d : @LT.lt Nat _ tkl p2 := l21 (tkl, PySem.W.listOf tvs.toArray kt) (by repeat (first | exact .head _ | apply List.mem_cons_of_mem))
            (repeat' (first | (k_unfold; (try dsimp only)) | (k_end; wrow_close) | ((with_reducible show wpAny _ _ (eval (PySem.Expr.IfExp (PySem.Expr.Compare _ _ _ _) _ _ _) _) _ _ _); refine here_mark ?_) | ((with_reducible show wpAny _ _ (exec (Stmt.If (PySem.Expr.Name _ _) _ _ _) _) _ _ _); refine here_mark ?_) | ((with_reducible show wpAny _ _ (exec (Stmt.If (PySem.Expr.Compare (PySem.Expr.Call (PySem.Expr.Name _ _) _ _ _) _ _ _) _ _ _) _) _ _ _); refine here_mark ?_) | ((with_reducible show wpAny _ _ (subscriptTail _ _ (Value.ref _) (Value.int 2 _)) _ _ _); k_dflt (refine item_tupleT (by exact News.isTup (by k_asm) (by k_mem)) (by decide) (by decide) (by rfl) (by rfl) ?_; k_whole)) | ((with_reducible show wpAny _ _ (eval (PySem.Expr.ListComp (PySem.Expr.Name _ _) _ _ _) _) _ _ _); refine here_mark ?_) | ((with_reducible show wpAny _ _ (compareOp CmpOp.NotEq (Value.ref _) (Value.ref _)) _ _ _); (refine here_mark ?_)) | ((with_reducible show wpAny _ _ (exec (Stmt.If (PySem.Expr.BoolOp _ _ _) _ _ _) _) _ _ _); refine here_mark ?_) | ((with_reducible show wpAny _ _ (binaryOp _ (Value.str _ _) (Value.str _ _)) _ _ _); (k_dflt (first | (with_reducible refine add_alias (by with_reducible assumption) ?_; intro _ _) | (with_reducible refine add_word (by with_reducible assumption) (by with_reducible assumption) ?_; intro _ _)))) | ((with_reducible show wpAny _ _ (subscriptTail _ _ (Value.ref 517) (Value.int _ _)) _ _ _); k_dflt (refine word_at (by k_asm) (by with_reducible assumption) (by assumption) (by assumption) ?_ (by (intro _ _; with_unfolding_all rfl))); intro _ _ _) | ((with_reducible show wpAny _ _ (subscriptTail _ _ (Value.ref 516) (Value.int _ _)) _ _ _); k_dflt (refine alias_at (by k_asm) (by with_reducible assumption) (by assumption) (by assumption) ?_ (by (intro _ _; with_unfolding_all rfl))); intro _ _ _) | ((with_reducible show wpAny _ _ (subscriptTail _ _ (Value.ref _) (Value.int 1 _)) _ _ _); k_dflt (refine item_tupleT (by exact News.isTup (by k_asm) (by k_mem)) (by decide) (by decide) (by rfl) (by rfl) ?_; k_whole)) | ((with_reducible show wpAny _ _ (compareOp CmpOp.NotEq (Value.int _ _) (Value.int _ _)) _ _ _); (k_dflt (refine ne_int_same ?_))) | ((with_reducible show wpAny _ _ (call (Value.type _) [Value.ref _]) _ _ _); k_dflt (refine copy_list (by k_asm) (by k_asm) (by k_mem) (by assumption) ?_); intro _ _ _ _ _ q09; (try k_lt q09); revert q09; intro _) | ((with_reducible show wpAny _ _ (call (Value.builtin "list.append") _) _ _ _); (k_dflt (refine append_any (by k_asm) (by k_asm) (by k_updF) (by first | assumption | kpa_ne) ?_); intro _ _ q09; (try dsimp only at q09); revert q09; intro _)) | ((with_reducible show wpAny _ _ (subscriptTail _ _ (Value.ref _) (Value.int _ _)) _ _ _); k_dflt (refine item_any (by k_asm) (by k_mem) (by assumption) (by kpa_ne) (by assumption) ?_ (by with_unfolding_all rfl) (by kmk_pure))) | ((with_reducible show wpAny _ _ (call (Value.builtin "len") _) _ _ _); (k_dflt (refine len_any (by k_asm) (by k_mem) (by assumption) ?_))) | ((first | (with_reducible show wpAny _ _ (call (Value.ref 531) _) _ _ _) | (with_reducible show wpAny _ _ (call (Value.ref 524) _) _ _ _) | (with_reducible show wpAny _ _ (call (Value.ref 269) _) _ _ _) | (with_reducible show wpAny _ _ (call (Value.ref 513) _) _ _ _) | (with_reducible show wpAny _ _ (call (Value.ref 538) _) _ _ _) | (with_reducible show wpAny _ _ (call (Value.ref 550) _) _ _ _) | (with_reducible show wpAny _ _ (call (Value.ref 562) _) _ _ _) | (with_reducible show wpAny _ _ (call (Value.ref 545) _) _ _ _) | (with_reducible show wpAny _ _ (call (Value.ref 475) _) _ _ _) | (with_reducible show wpAny _ _ (call (Value.ref 555) _) _ _ _) | (with_reducible show wpAny _ _ (call (Value.ref 569) _) _ _ _)); refine here_mark ?_) | ((with_reducible show wpAny _ _ (call (Value.type "range") _) _ _ _); (k_dflt (refine range_N (by k_asm) (by k_asm) ?_); intro _ _ _ _ _ _ _ q09; (try k_lt q09); revert q09; intro _)) | ((with_reducible show wpAny _ _ (exec (Stmt.For _ _ _ _ _) _) _ _ _); (k_dflt (refine For_own (by k_asm) (by rfl) (by rfl) ?_))) | ((with_reducible show wpAny _ _ (pyIter (Value.ref _)) _ _ _); (refine here_mark ?_)) | ((with_reducible show wpAny _ _ (eval (PySem.Expr.Dict [] [] _) _) _ _ _); (k_dflt (refine newDict_K (by k_asm) (by k_asm) (by first | exact Top.nolimit (by k_asm) | exact Glob.nolimit (by k_asm)) ?_; k_whole); intro _ _ _ _ _ q09 _ _ _ _ _; (try k_lt q09); revert q09; intro _)) | walk1 | (dsimp only; walk1) | (leave1; walk_say "STEP leave1"; try dsimp only) | fail "no step"))
            (show P3 _ _ _ _)
            rename News s₁.heap s₁.heap.objs.size _ _ => N22
            refine of_inv4 hP3 (fun CC kQ9 => kQ9 rfl _ _ (tvs ++ [Value.ref p2]) (kt + 1) ((p2, tupO [.str nm2 ta2, .str x2 tb2]) :: nws1) rfl (by k_asm) (N22.perm ?_) (PairsAt.mono (fun _ h => .tail _ h) hps1) (PairsAt.snoc (o := (nm2, x2)) ⟨p2, ta2, tb2, rfl, .head _⟩ (PairsAt.mono (fun p hp => .tail _ (hsub1 p hp)) hqs5)) hok1 (fun p hp => .tail _ (hsub1 p hp)) (List.forall_mem_cons.mpr ⟨⟨Nat.ne_of_gt o21b, o21c⟩, hgt1⟩) hlen1)
            iterate 14 refine List.forall_mem_cons.mpr ⟨by repeat (first | exact .head _ | apply List.mem_cons_of_mem), ?_⟩
            intro p hp
            repeat (first | exact hp | apply List.mem_cons_of_mem)
          · (repeat' (first | (k_unfold; (try dsimp only)) | (k_end; wrow_close) | ((with_reducible show wpAny _ _ (eval (PySem.Expr.IfExp (PySem.Expr.Compare _ _ _ _) _ _ _) _) _ _ _); refine here_mark ?_) | ((with_reducible show wpAny _ _ (exec (Stmt.If (PySem.Expr.Name _ _) _ _ _) _) _ _ _); refine here_mark ?_) | ((with_reducible show wpAny _ _ (exec (Stmt.If (PySem.Expr.Compare (PySem.Expr.Call (PySem.Expr.Name _ _) _ _ _) _ _ _) _ _ _) _) _ _ _); refine here_mark ?_) | ((with_reducible show wpAny _ _ (subscriptTail _ _ (Value.ref _) (Value.int 2 _)) _ _ _); k_dflt (refine item_tupleT (by exact News.isTup (by k_asm) (by k_mem)) (by decide) (by decide) (by rfl) (by rfl) ?_; k_whole)) | ((with_reducible show wpAny _ _ (eval (PySem.Expr.ListComp (PySem.Expr.Name _ _) _ _ _) _) _ _ _); refine here_mark ?_) | ((with_reducible show wpAny _ _ (compareOp CmpOp.NotEq (Value.ref _) (Value.ref _)) _ _ _); (refine here_mark ?_)) | ((with_reducible show wpAny _ _ (exec (Stmt.If (PySem.Expr.BoolOp _ _ _) _ _ _) _) _ _ _); refine here_mark ?_) | ((with_reducible show wpAny _ _ (binaryOp _ (Value.str _ _) (Value.str _ _)) _ _ _); (k_dflt (first | (with_reducible refine add_alias (by with_reducible assumption) ?_; intro _ _) | (with_reducible refine add_word (by with_reducible assumption) (by with_reducible assumption) ?_; intro _ _)))) | ((with_reducible show wpAny _ _ (subscriptTail _ _ (Value.ref 517) (Value.int _ _)) _ _ _); k_dflt (refine word_at (by k_asm) (by with_reducible assumption) (by assumption) (by assumption) ?_ (by (intro _ _; with_unfolding_all rfl))); intro _ _ _) | ((with_reducible show wpAny _ _ (subscriptTail _ _ (Value.ref 516) (Value.int _ _)) _ _ _); k_dflt (refine alias_at (by k_asm) (by with_reducible assumption) (by assumption) (by assumption) ?_ (by (intro _ _; with_unfolding_all rfl))); intro _ _ _) | ((with_reducible show wpAny _ _ (subscriptTail _ _ (Value.ref _) (Value.int 1 _)) _ _ _); k_dflt (refine item_tupleT (by exact News.isTup (by k_asm) (by k_mem)) (by decide) (by decide) (by rfl) (by rfl) ?_; k_whole)) | ((with_reducible show wpAny _ _ (compareOp CmpOp.NotEq (Value.int _ _) (Value.int _ _)) _ _ _); (k_dflt (refine ne_int_same ?_))) | ((with_reducible show wpAny _ _ (call (Value.type _) [Value.ref _]) _ _ _); k_dflt (refine copy_list (by k_asm) (by k_asm) (by k_mem) (by assumption) ?_); intro _ _ _ _ _ q09; (try k_lt q09); revert q09; intro _) | ((with_reducible show wpAny _ _ (call (Value.builtin "list.append") _) _ _ _); (k_dflt (refine append_any (by k_asm) (by k_asm) (by k_updF) (by first | assumption | kpa_ne) ?_); intro _ _ q09; (try dsimp only at q09); revert q09; intro _)) | ((with_reducible show wpAny _ _ (subscriptTail _ _ (Value.ref _) (Value.int _ _)) _ _ _); k_dflt (refine item_any (by k_asm) (by k_mem) (by assumption) (by kpa_ne) (by assumption) ?_ (by with_unfolding_all rfl) (by kmk_pure))) | ((with_reducible show wpAny _ _ (call (Value.builtin "len") _) _ _ _); (k_dflt (refine len_any (by k_asm) (by k_mem) (by assumption) ?_))) | ((first | (with_reducible show wpAny _ _ (call (Value.ref 531) _) _ _ _) | (with_reducible show wpAny _ _ (call (Value.ref 524) _) _ _ _) | (with_reducible show wpAny _ _ (call (Value.ref 269) _) _ _ _) | (with_reducible show wpAny _ _ (call (Value.ref 513) _) _ _ _) | (with_reducible show wpAny _ _ (call (Value.ref 538) _) _ _ _) | (with_reducible show wpAny _ _ (call (Value.ref 550) _) _ _ _) | (with_reducible show wpAny _ _ (call (Value.ref 562) _) _ _ _) | (with_reducible show wpAny _ _ (call (Value.ref 545) _) _ _ _) | (with_reducible show wpAny _ _ (call (Value.ref 475) _) _ _ _) | (with_reducible show wpAny _ _ (call (Value.ref 555) _) _ _ _) | (with_reducible show wpAny _ _ (call (Value.ref 569) _) _ _ _)); refine here_mark ?_) | ((with_reducible show wpAny _ _ (call (Value.type "range") _) _ _ _); (k_dflt (refine range_N (by k_asm) (by k_asm) ?_); intro _ _ _ _ _ _ _ q09; (try k_lt q09); revert q09; intro _)) | ((with_reducible show wpAny _ _ (exec (Stmt.For _ _ _ _ _) _) _ _ _); (k_dflt (refine For_own (by k_asm) (by rfl) (by rfl) ?_))) | ((with_reducible show wpAny _ _ (pyIter (Value.ref _)) _ _ _); (refine here_mark ?_)) | ((with_reducible show wpAny _ _ (eval (PySem.Expr.Dict [] [] _) _) _ _ _); (k_dflt (refine newDict_K (by k_asm) (by k_asm) (by first | exact Top.nolimit (by k_asm) | exact Glob.nolimit (by k_asm)) ?_; k_whole); intro _ _ _ _ _ q09 _ _ _ _ _; (try k_lt q09); revert q09; intro _)) | walk1 | (dsimp only; walk1) | (leave1; walk_say "STEP leave1"; try dsimp only) | fail "no step"))
            (show P3 _ _ _ _)
            exact of_inv4 hP3 (fun CC kQ9 => kQ9 rfl _ _ tvs kt nws1 rfl (by k_asm) (by k_asm) hps1 (hqs5.mono hsub1) hos hsub1 hgt1 (Nat.le_succ_of_le hol))
        intro f s' hZ
        refine to_inv4 hP3 hZ _ ?_; rintro rfl h17 tk17 tvs2 kt2 nws2 rfl F18 N21 hps2 hqs2 hos2 hsub2 hgt2 hlen2
        clear hZ hP3
        dsimp only
        clear N20 F17 hw1x
        have ovl1 : ovs1.length ≤ 1000 := Nat.le_trans (Nat.le_of_eq hps2.length) (Nat.le_trans hlen2 (Nat.le_trans hi8 (by decide)))
        (repeat' (first | (k_unfold; (try dsimp only)) | (k_end; wrow_close) | ((with_reducible show wpAny _ _ (eval (PySem.Expr.IfExp (PySem.Expr.Compare _ _ _ _) _ _ _) _) _ _ _); refine here_mark ?_) | ((with_reducible show wpAny _ _ (exec (Stmt.If (PySem.Expr.Name _ _) _ _ _) _) _ _ _); refine here_mark ?_) | ((with_reducible show wpAny _ _ (exec (Stmt.If (PySem.Expr.Compare (PySem.Expr.Call (PySem.Expr.Name _ _) _ _ _) _ _ _) _ _ _) _) _ _ _); refine here_mark ?_) | ((with_reducible show wpAny _ _ (subscriptTail _ _ (Value.ref _) (Value.int 2 _)) _ _ _); k_dflt (refine item_tupleT (by exact News.isTup (by k_asm) (by k_mem)) (by decide) (by decide) (by rfl) (by rfl) ?_; k_whole)) | ((with_reducible show wpAny _ _ (eval (PySem.Expr.ListComp (PySem.Expr.Name _ _) _ _ _) _) _ _ _); refine here_mark ?_) | ((with_reducible show wpAny _ _ (compareOp CmpOp.NotEq (Value.ref _) (Value.ref _)) _ _ _); (refine here_mark ?_)) | ((with_reducible show wpAny _ _ (exec (Stmt.If (PySem.Expr.BoolOp _ _ _) _ _ _) _) _ _ _); refine here_mark ?_) | ((with_reducible show wpAny _ _ (binaryOp _ (Value.str _ _) (Value.str _ _)) _ _ _); (k_dflt (first | (with_reducible refine add_alias (by with_reducible assumption) ?_; intro _ _) | (with_reducible refine add_word (by with_reducible assumption) (by with_reducible assumption) ?_; intro _ _)))) | ((with_reducible show wpAny _ _ (subscriptTail _ _ (Value.ref 517) (Value.int _ _)) _ _ _); k_dflt (refine word_at (by k_asm) (by with_reducible assumption) (by assumption) (by assumption) ?_ (by (intro _ _; with_unfolding_all rfl))); intro _ _ _) | ((with_reducible show wpAny _ _ (subscriptTail _ _ (Value.ref 516) (Value.int _ _)) _ _ _); k_dflt (refine alias_at (by k_asm) (by with_reducible assumption) (by assumption) (by assumption) ?_ (by (intro _ _; with_unfolding_all rfl))); intro _ _ _) | ((with_reducible show wpAny _ _ (subscriptTail _ _ (Value.ref _) (Value.int 1 _)) _ _ _); k_dflt (refine item_tupleT (by exact News.isTup (by k_asm) (by k_mem)) (by decide) (by decide) (by rfl) (by rfl) ?_; k_whole)) | ((with_reducible show wpAny _ _ (compareOp CmpOp.NotEq (Value.int _ _) (Value.int _ _)) _ _ _); (k_dflt (refine ne_int_same ?_))) | ((with_reducible show wpAny _ _ (call (Value.type _) [Value.ref _]) _ _ _); k_dflt (refine copy_list (by k_asm) (by k_asm) (by k_mem) (by assumption) ?_); intro _ _ _ _ _ q09; (try k_lt q09); revert q09; intro _) | ((with_reducible show wpAny _ _ (call (Value.builtin "list.append") _) _ _ _); (k_dflt (refine append_any (by k_asm) (by k_asm) (by k_updF) (by first | assumption | kpa_ne) ?_); intro _ _ q09; (try dsimp only at q09); revert q09; intro _)) | ((with_reducible show wpAny _ _ (subscriptTail _ _ (Value.ref _) (Value.int _ _)) _ _ _); k_dflt (refine item_any (by k_asm) (by k_mem) (by assumption) (by kpa_ne) (by assumption) ?_ (by with_unfolding_all rfl) (by kmk_pure))) | ((with_reducible show wpAny _ _ (call (Value.builtin "len") _) _ _ _); (k_dflt (refine len_any (by k_asm) (by k_mem) (by assumption) ?_))) | ((first | (with_reducible show wpAny _ _ (call (Value.ref 531) _) _ _ _) | (with_reducible show wpAny _ _ (call (Value.ref 524) _) _ _ _) | (with_reducible show wpAny _ _ (call (Value.ref 269) _) _ _ _) | (with_reducible show wpAny _ _ (call (Value.ref 513) _) _ _ _) | (with_reducible show wpAny _ _ (call (Value.ref 538) _) _ _ _) | (with_reducible show wpAny _ _ (call (Value.ref 550) _) _ _ _) | (with_reducible show wpAny _ _ (call (Value.ref 562) _) _ _ _) | (with_reducible show wpAny _ _ (call (Value.ref 545) _) _ _ _) | (with_reducible show wpAny _ _ (call (Value.ref 475) _) _ _ _) | (with_reducible show wpAny _ _ (call (Value.ref 555) _) _ _ _) | (with_reducible show wpAny _ _ (call (Value.ref 569) _) _ _ _)); refine here_mark ?_) | ((with_reducible show wpAny _ _ (call (Value.type "range") _) _ _ _); (k_dflt (refine range_N (by k_asm) (by k_asm) ?_); intro _ _ _ _ _ _ _ q09; (try k_lt q09); revert q09; intro _)) | ((with_reducible show wpAny _ _ (exec (Stmt.For _ _ _ _ _) _) _ _ _); (k_dflt (refine For_own (by k_asm) (by rfl) (by rfl) ?_))) | ((with_reducible show wpAny _ _ (pyIter (Value.ref _)) _ _ _); (refine here_mark ?_)) | ((with_reducible show wpAny _ _ (eval (PySem.Expr.Dict [] [] _) _) _ _ _); (k_dflt (refine newDict_K (by k_asm) (by k_asm) (by first | exact Top.nolimit (by k_asm) | exact Glob.nolimit (by k_asm)) ?_; k_whole); intro _ _ _ _ _ q09 _ _ _ _ _; (try k_lt q09); revert q09; intro _)) | walk1 | (dsimp only; walk1) | (leave1; walk_say "STEP leave1"; try dsimp only) | fail "no step"))
        change wpAny _ _ _ _ _ _
        rename_i BB9 XX9 TT9 lf1 lf2 lf3 lf4 D9 c9 hh9 Fi Ni lD kF9 kN9 Gc9 kX9
        clear BB9 XX9 Fi Ni kX9 Gc9
        refine dat_same kN9 (pairs_in hps2 (k := c9) (fun p hp => by
            (repeat apply List.mem_cons_of_mem)
            exact List.mem_append.mpr (.inl hp)) (by repeat (first | exact .head _ | apply List.mem_cons_of_mem))) (pairs_in hqs2 (k := kt2) (fun p hp => by
            (repeat apply List.mem_cons_of_mem)
            exact List.mem_append.mpr (.inl hp)) (by repeat (first | exact .head _ | apply List.mem_cons_of_mem))) (pairs_ok hos2) (by ktr_units) ?_
        (repeat' (first | (k_unfold; (try dsimp only)) | (k_end; wrow_close) | ((with_reducible show wpAny _ _ (eval (PySem.Expr.IfExp (PySem.Expr.Compare _ _ _ _) _ _ _) _) _ _ _); refine here_mark ?_) | ((with_reducible show wpAny _ _ (exec (Stmt.If (PySem.Expr.Name _ _) _ _ _) _) _ _ _); refine here_mark ?_) | ((with_reducible show wpAny _ _ (exec (Stmt.If (PySem.Expr.Compare (PySem.Expr.Call (PySem.Expr.Name _ _) _ _ _) _ _ _) _ _ _) _) _ _ _); refine here_mark ?_) | ((with_reducible show wpAny _ _ (subscriptTail _ _ (Value.ref _) (Value.int 2 _)) _ _ _); k_dflt (refine item_tupleT (by exact News.isTup (by k_asm) (by k_mem)) (by decide) (by decide) (by rfl) (by rfl) ?_; k_whole)) | ((with_reducible show wpAny _ _ (eval (PySem.Expr.ListComp (PySem.Expr.Name _ _) _ _ _) _) _ _ _); refine here_mark ?_) | ((with_reducible show wpAny _ _ (compareOp CmpOp.NotEq (Value.ref _) (Value.ref _)) _ _ _); (refine here_mark ?_)) | ((with_reducible show wpAny _ _ (exec (Stmt.If (PySem.Expr.BoolOp _ _ _) _ _ _) _) _ _ _); refine here_mark ?_) | ((with_reducible show wpAny _ _ (binaryOp _ (Value.str _ _) (Value.str _ _)) _ _ _); (k_dflt (first | (with_reducible refine add_alias (by with_reducible assumption) ?_; intro _ _) | (with_reducible refine add_word (by with_reducible assumption) (by with_reducible assumption) ?_; intro _ _)))) | ((with_reducible show wpAny _ _ (subscriptTail _ _ (Value.ref 517) (Value.int _ _)) _ _ _); k_dflt (refine word_at (by k_asm) (by with_reducible assumption) (by assumption) (by assumption) ?_ (by (intro _ _; with_unfolding_all rfl))); intro _ _ _) | ((with_reducible show wpAny _ _ (subscriptTail _ _ (Value.ref 516) (Value.int _ _)) _ _ _); k_dflt (refine alias_at (by k_asm) (by with_reducible assumption) (by assumption) (by assumption) ?_ (by (intro _ _; with_unfolding_all rfl))); intro _ _ _) | ((with_reducible show wpAny _ _ (subscriptTail _ _ (Value.ref _) (Value.int 1 _)) _ _ _); k_dflt (refine item_tupleT (by exact News.isTup (by k_asm) (by k_mem)) (by decide) (by decide) (by rfl) (by rfl) ?_; k_whole)) | ((with_reducible show wpAny _ _ (compareOp CmpOp.NotEq (Value.int _ _) (Value.int _ _)) _ _ _); (k_dflt (refine ne_int_same ?_))) | ((with_reducible show wpAny _ _ (call (Value.type _) [Value.ref _]) _ _ _); k_dflt (refine copy_list (by k_asm) (by k_asm) (by k_mem) (by assumption) ?_); intro _ _ _ _ _ q09; (try k_lt q09); revert q09; intro _) | ((with_reducible show wpAny _ _ (call (Value.builtin "list.append") _) _ _ _); (k_dflt (refine append_any (by k_asm) (by k_asm) (by k_updF) (by first | assumption | kpa_ne) ?_); intro _ _ q09; (try dsimp only at q09); revert q09; intro _)) | ((with_reducible show wpAny _ _ (subscriptTail _ _ (Value.ref _) (Value.int _ _)) _ _ _); k_dflt (refine item_any (by k_asm) (by k_mem) (by assumption) (by kpa_ne) (by assumption) ?_ (by with_unfolding_all rfl) (by kmk_pure))) | ((with_reducible show wpAny _ _ (call (Value.builtin "len") _) _ _ _); (k_dflt (refine len_any (by k_asm) (by k_mem) (by assumption) ?_))) | ((first | (with_reducible show wpAny _ _ (call (Value.ref 531) _) _ _ _) | (with_reducible show wpAny _ _ (call (Value.ref 524) _) _ _ _) | (with_reducible show wpAny _ _ (call (Value.ref 269) _) _ _ _) | (with_reducible show wpAny _ _ (call (Value.ref 513) _) _ _ _) | (with_reducible show wpAny _ _ (call (Value.ref 538) _) _ _ _) | (with_reducible show wpAny _ _ (call (Value.ref 550) _) _ _ _) | (with_reducible show wpAny _ _ (call (Value.ref 562) _) _ _ _) | (with_reducible show wpAny _ _ (call (Value.ref 545) _) _ _ _) | (with_reducible show wpAny _ _ (call (Value.ref 475) _) _ _ _) | (with_reducible show wpAny _ _ (call (Value.ref 555) _) _ _ _) | (with_reducible show wpAny _ _ (call (Value.ref 569) _) _ _ _)); refine here_mark ?_) | ((with_reducible show wpAny _ _ (call (Value.type "range") _) _ _ _); (k_dflt (refine range_N (by k_asm) (by k_asm) ?_); intro _ _ _ _ _ _ _ q09; (try k_lt q09); revert q09; intro _)) | ((with_reducible show wpAny _ _ (exec (Stmt.For _ _ _ _ _) _) _ _ _); (k_dflt (refine For_own (by k_asm) (by rfl) (by rfl) ?_))) | ((with_reducible show wpAny _ _ (pyIter (Value.ref _)) _ _ _); (refine here_mark ?_)) | ((with_reducible show wpAny _ _ (eval (PySem.Expr.Dict [] [] _) _) _ _ _); (k_dflt (refine newDict_K (by k_asm) (by k_asm) (by first | exact Top.nolimit (by k_asm) | exact Glob.nolimit (by k_asm)) ?_; k_whole); intro _ _ _ _ _ q09 _ _ _ _ _; (try k_lt q09); revert q09; intro _)) | walk1 | (dsimp only; walk1) | (leave1; walk_say "STEP leave1"; try dsimp only) | fail "no step"))
        change wpAny _ _ _ _ _ _
        have N30 : News s₁.heap s₁.heap.objs.size hh9 ((b, ob5) :: (c, PySem.W.listOf ys.toArray ys.length) :: (kd, instObj 513 kdd) :: (kdd, kdO) :: (sg, instObj 269 sd) :: (sd, sdO) :: (op, PySem.W.listOf ovs1.toArray ko1) :: (tkl, PySem.W.listOf tvs2.toArray kt2) :: (en, oe) :: (I, oI) :: (rg, rngO ((kk + 1 : Nat) : Int) ug tk7 vg) :: (opn, PySem.W.listOf (dvs ++ [Value.ref bi]).toArray (kd' + 1)) :: (l, PySem.W.listOf svs.toArray 0) :: (nws2 ++ own1)) := kN9.perm (by
          iterate 13 refine List.forall_mem_cons.mpr ⟨by repeat (first | exact .head _ | apply List.mem_cons_of_mem), ?_⟩
          intro p hp
          repeat (first | exact hp | apply List.mem_cons_of_mem))
        clear kN9
        have hoff30 : OwnOff ((kd, instObj 513 kdd) :: (kdd, kdO) :: (sg, instObj 269 sd) :: (sd, sdO) :: (op, PySem.W.listOf ovs1.toArray ko1) :: (tkl, PySem.W.listOf tvs2.toArray kt2) :: (en, oe) :: (I, oI) :: (rg, rngO ((kk + 1 : Nat) : Int) ug tk7 vg) :: (opn, PySem.W.listOf (dvs ++ [Value.ref bi]).toArray (kd' + 1)) :: (l, PySem.W.listOf svs.toArray 0) :: (nws2 ++ own1)) [b] := by
          refine offC (offC (offC (offC (offC (offC (offC (offC (offC (offC (offC (offA hoff1 fun p hp => Nat.lt_trans hbk (hgt2 p hp).2) ?_) ?_) ?_) ?_) ?_) ?_) ?_) ?_) ?_) ?_) ?_
          all_goals (first | exact hib | exact Nat.ne_of_gt (by assumption))
        refine draw_B K0 (by k_asm) KX N30 T hb5 (by kpa_ne) (by ktr_room) (by ktr_units) lo hbc hoff30 hI8 hcn (by decide) (by decide) ?_
        intro ra tra ha tka oba ra0 ra1 Fa Na hba
        clear N30
        (repeat' (first | (k_unfold; (try dsimp only)) | (k_end; wrow_close) | ((with_reducible show wpAny _ _ (eval (PySem.Expr.IfExp (PySem.Expr.Compare _ _ _ _) _ _ _) _) _ _ _); refine here_mark ?_) | ((with_reducible show wpAny _ _ (exec (Stmt.If (PySem.Expr.Name _ _) _ _ _) _) _ _ _); refine here_mark ?_) | ((with_reducible show wpAny _ _ (exec (Stmt.If (PySem.Expr.Compare (PySem.Expr.Call (PySem.Expr.Name _ _) _ _ _) _ _ _) _ _ _) _) _ _ _); refine here_mark ?_) | ((with_reducible show wpAny _ _ (subscriptTail _ _ (Value.ref _) (Value.int 2 _)) _ _ _); k_dflt (refine item_tupleT (by exact News.isTup (by k_asm) (by k_mem)) (by decide) (by decide) (by rfl) (by rfl) ?_; k_whole)) | ((with_reducible show wpAny _ _ (eval (PySem.Expr.ListComp (PySem.Expr.Name _ _) _ _ _) _) _ _ _); refine here_mark ?_) | ((with_reducible show wpAny _ _ (compareOp CmpOp.NotEq (Value.ref _) (Value.ref _)) _ _ _); (refine here_mark ?_)) | ((with_reducible show wpAny _ _ (exec (Stmt.If (PySem.Expr.BoolOp _ _ _) _ _ _) _) _ _ _); refine here_mark ?_) | ((with_reducible show wpAny _ _ (binaryOp _ (Value.str _ _) (Value.str _ _)) _ _ _); (k_dflt (first | (with_reducible refine add_alias (by with_reducible assumption) ?_; intro _ _) | (with_reducible refine add_word (by with_reducible assumption) (by with_reducible assumption) ?_; intro _ _)))) | ((with_reducible show wpAny _ _ (subscriptTail _ _ (Value.ref 517) (Value.int _ _)) _ _ _); k_dflt (refine word_at (by k_asm) (by with_reducible assumption) (by assumption) (by assumption) ?_ (by (intro _ _; with_unfolding_all rfl))); intro _ _ _) | ((with_reducible show wpAny _ _ (subscriptTail _ _ (Value.ref 516) (Value.int _ _)) _ _ _); k_dflt (refine alias_at (by k_asm) (by with_reducible assumption) (by assumption) (by assumption) ?_ (by (intro _ _; with_unfolding_all rfl))); intro _ _ _) | ((with_reducible show wpAny _ _ (subscriptTail _ _ (Value.ref _) (Value.int 1 _)) _ _ _); k_dflt (refine item_tupleT (by exact News.isTup (by k_asm) (by k_mem)) (by decide) (by decide) (by rfl) (by rfl) ?_; k_whole)) | ((with_reducible show wpAny _ _ (compareOp CmpOp.NotEq (Value.int _ _) (Value.int _ _)) _ _ _); (k_dflt (refine ne_int_same ?_))) | ((with_reducible show wpAny _ _ (call (Value.type _) [Value.ref _]) _ _ _); k_dflt (refine copy_list (by k_asm) (by k_asm) (by k_mem) (by assumption) ?_); intro _ _ _ _ _ q09; (try k_lt q09); revert q09; intro _) | ((with_reducible show wpAny _ _ (call (Value.builtin "list.append") _) _ _ _); (k_dflt (refine append_any (by k_asm) (by k_asm) (by k_updF) (by first | assumption | kpa_ne) ?_); intro _ _ q09; (try dsimp only at q09); revert q09; intro _)) | ((with_reducible show wpAny _ _ (subscriptTail _ _ (Value.ref _) (Value.int _ _)) _ _ _); k_dflt (refine item_any (by k_asm) (by k_mem) (by assumption) (by kpa_ne) (by assumption) ?_ (by with_unfolding_all rfl) (by kmk_pure))) | ((with_reducible show wpAny _ _ (call (Value.builtin "len") _) _ _ _); (k_dflt (refine len_any (by k_asm) (by k_mem) (by assumption) ?_))) | ((first | (with_reducible show wpAny _ _ (call (Value.ref 531) _) _ _ _) | (with_reducible show wpAny _ _ (call (Value.ref 524) _) _ _ _) | (with_reducible show wpAny _ _ (call (Value.ref 269) _) _ _ _) | (with_reducible show wpAny _ _ (call (Value.ref 513) _) _ _ _) | (with_reducible show wpAny _ _ (call (Value.ref 538) _) _ _ _) | (with_reducible show wpAny _ _ (call (Value.ref 550) _) _ _ _) | (with_reducible show wpAny _ _ (call (Value.ref 562) _) _ _ _) | (with_reducible show wpAny _ _ (call (Value.ref 545) _) _ _ _) | (with_reducible show wpAny _ _ (call (Value.ref 475) _) _ _ _) | (with_reducible show wpAny _ _ (call (Value.ref 555) _) _ _ _) | (with_reducible show wpAny _ _ (call (Value.ref 569) _) _ _ _)); refine here_mark ?_) | ((with_reducible show wpAny _ _ (call (Value.type "range") _) _ _ _); (k_dflt (refine range_N (by k_asm) (by k_asm) ?_); intro _ _ _ _ _ _ _ q09; (try k_lt q09); revert q09; intro _)) | ((with_reducible show wpAny _ _ (exec (Stmt.For _ _ _ _ _) _) _ _ _); (k_dflt (refine For_own (by k_asm) (by rfl) (by rfl) ?_))) | ((with_reducible show wpAny _ _ (pyIter (Value.ref _)) _ _ _); (refine here_mark ?_)) | ((with_reducible show wpAny _ _ (eval (PySem.Expr.Dict [] [] _) _) _ _ _); (k_dflt (refine newDict_K (by k_asm) (by k_asm) (by first | exact Top.nolimit (by k_asm) | exact Glob.nolimit (by k_asm)) ?_; k_whole); intro _ _ _ _ _ q09 _ _ _ _ _; (try k_lt q09); revert q09; intro _)) | walk1 | (dsimp only; walk1) | (leave1; walk_say "STEP leave1"; try dsimp only) | fail "no step"))
        change wpAny _ _ _ _ _ _
        refine draw_B K0 (by k_asm) KX Na T hba (by kpa_ne) (by ktr_room) (by ktr_units) lo hbc hoff30 hI8 hcn (by decide) (by decide) ?_
        intro rb trb hb' tkb obb rb0 rb1 Fb Nb hbb
        clear Na
        have off2 : ∀ p ∈ (b, obb) :: (c, PySem.W.listOf ys.toArray ys.length) :: (op, PySem.W.listOf ovs1.toArray ko1) :: (tkl, PySem.W.listOf tvs2.toArray kt2) :: (opn, PySem.W.listOf (dvs ++ [Value.ref bi]).toArray (kd' + 1)) :: (l, PySem.W.listOf svs.toArray 0) :: (sg, instObj 269 sd) :: (sd, sdO) :: (en, oe) :: (kd, instObj 513 kdd) :: (kdd, kdO) :: (nws2 ++ own1), p.1 ≠ I := by
          refine List.forall_mem_cons.mpr ⟨hib.symm, List.forall_mem_cons.mpr ⟨off (c, PySem.W.listOf ys.toArray ys.length) (.tail _ (.head _)), List.forall_mem_cons.mpr ⟨oIop, List.forall_mem_cons.mpr ⟨oItk, List.forall_mem_cons.mpr ⟨oIon, ?_⟩⟩⟩⟩⟩
          refine List.forall_mem_cons.mpr ⟨off (l, PySem.W.listOf svs.toArray 0) (by repeat (first | exact .head _ | apply List.mem_cons_of_mem)), ?_⟩
          refine List.forall_mem_cons.mpr ⟨off (sg, instObj 269 sd) (by repeat (first | exact .head _ | apply List.mem_cons_of_mem)), ?_⟩
          refine List.forall_mem_cons.mpr ⟨off (sd, sdO) (by repeat (first | exact .head _ | apply List.mem_cons_of_mem)), ?_⟩
          refine List.forall_mem_cons.mpr ⟨off (en, oe) (by repeat (first | exact .head _ | apply List.mem_cons_of_mem)), ?_⟩
          refine List.forall_mem_cons.mpr ⟨off (kd, instObj 513 kdd) (by repeat (first | exact .head _ | apply List.mem_cons_of_mem)), ?_⟩
          refine List.forall_mem_cons.mpr ⟨off (kdd, kdO) (by repeat (first | exact .head _ | apply List.mem_cons_of_mem)), ?_⟩
          intro p hp
          rcases List.mem_append.mp hp with hp | hp
          · exact (hgt2 p hp).1
          · refine off p ?_
            iterate 11 apply List.mem_cons_of_mem
            exact List.mem_append.mpr (.inr hp)
        have turnR : ∀ {obb : Obj}, BellTo w obb c (3 + 9 * i + 6 + 1 + 1) → ∀ CC : Prop, (∀ ob' ovs ko tvs kt dvs' kd'' os ds nws, ((b, obb) :: (c, PySem.W.listOf ys.toArray ys.length) :: (op, PySem.W.listOf ovs1.toArray ko1) :: (tkl, PySem.W.listOf tvs2.toArray kt2) :: (opn, PySem.W.listOf (dvs ++ [Value.ref bi]).toArray (kd' + 1)) :: (l, PySem.W.listOf svs.toArray 0) :: (sg, instObj 269 sd) :: (sd, sdO) :: (en, oe) :: (kd, instObj 513 kdd) :: (kdd, kdO) :: (nws2 ++ own1) =
            (b, ob') :: (c, PySem.W.listOf ys.toArray ys.length) :: (op, PySem.W.listOf ovs.toArray ko) :: (tkl, PySem.W.listOf tvs.toArray kt) :: (opn, PySem.W.listOf dvs'.toArray kd'') :: (l, PySem.W.listOf svs.toArray 0) :: (sg, instObj 269 sd) :: (sd, sdO) :: (en, oe) :: (kd, instObj 513 kdd) :: (kdd, kdO) :: (nws ++ own1)) → (BellTo w ob' c (3 + 9 * (i + 1))) → (PairsAt nws ovs os) → (PairsAt nws tvs os) → (OsOk os) → (All2 (OpenV nws) dvs' ds) → ((∀ d ∈ ds, d.Ok ∧ 0 < d.spot ∧ d.spot < 1000)) → (ds.length = i + 1) → (os.length ≤ i + 1) → ((∀ p ∈ nws, @LT.lt Nat _ kd p.1)) → CC) → CC := fun hbb CC kQ9 =>
          kQ9 _ ovs1 ko1 tvs2 kt2 (dvs ++ [.ref bi]) (kd' + 1) os1 (ds ++ [d]) nws2 rfl (hbb.mono (by kpa_ne)) hps2 hqs2 hos2 (All2.snoc (hds5.mono fun _ _ z => OpenV.mono hsub2 z) (hov6.mono hsub2)) (fun d' hd' => by
            rcases List.mem_append.mp hd' with q | q
            · exact hdok d' q
            · exact List.mem_singleton.mp q ▸ hd5) (by rw [List.length_append, List.length_singleton, hdl]) hlen2 (fun p hp => (hgt2 p hp).2)
        (repeat' (first | (k_unfold; (try dsimp only)) | (k_end; wrow_close) | ((with_reducible show wpAny _ _ (eval (PySem.Expr.IfExp (PySem.Expr.Compare _ _ _ _) _ _ _) _) _ _ _); refine here_mark ?_) | ((with_reducible show wpAny _ _ (exec (Stmt.If (PySem.Expr.Name _ _) _ _ _) _) _ _ _); refine here_mark ?_) | ((with_reducible show wpAny _ _ (exec (Stmt.If (PySem.Expr.Compare (PySem.Expr.Call (PySem.Expr.Name _ _) _ _ _) _ _ _) _ _ _) _) _ _ _); refine here_mark ?_) | ((with_reducible show wpAny _ _ (subscriptTail _ _ (Value.ref _) (Value.int 2 _)) _ _ _); k_dflt (refine item_tupleT (by exact News.isTup (by k_asm) (by k_mem)) (by decide) (by decide) (by rfl) (by rfl) ?_; k_whole)) | ((with_reducible show wpAny _ _ (eval (PySem.Expr.ListComp (PySem.Expr.Name _ _) _ _ _) _) _ _ _); refine here_mark ?_) | ((with_reducible show wpAny _ _ (compareOp CmpOp.NotEq (Value.ref _) (Value.ref _)) _ _ _); (refine here_mark ?_)) | ((with_reducible show wpAny _ _ (exec (Stmt.If (PySem.Expr.BoolOp _ _ _) _ _ _) _) _ _ _); refine here_mark ?_) | ((with_reducible show wpAny _ _ (binaryOp _ (Value.str _ _) (Value.str _ _)) _ _ _); (k_dflt (first | (with_reducible refine add_alias (by with_reducible assumption) ?_; intro _ _) | (with_reducible refine add_word (by with_reducible assumption) (by with_reducible assumption) ?_; intro _ _)))) | ((with_reducible show wpAny _ _ (subscriptTail _ _ (Value.ref 517) (Value.int _ _)) _ _ _); k_dflt (refine word_at (by k_asm) (by with_reducible assumption) (by assumption) (by assumption) ?_ (by (intro _ _; with_unfolding_all rfl))); intro _ _ _) | ((with_reducible show wpAny _ _ (subscriptTail _ _ (Value.ref 516) (Value.int _ _)) _ _ _); k_dflt (refine alias_at (by k_asm) (by with_reducible assumption) (by assumption) (by assumption) ?_ (by (intro _ _; with_unfolding_all rfl))); intro _ _ _) | ((with_reducible show wpAny _ _ (subscriptTail _ _ (Value.ref _) (Value.int 1 _)) _ _ _); k_dflt (refine item_tupleT (by exact News.isTup (by k_asm) (by k_mem)) (by decide) (by decide) (by rfl) (by rfl) ?_; k_whole)) | ((with_reducible show wpAny _ _ (compareOp CmpOp.NotEq (Value.int _ _) (Value.int _ _)) _ _ _); (k_dflt (refine ne_int_same ?_))) | ((with_reducible show wpAny _ _ (call (Value.type _) [Value.ref _]) _ _ _); k_dflt (refine copy_list (by k_asm) (by k_asm) (by k_mem) (by assumption) ?_); intro _ _ _ _ _ q09; (try k_lt q09); revert q09; intro _) | ((with_reducible show wpAny _ _ (call (Value.builtin "list.append") _) _ _ _); (k_dflt (refine append_any (by k_asm) (by k_asm) (by k_updF) (by first | assumption | kpa_ne) ?_); intro _ _ q09; (try dsimp only at q09); revert q09; intro _)) | ((with_reducible show wpAny _ _ (subscriptTail _ _ (Value.ref _) (Value.int _ _)) _ _ _); k_dflt (refine item_any (by k_asm) (by k_mem) (by assumption) (by kpa_ne) (by assumption) ?_ (by with_unfolding_all rfl) (by kmk_pure))) | ((with_reducible show wpAny _ _ (call (Value.builtin "len") _) _ _ _); (k_dflt (refine len_any (by k_asm) (by k_mem) (by assumption) ?_))) | ((first | (with_reducible show wpAny _ _ (call (Value.ref 531) _) _ _ _) | (with_reducible show wpAny _ _ (call (Value.ref 524) _) _ _ _) | (with_reducible show wpAny _ _ (call (Value.ref 269) _) _ _ _) | (with_reducible show wpAny _ _ (call (Value.ref 513) _) _ _ _) | (with_reducible show wpAny _ _ (call (Value.ref 538) _) _ _ _) | (with_reducible show wpAny _ _ (call (Value.ref 550) _) _ _ _) | (with_reducible show wpAny _ _ (call (Value.ref 562) _) _ _ _) | (with_reducible show wpAny _ _ (call (Value.ref 545) _) _ _ _) | (with_reducible show wpAny _ _ (call (Value.ref 475) _) _ _ _) | (with_reducible show wpAny _ _ (call (Value.ref 555) _) _ _ _) | (with_reducible show wpAny _ _ (call (Value.ref 569) _) _ _ _)); refine here_mark ?_) | ((with_reducible show wpAny _ _ (call (Value.type "range") _) _ _ _); (k_dflt (refine range_N (by k_asm) (by k_asm) ?_); intro _ _ _ _ _ _ _ q09; (try k_lt q09); revert q09; intro _)) | ((with_reducible show wpAny _ _ (exec (Stmt.For _ _ _ _ _) _) _ _ _); (k_dflt (refine For_own (by k_asm) (by rfl) (by rfl) ?_))) | ((with_reducible show wpAny _ _ (pyIter (Value.ref _)) _ _ _); (refine here_mark ?_)) | ((with_reducible show wpAny _ _ (eval (PySem.Expr.Dict [] [] _) _) _ _ _); (k_dflt (refine newDict_K (by k_asm) (by k_asm) (by first | exact Top.nolimit (by k_asm) | exact Glob.nolimit (by k_asm)) ?_; k_whole); intro _ _ _ _ _ q09 _ _ _ _ _; (try k_lt q09); revert q09; intro _)) | walk1 | (dsimp only; walk1) | (leave1; walk_say "STEP leave1"; try dsimp only) | fail "no step"))
        change wpAny _ _ _ _ _ _
        rename_i xA tA hXA xW tW hXW D8 h81 l81 h82 h83 h84 Fz Nz
        refine cut_ev (fun s0 v s' => Here (∃ text t pre tk', v = .str text t ∧ s' = { s0 with toks := tk' } ∧ text.length ≤ 100 ∧ Txt.split text (Str.ofString "/") = pre ++ [xW] ∧ orderIs os1 text xW = meantOf os1 xA xW)) ?_ ?_
        · refine IfExp_ ?_
          (repeat' (first | (k_unfold; (try dsimp only)) | (k_end; wrow_close) | ((with_reducible show wpAny _ _ (eval (PySem.Expr.IfExp (PySem.Expr.Compare _ _ _ _) _ _ _) _) _ _ _); refine here_mark ?_) | ((with_reducible show wpAny _ _ (exec (Stmt.If (PySem.Expr.Name _ _) _ _ _) _) _ _ _); refine here_mark ?_) | ((with_reducible show wpAny _ _ (exec (Stmt.If (PySem.Expr.Compare (PySem.Expr.Call (PySem.Expr.Name _ _) _ _ _) _ _ _) _ _ _) _) _ _ _); refine here_mark ?_) | ((with_reducible show wpAny _ _ (subscriptTail _ _ (Value.ref _) (Value.int 2 _)) _ _ _); k_dflt (refine item_tupleT (by exact News.isTup (by k_asm) (by k_mem)) (by decide) (by decide) (by rfl) (by rfl) ?_; k_whole)) | ((with_reducible show wpAny _ _ (eval (PySem.Expr.ListComp (PySem.Expr.Name _ _) _ _ _) _) _ _ _); refine here_mark ?_) | ((with_reducible show wpAny _ _ (compareOp CmpOp.NotEq (Value.ref _) (Value.ref _)) _ _ _); (refine here_mark ?_)) | ((with_reducible show wpAny _ _ (exec (Stmt.If (PySem.Expr.BoolOp _ _ _) _ _ _) _) _ _ _); refine here_mark ?_) | ((with_reducible show wpAny _ _ (binaryOp _ (Value.str _ _) (Value.str _ _)) _ _ _); (k_dflt (first | (with_reducible refine add_alias (by with_reducible assumption) ?_; intro _ _) | (with_reducible refine add_word (by with_reducible assumption) (by with_reducible assumption) ?_; intro _ _)))) | ((with_reducible show wpAny _ _ (subscriptTail _ _ (Value.ref 517) (Value.int _ _)) _ _ _); k_dflt (refine word_at (by k_asm) (by with_reducible assumption) (by assumption) (by assumption) ?_ (by (intro _ _; with_unfolding_all rfl))); intro _ _ _) | ((with_reducible show wpAny _ _ (subscriptTail _ _ (Value.ref 516) (Value.int _ _)) _ _ _); k_dflt (refine alias_at (by k_asm) (by with_reducible assumption) (by assumption) (by assumption) ?_ (by (intro _ _; with_unfolding_all rfl))); intro _ _ _) | ((with_reducible show wpAny _ _ (subscriptTail _ _ (Value.ref _) (Value.int 1 _)) _ _ _); k_dflt (refine item_tupleT (by exact News.isTup (by k_asm) (by k_mem)) (by decide) (by decide) (by rfl) (by rfl) ?_; k_whole)) | ((with_reducible show wpAny _ _ (compareOp CmpOp.NotEq (Value.int _ _) (Value.int _ _)) _ _ _); (k_dflt (refine ne_int_same ?_))) | ((with_reducible show wpAny _ _ (call (Value.type _) [Value.ref _]) _ _ _); k_dflt (refine copy_list (by k_asm) (by k_asm) (by k_mem) (by assumption) ?_); intro _ _ _ _ _ q09; (try k_lt q09); revert q09; intro _) | ((with_reducible show wpAny _ _ (call (Value.builtin "list.append") _) _ _ _); (k_dflt (refine append_any (by k_asm) (by k_asm) (by k_updF) (by first | assumption | kpa_ne) ?_); intro _ _ q09; (try dsimp only at q09); revert q09; intro _)) | ((with_reducible show wpAny _ _ (subscriptTail _ _ (Value.ref _) (Value.int _ _)) _ _ _); k_dflt (refine item_any (by k_asm) (by k_mem) (by assumption) (by kpa_ne) (by assumption) ?_ (by with_unfolding_all rfl) (by kmk_pure))) | ((with_reducible show wpAny _ _ (call (Value.builtin "len") _) _ _ _); (k_dflt (refine len_any (by k_asm) (by k_mem) (by assumption) ?_))) | ((first | (with_reducible show wpAny _ _ (call (Value.ref 531) _) _ _ _) | (with_reducible show wpAny _ _ (call (Value.ref 524) _) _ _ _) | (with_reducible show wpAny _ _ (call (Value.ref 269) _) _ _ _) | (with_reducible show wpAny _ _ (call (Value.ref 513) _) _ _ _) | (with_reducible show wpAny _ _ (call (Value.ref 538) _) _ _ _) | (with_reducible show wpAny _ _ (call (Value.ref 550) _) _ _ _) | (with_reducible show wpAny _ _ (call (Value.ref 562) _) _ _ _) | (with_reducible show wpAny _ _ (call (Value.ref 545) _) _ _ _) | (with_reducible show wpAny _ _ (call (Value.ref 475) _) _ _ _) | (with_reducible show wpAny _ _ (call (Value.ref 555) _) _ _ _) | (with_reducible show wpAny _ _ (call (Value.ref 569) _) _ _ _)); refine here_mark ?_) | ((with_reducible show wpAny _ _ (call (Value.type "range") _) _ _ _); (k_dflt (refine range_N (by k_asm) (by k_asm) ?_); intro _ _ _ _ _ _ _ q09; (try k_lt q09); revert q09; intro _)) | ((with_reducible show wpAny _ _ (exec (Stmt.For _ _ _ _ _) _) _ _ _); (k_dflt (refine For_own (by k_asm) (by rfl) (by rfl) ?_))) | ((with_reducible show wpAny _ _ (pyIter (Value.ref _)) _ _ _); (refine here_mark ?_)) | ((with_reducible show wpAny _ _ (eval (PySem.Expr.Dict [] [] _) _) _ _ _); (k_dflt (refine newDict_K (by k_asm) (by k_asm) (by first | exact Top.nolimit (by k_asm) | exact Glob.nolimit (by k_asm)) ?_; k_whole); intro _ _ _ _ _ q09 _ _ _ _ _; (try k_lt q09); revert q09; intro _)) | walk1 | (dsimp only; walk1) | (leave1; walk_say "STEP leave1"; try dsimp only) | fail "no step"))
          · change ∃ _, _
            exact ⟨_, _, [], _, rfl, rfl, Nat.le_trans (word_len _ hXW) (by decide), split_word0 _ hXW, order_plain hXW (by with_reducible assumption)⟩
          · change ∃ _, _
            exact ⟨_, _, _, _, rfl, rfl, text_len hXA hXW, split_word1 _ hXA (by with_reducible assumption) _ hXW, order_plain1 hXW (by with_reducible assumption)⟩
        rintro v s' ⟨text, tt, pre, tk', rfl, rfl, htl, hsp, hor⟩
        dsimp only
        (repeat' (first | (k_unfold; (try dsimp only)) | (k_end; wrow_close) | ((with_reducible show wpAny _ _ (eval (PySem.Expr.IfExp (PySem.Expr.Compare _ _ _ _) _ _ _) _) _ _ _); refine here_mark ?_) | ((with_reducible show wpAny _ _ (exec (Stmt.If (PySem.Expr.Name _ _) _ _ _) _) _ _ _); refine here_mark ?_) | ((with_reducible show wpAny _ _ (exec (Stmt.If (PySem.Expr.Compare (PySem.Expr.Call (PySem.Expr.Name _ _) _ _ _) _ _ _) _ _ _) _) _ _ _); refine here_mark ?_) | ((with_reducible show wpAny _ _ (subscriptTail _ _ (Value.ref _) (Value.int 2 _)) _ _ _); k_dflt (refine item_tupleT (by exact News.isTup (by k_asm) (by k_mem)) (by decide) (by decide) (by rfl) (by rfl) ?_; k_whole)) | ((with_reducible show wpAny _ _ (eval (PySem.Expr.ListComp (PySem.Expr.Name _ _) _ _ _) _) _ _ _); refine here_mark ?_) | ((with_reducible show wpAny _ _ (compareOp CmpOp.NotEq (Value.ref _) (Value.ref _)) _ _ _); (refine here_mark ?_)) | ((with_reducible show wpAny _ _ (exec (Stmt.If (PySem.Expr.BoolOp _ _ _) _ _ _) _) _ _ _); refine here_mark ?_) | ((with_reducible show wpAny _ _ (binaryOp _ (Value.str _ _) (Value.str _ _)) _ _ _); (k_dflt (first | (with_reducible refine add_alias (by with_reducible assumption) ?_; intro _ _) | (with_reducible refine add_word (by with_reducible assumption) (by with_reducible assumption) ?_; intro _ _)))) | ((with_reducible show wpAny _ _ (subscriptTail _ _ (Value.ref 517) (Value.int _ _)) _ _ _); k_dflt (refine word_at (by k_asm) (by with_reducible assumption) (by assumption) (by assumption) ?_ (by (intro _ _; with_unfolding_all rfl))); intro _ _ _) | ((with_reducible show wpAny _ _ (subscriptTail _ _ (Value.ref 516) (Value.int _ _)) _ _ _); k_dflt (refine alias_at (by k_asm) (by with_reducible assumption) (by assumption) (by assumption) ?_ (by (intro _ _; with_unfolding_all rfl))); intro _ _ _) | ((with_reducible show wpAny _ _ (subscriptTail _ _ (Value.ref _) (Value.int 1 _)) _ _ _); k_dflt (refine item_tupleT (by exact News.isTup (by k_asm) (by k_mem)) (by decide) (by decide) (by rfl) (by rfl) ?_; k_whole)) | ((with_reducible show wpAny _ _ (compareOp CmpOp.NotEq (Value.int _ _) (Value.int _ _)) _ _ _); (k_dflt (refine ne_int_same ?_))) | ((with_reducible show wpAny _ _ (call (Value.type _) [Value.ref _]) _ _ _); k_dflt (refine copy_list (by k_asm) (by k_asm) (by k_mem) (by assumption) ?_); intro _ _ _ _ _ q09; (try k_lt q09); revert q09; intro _) | ((with_reducible show wpAny _ _ (call (Value.builtin "list.append") _) _ _ _); (k_dflt (refine append_any (by k_asm) (by k_asm) (by k_updF) (by first | assumption | kpa_ne) ?_); intro _ _ q09; (try dsimp only at q09); revert q09; intro _)) | ((with_reducible show wpAny _ _ (subscriptTail _ _ (Value.ref _) (Value.int _ _)) _ _ _); k_dflt (refine item_any (by k_asm) (by k_mem) (by assumption) (by kpa_ne) (by assumption) ?_ (by with_unfolding_all rfl) (by kmk_pure))) | ((with_reducible show wpAny _ _ (call (Value.builtin "len") _) _ _ _); (k_dflt (refine len_any (by k_asm) (by k_mem) (by assumption) ?_))) | ((first | (with_reducible show wpAny _ _ (call (Value.ref 531) _) _ _ _) | (with_reducible show wpAny _ _ (call (Value.ref 524) _) _ _ _) | (with_reducible show wpAny _ _ (call (Value.ref 269) _) _ _ _) | (with_reducible show wpAny _ _ (call (Value.ref 513) _) _ _ _) | (with_reducible show wpAny _ _ (call (Value.ref 538) _) _ _ _) | (with_reducible show wpAny _ _ (call (Value.ref 550) _) _ _ _) | (with_reducible show wpAny _ _ (call (Value.ref 562) _) _ _ _) | (with_reducible show wpAny _ _ (call (Value.ref 545) _) _ _ _) | (with_reducible show wpAny _ _ (call (Value.ref 475) _) _ _ _) | (with_reducible show wpAny _ _ (call (Value.ref 555) _) _ _ _) | (with_reducible show wpAny _ _ (call (Value.ref 569) _) _ _ _)); refine here_mark ?_) | ((with_reducible show wpAny _ _ (call (Value.type "range") _) _ _ _); (k_dflt (refine range_N (by k_asm) (by k_asm) ?_); intro _ _ _ _ _ _ _ q09; (try k_lt q09); revert q09; intro _)) | ((with_reducible show wpAny _ _ (exec (Stmt.For _ _ _ _ _) _) _ _ _); (k_dflt (refine For_own (by k_asm) (by rfl) (by rfl) ?_))) | ((with_reducible show wpAny _ _ (pyIter (Value.ref _)) _ _ _); (refine here_mark ?_)) | ((with_reducible show wpAny _ _ (eval (PySem.Expr.Dict [] [] _) _) _ _ _); (k_dflt (refine newDict_K (by k_asm) (by k_asm) (by first | exact Top.nolimit (by k_asm) | exact Glob.nolimit (by k_asm)) ?_; k_whole); intro _ _ _ _ _ q09 _ _ _ _ _; (try k_lt q09); revert q09; intro _)) | walk1 | (dsimp only; walk1) | (leave1; walk_say "STEP leave1"; try dsimp only) | fail "no step"))
        change wpAny _ _ _ _ _ _
        rename News s₁.heap s₁.heap.objs.size _ _ => Nx
        have N40 : News s₁.heap s₁.heap.objs.size _ ((kd, instObj 513 kdd) :: (kdd, kdO) :: (sg, instObj 269 sd) :: (sd, sdO) :: (op, PySem.W.listOf ovs1.toArray ko1) :: (tkl, PySem.W.listOf tvs2.toArray kt2) :: (en, oe) :: (b, obb) :: (c, PySem.W.listOf ys.toArray ys.length) :: (I, oI) :: (rg, rngO ((kk + 1 : Nat) : Int) ug tk7 vg) :: (opn, PySem.W.listOf (dvs ++ [Value.ref bi]).toArray (kd' + 1)) :: (l, PySem.W.listOf svs.toArray 0) :: (nws2 ++ own1)) := Nx.perm (by
          iterate 13 refine List.forall_mem_cons.mpr ⟨by repeat (first | exact .head _ | apply List.mem_cons_of_mem), ?_⟩
          intro p hp
          repeat (first | exact hp | apply List.mem_cons_of_mem))
        clear Nx
        have hov9 : ovs1.length ≤ 100 := Nat.le_trans (Nat.le_of_eq hps2.length) (Nat.le_trans hlen2 (Nat.le_trans hi8 (by decide)))
        have htv9 : tvs2.length ≤ 100 := Nat.le_trans (Nat.le_of_eq hqs2.length) (Nat.le_trans hlen2 (Nat.le_trans hi8 (by decide)))
        refine orderOf_spec (pre := pre) K0 (by k_asm) KX N40 T (by ktr_room) (by ktr_units) (PairsAt.mono (fun p hp => by
            (repeat apply List.mem_cons_of_mem)
            exact List.mem_append.mpr (.inl hp)) hps2) hov9 hos2 htl hsp (Nat.le_trans (word_len _ hXW) (by decide)) ?_ ?_
        · intro e h41 tk41 F41 N41
          have e3 := hor.symm.trans e
          clear N40
          (repeat' (first | (k_unfold; (try dsimp only)) | (k_end; wrow_close) | ((with_reducible show wpAny _ _ (eval (PySem.Expr.IfExp (PySem.Expr.Compare _ _ _ _) _ _ _) _) _ _ _); refine here_mark ?_) | ((with_reducible show wpAny _ _ (exec (Stmt.If (PySem.Expr.Name _ _) _ _ _) _) _ _ _); refine here_mark ?_) | ((with_reducible show wpAny _ _ (exec (Stmt.If (PySem.Expr.Compare (PySem.Expr.Call (PySem.Expr.Name _ _) _ _ _) _ _ _) _ _ _) _) _ _ _); refine here_mark ?_) | ((with_reducible show wpAny _ _ (subscriptTail _ _ (Value.ref _) (Value.int 2 _)) _ _ _); k_dflt (refine item_tupleT (by exact News.isTup (by k_asm) (by k_mem)) (by decide) (by decide) (by rfl) (by rfl) ?_; k_whole)) | ((with_reducible show wpAny _ _ (eval (PySem.Expr.ListComp (PySem.Expr.Name _ _) _ _ _) _) _ _ _); refine here_mark ?_) | ((with_reducible show wpAny _ _ (compareOp CmpOp.NotEq (Value.ref _) (Value.ref _)) _ _ _); (refine here_mark ?_)) | ((with_reducible show wpAny _ _ (exec (Stmt.If (PySem.Expr.BoolOp _ _ _) _ _ _) _) _ _ _); refine here_mark ?_) | ((with_reducible show wpAny _ _ (binaryOp _ (Value.str _ _) (Value.str _ _)) _ _ _); (k_dflt (first | (with_reducible refine add_alias (by with_reducible assumption) ?_; intro _ _) | (with_reducible refine add_word (by with_reducible assumption) (by with_reducible assumption) ?_; intro _ _)))) | ((with_reducible show wpAny _ _ (subscriptTail _ _ (Value.ref 517) (Value.int _ _)) _ _ _); k_dflt (refine word_at (by k_asm) (by with_reducible assumption) (by assumption) (by assumption) ?_ (by (intro _ _; with_unfolding_all rfl))); intro _ _ _) | ((with_reducible show wpAny _ _ (subscriptTail _ _ (Value.ref 516) (Value.int _ _)) _ _ _); k_dflt (refine alias_at (by k_asm) (by with_reducible assumption) (by assumption) (by assumption) ?_ (by (intro _ _; with_unfolding_all rfl))); intro _ _ _) | ((with_reducible show wpAny _ _ (subscriptTail _ _ (Value.ref _) (Value.int 1 _)) _ _ _); k_dflt (refine item_tupleT (by exact News.isTup (by k_asm) (by k_mem)) (by decide) (by decide) (by rfl) (by rfl) ?_; k_whole)) | ((with_reducible show wpAny _ _ (compareOp CmpOp.NotEq (Value.int _ _) (Value.int _ _)) _ _ _); (k_dflt (refine ne_int_same ?_))) | ((with_reducible show wpAny _ _ (call (Value.type _) [Value.ref _]) _ _ _); k_dflt (refine copy_list (by k_asm) (by k_asm) (by k_mem) (by assumption) ?_); intro _ _ _ _ _ q09; (try k_lt q09); revert q09; intro _) | ((with_reducible show wpAny _ _ (call (Value.builtin "list.append") _) _ _ _); (k_dflt (refine append_any (by k_asm) (by k_asm) (by k_updF) (by first | assumption | kpa_ne) ?_); intro _ _ q09; (try dsimp only at q09); revert q09; intro _)) | ((with_reducible show wpAny _ _ (subscriptTail _ _ (Value.ref _) (Value.int _ _)) _ _ _); k_dflt (refine item_any (by k_asm) (by k_mem) (by assumption) (by kpa_ne) (by assumption) ?_ (by with_unfolding_all rfl) (by kmk_pure))) | ((with_reducible show wpAny _ _ (call (Value.builtin "len") _) _ _ _); (k_dflt (refine len_any (by k_asm) (by k_mem) (by assumption) ?_))) | ((first | (with_reducible show wpAny _ _ (call (Value.ref 531) _) _ _ _) | (with_reducible show wpAny _ _ (call (Value.ref 524) _) _ _ _) | (with_reducible show wpAny _ _ (call (Value.ref 269) _) _ _ _) | (with_reducible show wpAny _ _ (call (Value.ref 513) _) _ _ _) | (with_reducible show wpAny _ _ (call (Value.ref 538) _) _ _ _) | (with_reducible show wpAny _ _ (call (Value.ref 550) _) _ _ _) | (with_reducible show wpAny _ _ (call (Value.ref 562) _) _ _ _) | (with_reducible show wpAny _ _ (call (Value.ref 545) _) _ _ _) | (with_reducible show wpAny _ _ (call (Value.ref 475) _) _ _ _) | (with_reducible show wpAny _ _ (call (Value.ref 555) _) _ _ _) | (with_reducible show wpAny _ _ (call (Value.ref 569) _) _ _ _)); refine here_mark ?_) | ((with_reducible show wpAny _ _ (call (Value.type "range") _) _ _ _); (k_dflt (refine range_N (by k_asm) (by k_asm) ?_); intro _ _ _ _ _ _ _ q09; (try k_lt q09); revert q09; intro _)) | ((with_reducible show wpAny _ _ (exec (Stmt.For _ _ _ _ _) _) _ _ _); (k_dflt (refine For_own (by k_asm) (by rfl) (by rfl) ?_))) | ((with_reducible show wpAny _ _ (pyIter (Value.ref _)) _ _ _); (refine here_mark ?_)) | ((with_reducible show wpAny _ _ (eval (PySem.Expr.Dict [] [] _) _) _ _ _); (k_dflt (refine newDict_K (by k_asm) (by k_asm) (by first | exact Top.nolimit (by k_asm) | exact Glob.nolimit (by k_asm)) ?_; k_whole); intro _ _ _ _ _ q09 _ _ _ _ _; (try k_lt q09); revert q09; intro _)) | walk1 | (dsimp only; walk1) | (leave1; walk_say "STEP leave1"; try dsimp only) | fail "no step"))
          change wpAny _ _ _ _ _ _
          rename News s₁.heap s₁.heap.objs.size _ _ => N42
          have N43 := news_pull N42 (a := tkl) (o := PySem.W.listOf tvs2.toArray kt2) (by repeat (first | exact .head _ | apply List.mem_cons_of_mem))
          clear N42
          refine meant_spec K0 (by k_asm) KX N43 T (by ktr_room) (by ktr_units) (PairsAt.mono (fun p hp => by
              (repeat apply List.mem_cons_of_mem)
              exact List.mem_append.mpr (.inl hp)) hqs2) htv9 hos2 ?_ ?_
          · intro e5 h44 tk44 F44 N44
            clear N43
            (repeat' (first | (k_unfold; (try dsimp only)) | (k_end; wrow_close) | ((with_reducible show wpAny _ _ (eval (PySem.Expr.IfExp (PySem.Expr.Compare _ _ _ _) _ _ _) _) _ _ _); refine here_mark ?_) | ((with_reducible show wpAny _ _ (exec (Stmt.If (PySem.Expr.Name _ _) _ _ _) _) _ _ _); refine here_mark ?_) | ((with_reducible show wpAny _ _ (exec (Stmt.If (PySem.Expr.Compare (PySem.Expr.Call (PySem.Expr.Name _ _) _ _ _) _ _ _) _ _ _) _) _ _ _); refine here_mark ?_) | ((with_reducible show wpAny _ _ (subscriptTail _ _ (Value.ref _) (Value.int 2 _)) _ _ _); k_dflt (refine item_tupleT (by exact News.isTup (by k_asm) (by k_mem)) (by decide) (by decide) (by rfl) (by rfl) ?_; k_whole)) | ((with_reducible show wpAny _ _ (eval (PySem.Expr.ListComp (PySem.Expr.Name _ _) _ _ _) _) _ _ _); refine here_mark ?_) | ((with_reducible show wpAny _ _ (compareOp CmpOp.NotEq (Value.ref _) (Value.ref _)) _ _ _); (refine here_mark ?_)) | ((with_reducible show wpAny _ _ (exec (Stmt.If (PySem.Expr.BoolOp _ _ _) _ _ _) _) _ _ _); refine here_mark ?_) | ((with_reducible show wpAny _ _ (binaryOp _ (Value.str _ _) (Value.str _ _)) _ _ _); (k_dflt (first | (with_reducible refine add_alias (by with_reducible assumption) ?_; intro _ _) | (with_reducible refine add_word (by with_reducible assumption) (by with_reducible assumption) ?_; intro _ _)))) | ((with_reducible show wpAny _ _ (subscriptTail _ _ (Value.ref 517) (Value.int _ _)) _ _ _); k_dflt (refine word_at (by k_asm) (by with_reducible assumption) (by assumption) (by assumption) ?_ (by (intro _ _; with_unfolding_all rfl))); intro _ _ _) | ((with_reducible show wpAny _ _ (subscriptTail _ _ (Value.ref 516) (Value.int _ _)) _ _ _); k_dflt (refine alias_at (by k_asm) (by with_reducible assumption) (by assumption) (by assumption) ?_ (by (intro _ _; with_unfolding_all rfl))); intro _ _ _) | ((with_reducible show wpAny _ _ (subscriptTail _ _ (Value.ref _) (Value.int 1 _)) _ _ _); k_dflt (refine item_tupleT (by exact News.isTup (by k_asm) (by k_mem)) (by decide) (by decide) (by rfl) (by rfl) ?_; k_whole)) | ((with_reducible show wpAny _ _ (compareOp CmpOp.NotEq (Value.int _ _) (Value.int _ _)) _ _ _); (k_dflt (refine ne_int_same ?_))) | ((with_reducible show wpAny _ _ (call (Value.type _) [Value.ref _]) _ _ _); k_dflt (refine copy_list (by k_asm) (by k_asm) (by k_mem) (by assumption) ?_); intro _ _ _ _ _ q09; (try k_lt q09); revert q09; intro _) | ((with_reducible show wpAny _ _ (call (Value.builtin "list.append") _) _ _ _); (k_dflt (refine append_any (by k_asm) (by k_asm) (by k_updF) (by first | assumption | kpa_ne) ?_); intro _ _ q09; (try dsimp only at q09); revert q09; intro _)) | ((with_reducible show wpAny _ _ (subscriptTail _ _ (Value.ref _) (Value.int _ _)) _ _ _); k_dflt (refine item_any (by k_asm) (by k_mem) (by assumption) (by kpa_ne) (by assumption) ?_ (by with_unfolding_all rfl) (by kmk_pure))) | ((with_reducible show wpAny _ _ (call (Value.builtin "len") _) _ _ _); (k_dflt (refine len_any (by k_asm) (by k_mem) (by assumption) ?_))) | ((first | (with_reducible show wpAny _ _ (call (Value.ref 531) _) _ _ _) | (with_reducible show wpAny _ _ (call (Value.ref 524) _) _ _ _) | (with_reducible show wpAny _ _ (call (Value.ref 269) _) _ _ _) | (with_reducible show wpAny _ _ (call (Value.ref 513) _) _ _ _) | (with_reducible show wpAny _ _ (call (Value.ref 538) _) _ _ _) | (with_reducible show wpAny _ _ (call (Value.ref 550) _) _ _ _) | (with_reducible show wpAny _ _ (call (Value.ref 562) _) _ _ _) | (with_reducible show wpAny _ _ (call (Value.ref 545) _) _ _ _) | (with_reducible show wpAny _ _ (call (Value.ref 475) _) _ _ _) | (with_reducible show wpAny _ _ (call (Value.ref 555) _) _ _ _) | (with_reducible show wpAny _ _ (call (Value.ref 569) _) _ _ _)); refine here_mark ?_) | ((with_reducible show wpAny _ _ (call (Value.type "range") _) _ _ _); (k_dflt (refine range_N (by k_asm) (by k_asm) ?_); intro _ _ _ _ _ _ _ q09; (try k_lt q09); revert q09; intro _)) | ((with_reducible show wpAny _ _ (exec (Stmt.For _ _ _ _ _) _) _ _ _); (k_dflt (refine For_own (by k_asm) (by rfl) (by rfl) ?_))) | ((with_reducible show wpAny _ _ (pyIter (Value.ref _)) _ _ _); (refine here_mark ?_)) | ((with_reducible show wpAny _ _ (eval (PySem.Expr.Dict [] [] _) _) _ _ _); (k_dflt (refine newDict_K (by k_asm) (by k_asm) (by first | exact Top.nolimit (by k_asm) | exact Glob.nolimit (by k_asm)) ?_; k_whole); intro _ _ _ _ _ q09 _ _ _ _ _; (try k_lt q09); revert q09; intro _)) | walk1 | (dsimp only; walk1) | (leave1; walk_say "STEP leave1"; try dsimp only) | fail "no step"))
            rename News s₁.heap s₁.heap.objs.size _ _ => N45
            rename Fr s₁.heap s₁.heap.objs.size _ _ => F45
            refine hTT _ _ ?_
            refine turn_nextZ (nw' := (b, obb) :: (c, PySem.W.listOf ys.toArray ys.length) :: (op, PySem.W.listOf ovs1.toArray ko1) :: (tkl, PySem.W.listOf tvs2.toArray kt2) :: (opn, PySem.W.listOf (dvs ++ [Value.ref bi]).toArray (kd' + 1)) :: (l, PySem.W.listOf svs.toArray 0) :: (sg, instObj 269 sd) :: (sd, sdO) :: (en, oe) :: (kd, instObj 513 kdd) :: (kdd, kdO) :: (nws2 ++ own1)) _ F45 (N45.perm ?_) off2 (mk5_eq fun y e1 e2 e3 e4 e5 => by simp only [if_neg e1, if_neg e2, if_neg e3, if_neg e4, if_neg e5]) (of_inv hJ (turnR hbb))
            iterate 13 refine List.forall_mem_cons.mpr ⟨by repeat (first | exact .head _ | apply List.mem_cons_of_mem), ?_⟩
            intro p hp
            repeat (first | exact hp | apply List.mem_cons_of_mem)
          · intro found2 e5; rw [e3] at e5; cases e5
        · intro found e pF lF ysF tF h41 tk41 hsF F41 N41 lF41
          have e3 := hor.symm.trans e
          clear N40
          (repeat' (first | (k_unfold; (try dsimp only)) | (k_end; wrow_close) | ((with_reducible show wpAny _ _ (eval (PySem.Expr.IfExp (PySem.Expr.Compare _ _ _ _) _ _ _) _) _ _ _); refine here_mark ?_) | ((with_reducible show wpAny _ _ (exec (Stmt.If (PySem.Expr.Name _ _) _ _ _) _) _ _ _); refine here_mark ?_) | ((with_reducible show wpAny _ _ (exec (Stmt.If (PySem.Expr.Compare (PySem.Expr.Call (PySem.Expr.Name _ _) _ _ _) _ _ _) _ _ _) _) _ _ _); refine here_mark ?_) | ((with_reducible show wpAny _ _ (subscriptTail _ _ (Value.ref _) (Value.int 2 _)) _ _ _); k_dflt (refine item_tupleT (by exact News.isTup (by k_asm) (by k_mem)) (by decide) (by decide) (by rfl) (by rfl) ?_; k_whole)) | ((with_reducible show wpAny _ _ (eval (PySem.Expr.ListComp (PySem.Expr.Name _ _) _ _ _) _) _ _ _); refine here_mark ?_) | ((with_reducible show wpAny _ _ (compareOp CmpOp.NotEq (Value.ref _) (Value.ref _)) _ _ _); (refine here_mark ?_)) | ((with_reducible show wpAny _ _ (exec (Stmt.If (PySem.Expr.BoolOp _ _ _) _ _ _) _) _ _ _); refine here_mark ?_) | ((with_reducible show wpAny _ _ (binaryOp _ (Value.str _ _) (Value.str _ _)) _ _ _); (k_dflt (first | (with_reducible refine add_alias (by with_reducible assumption) ?_; intro _ _) | (with_reducible refine add_word (by with_reducible assumption) (by with_reducible assumption) ?_; intro _ _)))) | ((with_reducible show wpAny _ _ (subscriptTail _ _ (Value.ref 517) (Value.int _ _)) _ _ _); k_dflt (refine word_at (by k_asm) (by with_reducible assumption) (by assumption) (by assumption) ?_ (by (intro _ _; with_unfolding_all rfl))); intro _ _ _) | ((with_reducible show wpAny _ _ (subscriptTail _ _ (Value.ref 516) (Value.int _ _)) _ _ _); k_dflt (refine alias_at (by k_asm) (by with_reducible assumption) (by assumption) (by assumption) ?_ (by (intro _ _; with_unfolding_all rfl))); intro _ _ _) | ((with_reducible show wpAny _ _ (subscriptTail _ _ (Value.ref _) (Value.int 1 _)) _ _ _); k_dflt (refine item_tupleT (by exact News.isTup (by k_asm) (by k_mem)) (by decide) (by decide) (by rfl) (by rfl) ?_; k_whole)) | ((with_reducible show wpAny _ _ (compareOp CmpOp.NotEq (Value.int _ _) (Value.int _ _)) _ _ _); (k_dflt (refine ne_int_same ?_))) | ((with_reducible show wpAny _ _ (call (Value.type _) [Value.ref _]) _ _ _); k_dflt (refine copy_list (by k_asm) (by k_asm) (by k_mem) (by assumption) ?_); intro _ _ _ _ _ q09; (try k_lt q09); revert q09; intro _) | ((with_reducible show wpAny _ _ (call (Value.builtin "list.append") _) _ _ _); (k_dflt (refine append_any (by k_asm) (by k_asm) (by k_updF) (by first | assumption | kpa_ne) ?_); intro _ _ q09; (try dsimp only at q09); revert q09; intro _)) | ((with_reducible show wpAny _ _ (subscriptTail _ _ (Value.ref _) (Value.int _ _)) _ _ _); k_dflt (refine item_any (by k_asm) (by k_mem) (by assumption) (by kpa_ne) (by assumption) ?_ (by with_unfolding_all rfl) (by kmk_pure))) | ((with_reducible show wpAny _ _ (call (Value.builtin "len") _) _ _ _); (k_dflt (refine len_any (by k_asm) (by k_mem) (by assumption) ?_))) | ((first | (with_reducible show wpAny _ _ (call (Value.ref 531) _) _ _ _) | (with_reducible show wpAny _ _ (call (Value.ref 524) _) _ _ _) | (with_reducible show wpAny _ _ (call (Value.ref 269) _) _ _ _) | (with_reducible show wpAny _ _ (call (Value.ref 513) _) _ _ _) | (with_reducible show wpAny _ _ (call (Value.ref 538) _) _ _ _) | (with_reducible show wpAny _ _ (call (Value.ref 550) _) _ _ _) | (with_reducible show wpAny _ _ (call (Value.ref 562) _) _ _ _) | (with_reducible show wpAny _ _ (call (Value.ref 545) _) _ _ _) | (with_reducible show wpAny _ _ (call (Value.ref 475) _) _ _ _) | (with_reducible show wpAny _ _ (call (Value.ref 555) _) _ _ _) | (with_reducible show wpAny _ _ (call (Value.ref 569) _) _ _ _)); refine here_mark ?_) | ((with_reducible show wpAny _ _ (call (Value.type "range") _) _ _ _); (k_dflt (refine range_N (by k_asm) (by k_asm) ?_); intro _ _ _ _ _ _ _ q09; (try k_lt q09); revert q09; intro _)) | ((with_reducible show wpAny _ _ (exec (Stmt.For _ _ _ _ _) _) _ _ _); (k_dflt (refine For_own (by k_asm) (by rfl) (by rfl) ?_))) | ((with_reducible show wpAny _ _ (pyIter (Value.ref _)) _ _ _); (refine here_mark ?_)) | ((with_reducible show wpAny _ _ (eval (PySem.Expr.Dict [] [] _) _) _ _ _); (k_dflt (refine newDict_K (by k_asm) (by k_asm) (by first | exact Top.nolimit (by k_asm) | exact Glob.nolimit (by k_asm)) ?_; k_whole); intro _ _ _ _ _ q09 _ _ _ _ _; (try k_lt q09); revert q09; intro _)) | walk1 | (dsimp only; walk1) | (leave1; walk_say "STEP leave1"; try dsimp only) | fail "no step"))
          change wpAny _ _ _ _ _ _
          rename News s₁.heap s₁.heap.objs.size _ _ => N42
          have N43 := news_pull N42 (a := tkl) (o := PySem.W.listOf tvs2.toArray kt2) (by repeat (first | exact .head _ | apply List.mem_cons_of_mem))
          clear N42
          refine meant_spec K0 (by k_asm) KX N43 T (by ktr_room) (by ktr_units) (PairsAt.mono (fun p hp => by
              (repeat apply List.mem_cons_of_mem)
              exact List.mem_append.mpr (.inl hp)) hqs2) htv9 hos2 ?_ ?_
          · intro e5; rw [e3] at e5; cases e5
          · intro found2 e5 pG lG ysG tG h44 tk44 hsG F44 N44 lG44
            have e6 : found2 = found := by rw [e3] at e5; cases e5; rfl
            subst e6
            clear N43
            (repeat' (first | (k_unfold; (try dsimp only)) | (k_end; wrow_close) | ((with_reducible show wpAny _ _ (eval (PySem.Expr.IfExp (PySem.Expr.Compare _ _ _ _) _ _ _) _) _ _ _); refine here_mark ?_) | ((with_reducible show wpAny _ _ (exec (Stmt.If (PySem.Expr.Name _ _) _ _ _) _) _ _ _); refine here_mark ?_) | ((with_reducible show wpAny _ _ (exec (Stmt.If (PySem.Expr.Compare (PySem.Expr.Call (PySem.Expr.Name _ _) _ _ _) _ _ _) _ _ _) _) _ _ _); refine here_mark ?_) | ((with_reducible show wpAny _ _ (subscriptTail _ _ (Value.ref _) (Value.int 2 _)) _ _ _); k_dflt (refine item_tupleT (by exact News.isTup (by k_asm) (by k_mem)) (by decide) (by decide) (by rfl) (by rfl) ?_; k_whole)) | ((with_reducible show wpAny _ _ (eval (PySem.Expr.ListComp (PySem.Expr.Name _ _) _ _ _) _) _ _ _); refine here_mark ?_) | ((with_reducible show wpAny _ _ (compareOp CmpOp.NotEq (Value.ref _) (Value.ref _)) _ _ _); (refine here_mark ?_)) | ((with_reducible show wpAny _ _ (exec (Stmt.If (PySem.Expr.BoolOp _ _ _) _ _ _) _) _ _ _); refine here_mark ?_) | ((with_reducible show wpAny _ _ (binaryOp _ (Value.str _ _) (Value.str _ _)) _ _ _); (k_dflt (first | (with_reducible refine add_alias (by with_reducible assumption) ?_; intro _ _) | (with_reducible refine add_word (by with_reducible assumption) (by with_reducible assumption) ?_; intro _ _)))) | ((with_reducible show wpAny _ _ (subscriptTail _ _ (Value.ref 517) (Value.int _ _)) _ _ _); k_dflt (refine word_at (by k_asm) (by with_reducible assumption) (by assumption) (by assumption) ?_ (by (intro _ _; with_unfolding_all rfl))); intro _ _ _) | ((with_reducible show wpAny _ _ (subscriptTail _ _ (Value.ref 516) (Value.int _ _)) _ _ _); k_dflt (refine alias_at (by k_asm) (by with_reducible assumption) (by assumption) (by assumption) ?_ (by (intro _ _; with_unfolding_all rfl))); intro _ _ _) | ((with_reducible show wpAny _ _ (subscriptTail _ _ (Value.ref _) (Value.int 1 _)) _ _ _); k_dflt (refine item_tupleT (by exact News.isTup (by k_asm) (by k_mem)) (by decide) (by decide) (by rfl) (by rfl) ?_; k_whole)) | ((with_reducible show wpAny _ _ (compareOp CmpOp.NotEq (Value.int _ _) (Value.int _ _)) _ _ _); (k_dflt (refine ne_int_same ?_))) | ((with_reducible show wpAny _ _ (call (Value.type _) [Value.ref _]) _ _ _); k_dflt (refine copy_list (by k_asm) (by k_asm) (by k_mem) (by assumption) ?_); intro _ _ _ _ _ q09; (try k_lt q09); revert q09; intro _) | ((with_reducible show wpAny _ _ (call (Value.builtin "list.append") _) _ _ _); (k_dflt (refine append_any (by k_asm) (by k_asm) (by k_updF) (by first | assumption | kpa_ne) ?_); intro _ _ q09; (try dsimp only at q09); revert q09; intro _)) | ((with_reducible show wpAny _ _ (subscriptTail _ _ (Value.ref _) (Value.int _ _)) _ _ _); k_dflt (refine item_any (by k_asm) (by k_mem) (by assumption) (by kpa_ne) (by assumption) ?_ (by with_unfolding_all rfl) (by kmk_pure))) | ((with_reducible show wpAny _ _ (call (Value.builtin "len") _) _ _ _); (k_dflt (refine len_any (by k_asm) (by k_mem) (by assumption) ?_))) | ((first | (with_reducible show wpAny _ _ (call (Value.ref 531) _) _ _ _) | (with_reducible show wpAny _ _ (call (Value.ref 524) _) _ _ _) | (with_reducible show wpAny _ _ (call (Value.ref 269) _) _ _ _) | (with_reducible show wpAny _ _ (call (Value.ref 513) _) _ _ _) | (with_reducible show wpAny _ _ (call (Value.ref 538) _) _ _ _) | (with_reducible show wpAny _ _ (call (Value.ref 550) _) _ _ _) | (with_reducible show wpAny _ _ (call (Value.ref 562) _) _ _ _) | (with_reducible show wpAny _ _ (call (Value.ref 545) _) _ _ _) | (with_reducible show wpAny _ _ (call (Value.ref 475) _) _ _ _) | (with_reducible show wpAny _ _ (call (Value.ref 555) _) _ _ _) | (with_reducible show wpAny _ _ (call (Value.ref 569) _) _ _ _)); refine here_mark ?_) | ((with_reducible show wpAny _ _ (call (Value.type "range") _) _ _ _); (k_dflt (refine range_N (by k_asm) (by k_asm) ?_); intro _ _ _ _ _ _ _ q09; (try k_lt q09); revert q09; intro _)) | ((with_reducible show wpAny _ _ (exec (Stmt.For _ _ _ _ _) _) _ _ _); (k_dflt (refine For_own (by k_asm) (by rfl) (by rfl) ?_))) | ((with_reducible show wpAny _ _ (pyIter (Value.ref _)) _ _ _); (refine here_mark ?_)) | ((with_reducible show wpAny _ _ (eval (PySem.Expr.Dict [] [] _) _) _ _ _); (k_dflt (refine newDict_K (by k_asm) (by k_asm) (by first | exact Top.nolimit (by k_asm) | exact Glob.nolimit (by k_asm)) ?_; k_whole); intro _ _ _ _ _ q09 _ _ _ _ _; (try k_lt q09); revert q09; intro _)) | walk1 | (dsimp only; walk1) | (leave1; walk_say "STEP leave1"; try dsimp only) | fail "no step"))
            change wpAny _ _ _ _ _ _
            rename News s₁.heap s₁.heap.objs.size _ _ => N45
            refine dat_same N45 (found_in (by repeat (first | exact .head _ | apply List.mem_cons_of_mem)) (by repeat (first | exact .head _ | apply List.mem_cons_of_mem)) hsF) (found_in (.head _) (.tail _ (.head _)) hsG) (meant_ok hos2 hXW e3) (by ktr_units) ?_
            (repeat' (first | (k_unfold; (try dsimp only)) | (k_end; wrow_close) | ((with_reducible show wpAny _ _ (eval (PySem.Expr.IfExp (PySem.Expr.Compare _ _ _ _) _ _ _) _) _ _ _); refine here_mark ?_) | ((with_reducible show wpAny _ _ (exec (Stmt.If (PySem.Expr.Name _ _) _ _ _) _) _ _ _); refine here_mark ?_) | ((with_reducible show wpAny _ _ (exec (Stmt.If (PySem.Expr.Compare (PySem.Expr.Call (PySem.Expr.Name _ _) _ _ _) _ _ _) _ _ _) _) _ _ _); refine here_mark ?_) | ((with_reducible show wpAny _ _ (subscriptTail _ _ (Value.ref _) (Value.int 2 _)) _ _ _); k_dflt (refine item_tupleT (by exact News.isTup (by k_asm) (by k_mem)) (by decide) (by decide) (by rfl) (by rfl) ?_; k_whole)) | ((with_reducible show wpAny _ _ (eval (PySem.Expr.ListComp (PySem.Expr.Name _ _) _ _ _) _) _ _ _); refine here_mark ?_) | ((with_reducible show wpAny _ _ (compareOp CmpOp.NotEq (Value.ref _) (Value.ref _)) _ _ _); (refine here_mark ?_)) | ((with_reducible show wpAny _ _ (exec (Stmt.If (PySem.Expr.BoolOp _ _ _) _ _ _) _) _ _ _); refine here_mark ?_) | ((with_reducible show wpAny _ _ (binaryOp _ (Value.str _ _) (Value.str _ _)) _ _ _); (k_dflt (first | (with_reducible refine add_alias (by with_reducible assumption) ?_; intro _ _) | (with_reducible refine add_word (by with_reducible assumption) (by with_reducible assumption) ?_; intro _ _)))) | ((with_reducible show wpAny _ _ (subscriptTail _ _ (Value.ref 517) (Value.int _ _)) _ _ _); k_dflt (refine word_at (by k_asm) (by with_reducible assumption) (by assumption) (by assumption) ?_ (by (intro _ _; with_unfolding_all rfl))); intro _ _ _) | ((with_reducible show wpAny _ _ (subscriptTail _ _ (Value.ref 516) (Value.int _ _)) _ _ _); k_dflt (refine alias_at (by k_asm) (by with_reducible assumption) (by assumption) (by assumption) ?_ (by (intro _ _; with_unfolding_all rfl))); intro _ _ _) | ((with_reducible show wpAny _ _ (subscriptTail _ _ (Value.ref _) (Value.int 1 _)) _ _ _); k_dflt (refine item_tupleT (by exact News.isTup (by k_asm) (by k_mem)) (by decide) (by decide) (by rfl) (by rfl) ?_; k_whole)) | ((with_reducible show wpAny _ _ (compareOp CmpOp.NotEq (Value.int _ _) (Value.int _ _)) _ _ _); (k_dflt (refine ne_int_same ?_))) | ((with_reducible show wpAny _ _ (call (Value.type _) [Value.ref _]) _ _ _); k_dflt (refine copy_list (by k_asm) (by k_asm) (by k_mem) (by assumption) ?_); intro _ _ _ _ _ q09; (try k_lt q09); revert q09; intro _) | ((with_reducible show wpAny _ _ (call (Value.builtin "list.append") _) _ _ _); (k_dflt (refine append_any (by k_asm) (by k_asm) (by k_updF) (by first | assumption | kpa_ne) ?_); intro _ _ q09; (try dsimp only at q09); revert q09; intro _)) | ((with_reducible show wpAny _ _ (subscriptTail _ _ (Value.ref _) (Value.int _ _)) _ _ _); k_dflt (refine item_any (by k_asm) (by k_mem) (by assumption) (by kpa_ne) (by assumption) ?_ (by with_unfolding_all rfl) (by kmk_pure))) | ((with_reducible show wpAny _ _ (call (Value.builtin "len") _) _ _ _); (k_dflt (refine len_any (by k_asm) (by k_mem) (by assumption) ?_))) | ((first | (with_reducible show wpAny _ _ (call (Value.ref 531) _) _ _ _) | (with_reducible show wpAny _ _ (call (Value.ref 524) _) _ _ _) | (with_reducible show wpAny _ _ (call (Value.ref 269) _) _ _ _) | (with_reducible show wpAny _ _ (call (Value.ref 513) _) _ _ _) | (with_reducible show wpAny _ _ (call (Value.ref 538) _) _ _ _) | (with_reducible show wpAny _ _ (call (Value.ref 550) _) _ _ _) | (with_reducible show wpAny _ _ (call (Value.ref 562) _) _ _ _) | (with_reducible show wpAny _ _ (call (Value.ref 545) _) _ _ _) | (with_reducible show wpAny _ _ (call (Value.ref 475) _) _ _ _) | (with_reducible show wpAny _ _ (call (Value.ref 555) _) _ _ _) | (with_reducible show wpAny _ _ (call (Value.ref 569) _) _ _ _)); refine here_mark ?_) | ((with_reducible show wpAny _ _ (call (Value.type "range") _) _ _ _); (k_dflt (refine range_N (by k_asm) (by k_asm) ?_); intro _ _ _ _ _ _ _ q09; (try k_lt q09); revert q09; intro _)) | ((with_reducible show wpAny _ _ (exec (Stmt.For _ _ _ _ _) _) _ _ _); (k_dflt (refine For_own (by k_asm) (by rfl) (by rfl) ?_))) | ((with_reducible show wpAny _ _ (pyIter (Value.ref _)) _ _ _); (refine here_mark ?_)) | ((with_reducible show wpAny _ _ (eval (PySem.Expr.Dict [] [] _) _) _ _ _); (k_dflt (refine newDict_K (by k_asm) (by k_asm) (by first | exact Top.nolimit (by k_asm) | exact Glob.nolimit (by k_asm)) ?_; k_whole); intro _ _ _ _ _ q09 _ _ _ _ _; (try k_lt q09); revert q09; intro _)) | walk1 | (dsimp only; walk1) | (leave1; walk_say "STEP leave1"; try dsimp only) | fail "no step"))
            rename News s₁.heap s₁.heap.objs.size _ _ => N46
            rename Fr s₁.heap s₁.heap.objs.size _ _ => F46
            refine hTT _ _ ?_
            refine turn_nextZ (nw' := (b, obb) :: (c, PySem.W.listOf ys.toArray ys.length) :: (op, PySem.W.listOf ovs1.toArray ko1) :: (tkl, PySem.W.listOf tvs2.toArray kt2) :: (opn, PySem.W.listOf (dvs ++ [Value.ref bi]).toArray (kd' + 1)) :: (l, PySem.W.listOf svs.toArray 0) :: (sg, instObj 269 sd) :: (sd, sdO) :: (en, oe) :: (kd, instObj 513 kdd) :: (kdd, kdO) :: (nws2 ++ own1)) _ F46 (N46.perm ?_) off2 (mk5_eq fun y e1 e2 e3 e4 e5 => by simp only [if_neg e1, if_neg e2, if_neg e3, if_neg e4, if_neg e5]) (of_inv hJ (turnR hbb))
            iterate 13 refine List.forall_mem_cons.mpr ⟨by repeat (first | exact .head _ | apply List.mem_cons_of_mem), ?_⟩
            intro p hp
            repeat (first | exact hp | apply List.mem_cons_of_mem)
    · rintro ⟨z1, z2, z3, z4, z5⟩ nw h9 tk9 hJ1 F9 N9
      refine to_inv hJ hJ1 _ ?_; rintro ob3 ovs ko tvs kt dvs kd' os ds nws rfl hb3 hps hqs hos hds hdok hdl hol hgt
      clear hJ1
      clear N8 F8
      unfold mk5 at F9
      dsimp only at F9
      have hIs : (∀ p ∈ nws, p ∈ nws ++ own1) ∧ ∀ p ∈ own1, p ∈ nws ++ own1 := ⟨fun p hp => List.mem_append.mpr (.inl hp), fun p hp => List.mem_append.mpr (.inr hp)⟩
      have hoffD : OwnOff ((rg, rngO ((kk + 1 : Nat) : Int) ug tk7 vg) :: (op, PySem.W.listOf ovs.toArray ko) :: (tkl, PySem.W.listOf tvs.toArray kt) :: (sg, instObj 269 sd) :: (sd, sdO) :: (en, oe) :: (kd, instObj 513 kdd) :: (kdd, kdO) :: (nws ++ own1)) [b] := by
        refine offC (offC (offC (offC (offC (offC (offC (offC (offA hoff1 fun p hp => Nat.lt_trans hbk (hgt p hp)) ?_) ?_) ?_) ?_) ?_) ?_) ?_) ?_ <;> exact Nat.ne_of_gt (by assumption)
      have hdl10 : ds.length ≤ 10 := by kpa_ne
      have hdv1000 : dvs.length ≤ 1000 := Nat.le_trans (Nat.le_of_eq hds.length) (Nat.le_trans hdl10 (by decide))
      have N10 : News s₁.heap s₁.heap.objs.size h9 ((b, ob3) :: (c, PySem.W.listOf ys.toArray ys.length) :: (l, PySem.W.listOf svs.toArray 0) :: (opn, PySem.W.listOf dvs.toArray kd') :: (rg, rngO ((kk + 1 : Nat) : Int) ug tk7 vg) :: (op, PySem.W.listOf ovs.toArray ko) :: (tkl, PySem.W.listOf tvs.toArray kt) :: (sg, instObj 269 sd) :: (sd, sdO) :: (en, oe) :: (kd, instObj 513 kdd) :: (kdd, kdO) :: (nws ++ own1)) := N9.perm (by
        iterate 12 refine List.forall_mem_cons.mpr ⟨by repeat (first | exact .head _ | apply List.mem_cons_of_mem), ?_⟩
        intro p hp
        repeat (first | exact hp | apply List.mem_cons_of_mem))
      clear N9
      (repeat' (first | (k_unfold; (try dsimp only)) | (k_end; wrow_close) | ((with_reducible show wpAny _ _ (eval (PySem.Expr.IfExp (PySem.Expr.Compare _ _ _ _) _ _ _) _) _ _ _); refine here_mark ?_) | ((with_reducible show wpAny _ _ (exec (Stmt.If (PySem.Expr.Name _ _) _ _ _) _) _ _ _); refine here_mark ?_) | ((with_reducible show wpAny _ _ (exec (Stmt.If (PySem.Expr.Compare (PySem.Expr.Call (PySem.Expr.Name _ _) _ _ _) _ _ _) _ _ _) _) _ _ _); refine here_mark ?_) | ((with_reducible show wpAny _ _ (subscriptTail _ _ (Value.ref _) (Value.int 2 _)) _ _ _); k_dflt (refine item_tupleT (by exact News.isTup (by k_asm) (by k_mem)) (by decide) (by decide) (by rfl) (by rfl) ?_; k_whole)) | ((with_reducible show wpAny _ _ (eval (PySem.Expr.ListComp (PySem.Expr.Name _ _) _ _ _) _) _ _ _); refine here_mark ?_) | ((with_reducible show wpAny _ _ (compareOp CmpOp.NotEq (Value.ref _) (Value.ref _)) _ _ _); (refine here_mark ?_)) | ((with_reducible show wpAny _ _ (exec (Stmt.If (PySem.Expr.BoolOp _ _ _) _ _ _) _) _ _ _); refine here_mark ?_) | ((with_reducible show wpAny _ _ (binaryOp _ (Value.str _ _) (Value.str _ _)) _ _ _); (k_dflt (first | (with_reducible refine add_alias (by with_reducible assumption) ?_; intro _ _) | (with_reducible refine add_word (by with_reducible assumption) (by with_reducible assumption) ?_; intro _ _)))) | ((with_reducible show wpAny _ _ (subscriptTail _ _ (Value.ref 517) (Value.int _ _)) _ _ _); k_dflt (refine word_at (by k_asm) (by with_reducible assumption) (by assumption) (by assumption) ?_ (by (intro _ _; with_unfolding_all rfl))); intro _ _ _) | ((with_reducible show wpAny _ _ (subscriptTail _ _ (Value.ref 516) (Value.int _ _)) _ _ _); k_dflt (refine alias_at (by k_asm) (by with_reducible assumption) (by assumption) (by assumption) ?_ (by (intro _ _; with_unfolding_all rfl))); intro _ _ _) | ((with_reducible show wpAny _ _ (subscriptTail _ _ (Value.ref _) (Value.int 1 _)) _ _ _); k_dflt (refine item_tupleT (by exact News.isTup (by k_asm) (by k_mem)) (by decide) (by decide) (by rfl) (by rfl) ?_; k_whole)) | ((with_reducible show wpAny _ _ (compareOp CmpOp.NotEq (Value.int _ _) (Value.int _ _)) _ _ _); (k_dflt (refine ne_int_same ?_))) | ((with_reducible show wpAny _ _ (call (Value.type _) [Value.ref _]) _ _ _); k_dflt (refine copy_list (by k_asm) (by k_asm) (by k_mem) (by assumption) ?_); intro _ _ _ _ _ q09; (try k_lt q09); revert q09; intro _) | ((with_reducible show wpAny _ _ (call (Value.builtin "list.append") _) _ _ _); (k_dflt (refine append_any (by k_asm) (by k_asm) (by k_updF) (by first | assumption | kpa_ne) ?_); intro _ _ q09; (try dsimp only at q09); revert q09; intro _)) | ((with_reducible show wpAny _ _ (subscriptTail _ _ (Value.ref _) (Value.int _ _)) _ _ _); k_dflt (refine item_any (by k_asm) (by k_mem) (by assumption) (by kpa_ne) (by assumption) ?_ (by with_unfolding_all rfl) (by kmk_pure))) | ((with_reducible show wpAny _ _ (call (Value.builtin "len") _) _ _ _); (k_dflt (refine len_any (by k_asm) (by k_mem) (by assumption) ?_))) | ((first | (with_reducible show wpAny _ _ (call (Value.ref 531) _) _ _ _) | (with_reducible show wpAny _ _ (call (Value.ref 524) _) _ _ _) | (with_reducible show wpAny _ _ (call (Value.ref 269) _) _ _ _) | (with_reducible show wpAny _ _ (call (Value.ref 513) _) _ _ _) | (with_reducible show wpAny _ _ (call (Value.ref 538) _) _ _ _) | (with_reducible show wpAny _ _ (call (Value.ref 550) _) _ _ _) | (with_reducible show wpAny _ _ (call (Value.ref 562) _) _ _ _) | (with_reducible show wpAny _ _ (call (Value.ref 545) _) _ _ _) | (with_reducible show wpAny _ _ (call (Value.ref 475) _) _ _ _) | (with_reducible show wpAny _ _ (call (Value.ref 555) _) _ _ _) | (with_reducible show wpAny _ _ (call (Value.ref 569) _) _ _ _)); refine here_mark ?_) | ((with_reducible show wpAny _ _ (call (Value.type "range") _) _ _ _); (k_dflt (refine range_N (by k_asm) (by k_asm) ?_); intro _ _ _ _ _ _ _ q09; (try k_lt q09); revert q09; intro _)) | ((with_reducible show wpAny _ _ (exec (Stmt.For _ _ _ _ _) _) _ _ _); (k_dflt (refine For_own (by k_asm) (by rfl) (by rfl) ?_))) | ((with_reducible show wpAny _ _ (pyIter (Value.ref _)) _ _ _); (refine here_mark ?_)) | ((with_reducible show wpAny _ _ (eval (PySem.Expr.Dict [] [] _) _) _ _ _); (k_dflt (refine newDict_K (by k_asm) (by k_asm) (by first | exact Top.nolimit (by k_asm) | exact Glob.nolimit (by k_asm)) ?_; k_whole); intro _ _ _ _ _ q09 _ _ _ _ _; (try k_lt q09); revert q09; intro _)) | walk1 | (dsimp only; walk1) | (leave1; walk_say "STEP leave1"; try dsimp only) | fail "no step"))
      change wpAny _ _ _ _ _ _
      refine right_spec K0 (by k_asm) KX N10 T (by ktr_room) (by ktr_units) hb3 (bl7 r1') lo hbc (Nat.ne_of_gt hbl) (Nat.ne_of_gt hbopn) hoffD hI8 hcn
        (hS.mono fun _ _ z => SigV.mono (fun p hp => by
          iterate 8 apply List.mem_cons_of_mem
          exact hIs.2 p hp) z) hxs (hds.mono fun _ _ z => OpenV.mono (fun p hp => by
          iterate 8 apply List.mem_cons_of_mem
          exact hIs.1 p hp) z) hdok hdl10 ?_
      intro obA hA tkA FA NA hbA
      clear N10
      (repeat' (first | (k_unfold; (try dsimp only)) | (k_end; wrow_close) | ((with_reducible show wpAny _ _ (eval (PySem.Expr.IfExp (PySem.Expr.Compare _ _ _ _) _ _ _) _) _ _ _); refine here_mark ?_) | ((with_reducible show wpAny _ _ (exec (Stmt.If (PySem.Expr.Name _ _) _ _ _) _) _ _ _); refine here_mark ?_) | ((with_reducible show wpAny _ _ (exec (Stmt.If (PySem.Expr.Compare (PySem.Expr.Call (PySem.Expr.Name _ _) _ _ _) _ _ _) _ _ _) _) _ _ _); refine here_mark ?_) | ((with_reducible show wpAny _ _ (subscriptTail _ _ (Value.ref _) (Value.int 2 _)) _ _ _); k_dflt (refine item_tupleT (by exact News.isTup (by k_asm) (by k_mem)) (by decide) (by decide) (by rfl) (by rfl) ?_; k_whole)) | ((with_reducible show wpAny _ _ (eval (PySem.Expr.ListComp (PySem.Expr.Name _ _) _ _ _) _) _ _ _); refine here_mark ?_) | ((with_reducible show wpAny _ _ (compareOp CmpOp.NotEq (Value.ref _) (Value.ref _)) _ _ _); (refine here_mark ?_)) | ((with_reducible show wpAny _ _ (exec (Stmt.If (PySem.Expr.BoolOp _ _ _) _ _ _) _) _ _ _); refine here_mark ?_) | ((with_reducible show wpAny _ _ (binaryOp _ (Value.str _ _) (Value.str _ _)) _ _ _); (k_dflt (first | (with_reducible refine add_alias (by with_reducible assumption) ?_; intro _ _) | (with_reducible refine add_word (by with_reducible assumption) (by with_reducible assumption) ?_; intro _ _)))) | ((with_reducible show wpAny _ _ (subscriptTail _ _ (Value.ref 517) (Value.int _ _)) _ _ _); k_dflt (refine word_at (by k_asm) (by with_reducible assumption) (by assumption) (by assumption) ?_ (by (intro _ _; with_unfolding_all rfl))); intro _ _ _) | ((with_reducible show wpAny _ _ (subscriptTail _ _ (Value.ref 516) (Value.int _ _)) _ _ _); k_dflt (refine alias_at (by k_asm) (by with_reducible assumption) (by assumption) (by assumption) ?_ (by (intro _ _; with_unfolding_all rfl))); intro _ _ _) | ((with_reducible show wpAny _ _ (subscriptTail _ _ (Value.ref _) (Value.int 1 _)) _ _ _); k_dflt (refine item_tupleT (by exact News.isTup (by k_asm) (by k_mem)) (by decide) (by decide) (by rfl) (by rfl) ?_; k_whole)) | ((with_reducible show wpAny _ _ (compareOp CmpOp.NotEq (Value.int _ _) (Value.int _ _)) _ _ _); (k_dflt (refine ne_int_same ?_))) | ((with_reducible show wpAny _ _ (call (Value.type _) [Value.ref _]) _ _ _); k_dflt (refine copy_list (by k_asm) (by k_asm) (by k_mem) (by assumption) ?_); intro _ _ _ _ _ q09; (try k_lt q09); revert q09; intro _) | ((with_reducible show wpAny _ _ (call (Value.builtin "list.append") _) _ _ _); (k_dflt (refine append_any (by k_asm) (by k_asm) (by k_updF) (by first | assumption | kpa_ne) ?_); intro _ _ q09; (try dsimp only at q09); revert q09; intro _)) | ((with_reducible show wpAny _ _ (subscriptTail _ _ (Value.ref _) (Value.int _ _)) _ _ _); k_dflt (refine item_any (by k_asm) (by k_mem) (by assumption) (by kpa_ne) (by assumption) ?_ (by with_unfolding_all rfl) (by kmk_pure))) | ((with_reducible show wpAny _ _ (call (Value.builtin "len") _) _ _ _); (k_dflt (refine len_any (by k_asm) (by k_mem) (by assumption) ?_))) | ((first | (with_reducible show wpAny _ _ (call (Value.ref 531) _) _ _ _) | (with_reducible show wpAny _ _ (call (Value.ref 524) _) _ _ _) | (with_reducible show wpAny _ _ (call (Value.ref 269) _) _ _ _) | (with_reducible show wpAny _ _ (call (Value.ref 513) _) _ _ _) | (with_reducible show wpAny _ _ (call (Value.ref 538) _) _ _ _) | (with_reducible show wpAny _ _ (call (Value.ref 550) _) _ _ _) | (with_reducible show wpAny _ _ (call (Value.ref 562) _) _ _ _) | (with_reducible show wpAny _ _ (call (Value.ref 545) _) _ _ _) | (with_reducible show wpAny _ _ (call (Value.ref 475) _) _ _ _) | (with_reducible show wpAny _ _ (call (Value.ref 555) _) _ _ _) | (with_reducible show wpAny _ _ (call (Value.ref 569) _) _ _ _)); refine here_mark ?_) | ((with_reducible show wpAny _ _ (call (Value.type "range") _) _ _ _); (k_dflt (refine range_N (by k_asm) (by k_asm) ?_); intro _ _ _ _ _ _ _ q09; (try k_lt q09); revert q09; intro _)) | ((with_reducible show wpAny _ _ (exec (Stmt.For _ _ _ _ _) _) _ _ _); (k_dflt (refine For_own (by k_asm) (by rfl) (by rfl) ?_))) | ((with_reducible show wpAny _ _ (pyIter (Value.ref _)) _ _ _); (refine here_mark ?_)) | ((with_reducible show wpAny _ _ (eval (PySem.Expr.Dict [] [] _) _) _ _ _); (k_dflt (refine newDict_K (by k_asm) (by k_asm) (by first | exact Top.nolimit (by k_asm) | exact Glob.nolimit (by k_asm)) ?_; k_whole); intro _ _ _ _ _ q09 _ _ _ _ _; (try k_lt q09); revert q09; intro _)) | walk1 | (dsimp only; walk1) | (leave1; walk_say "STEP leave1"; try dsimp only) | fail "no step"))
      change wpAny _ _ _ _ _ _
      refine comp_av (R := OpenV (nws ++ own1)) (by k_asm) (by with_unfolding_all rfl) (by decide) (by rfl) (by decide) (by rfl) (by decide) ?_
      walk1
      refine ⟨opn, kd', _, dvs, ds, fun d => d.module != Str.ofString "util/order", rfl, rfl, by k_asm, by k_asm, by repeat (first | exact .head _ | apply List.mem_cons_of_mem), hds.mono fun _ _ z => OpenV.mono hIs.1 z, hdv1000, ?_, ?_⟩
      · intro o ho v hov
        refine OpenV.ch hov _ ?_; clear hov; rintro ai aa u1 u2 u3 u4 avs rfl hm1 hm2 hargs oI oC IC CC DC ysC m₂ hC tkC E' hNs hx2 FC NC
        (repeat' (first | (k_unfold; (try dsimp only)) | (k_end; wrow_close) | ((with_reducible show wpAny _ _ (eval (PySem.Expr.IfExp (PySem.Expr.Compare _ _ _ _) _ _ _) _) _ _ _); refine here_mark ?_) | ((with_reducible show wpAny _ _ (exec (Stmt.If (PySem.Expr.Name _ _) _ _ _) _) _ _ _); refine here_mark ?_) | ((with_reducible show wpAny _ _ (exec (Stmt.If (PySem.Expr.Compare (PySem.Expr.Call (PySem.Expr.Name _ _) _ _ _) _ _ _) _ _ _) _) _ _ _); refine here_mark ?_) | ((with_reducible show wpAny _ _ (subscriptTail _ _ (Value.ref _) (Value.int 2 _)) _ _ _); k_dflt (refine item_tupleT (by exact News.isTup (by k_asm) (by k_mem)) (by decide) (by decide) (by rfl) (by rfl) ?_; k_whole)) | ((with_reducible show wpAny _ _ (eval (PySem.Expr.ListComp (PySem.Expr.Name _ _) _ _ _) _) _ _ _); refine here_mark ?_) | ((with_reducible show wpAny _ _ (compareOp CmpOp.NotEq (Value.ref _) (Value.ref _)) _ _ _); (refine here_mark ?_)) | ((with_reducible show wpAny _ _ (exec (Stmt.If (PySem.Expr.BoolOp _ _ _) _ _ _) _) _ _ _); refine here_mark ?_) | ((with_reducible show wpAny _ _ (binaryOp _ (Value.str _ _) (Value.str _ _)) _ _ _); (k_dflt (first | (with_reducible refine add_alias (by with_reducible assumption) ?_; intro _ _) | (with_reducible refine add_word (by with_reducible assumption) (by with_reducible assumption) ?_; intro _ _)))) | ((with_reducible show wpAny _ _ (subscriptTail _ _ (Value.ref 517) (Value.int _ _)) _ _ _); k_dflt (refine word_at (by k_asm) (by with_reducible assumption) (by assumption) (by assumption) ?_ (by (intro _ _; with_unfolding_all rfl))); intro _ _ _) | ((with_reducible show wpAny _ _ (subscriptTail _ _ (Value.ref 516) (Value.int _ _)) _ _ _); k_dflt (refine alias_at (by k_asm) (by with_reducible assumption) (by assumption) (by assumption) ?_ (by (intro _ _; with_unfolding_all rfl))); intro _ _ _) | ((with_reducible show wpAny _ _ (subscriptTail _ _ (Value.ref _) (Value.int 1 _)) _ _ _); k_dflt (refine item_tupleT (by exact News.isTup (by k_asm) (by k_mem)) (by decide) (by decide) (by rfl) (by rfl) ?_; k_whole)) | ((with_reducible show wpAny _ _ (compareOp CmpOp.NotEq (Value.int _ _) (Value.int _ _)) _ _ _); (k_dflt (refine ne_int_same ?_))) | ((with_reducible show wpAny _ _ (call (Value.type _) [Value.ref _]) _ _ _); k_dflt (refine copy_list (by k_asm) (by k_asm) (by k_mem) (by assumption) ?_); intro _ _ _ _ _ q09; (try k_lt q09); revert q09; intro _) | ((with_reducible show wpAny _ _ (call (Value.builtin "list.append") _) _ _ _); (k_dflt (refine append_any (by k_asm) (by k_asm) (by k_updF) (by first | assumption | kpa_ne) ?_); intro _ _ q09; (try dsimp only at q09); revert q09; intro _)) | ((with_reducible show wpAny _ _ (subscriptTail _ _ (Value.ref _) (Value.int _ _)) _ _ _); k_dflt (refine item_any (by k_asm) (by k_mem) (by assumption) (by kpa_ne) (by assumption) ?_ (by with_unfolding_all rfl) (by kmk_pure))) | ((with_reducible show wpAny _ _ (call (Value.builtin "len") _) _ _ _); (k_dflt (refine len_any (by k_asm) (by k_mem) (by assumption) ?_))) | ((first | (with_reducible show wpAny _ _ (call (Value.ref 531) _) _ _ _) | (with_reducible show wpAny _ _ (call (Value.ref 524) _) _ _ _) | (with_reducible show wpAny _ _ (call (Value.ref 269) _) _ _ _) | (with_reducible show wpAny _ _ (call (Value.ref 513) _) _ _ _) | (with_reducible show wpAny _ _ (call (Value.ref 538) _) _ _ _) | (with_reducible show wpAny _ _ (call (Value.ref 550) _) _ _ _) | (with_reducible show wpAny _ _ (call (Value.ref 562) _) _ _ _) | (with_reducible show wpAny _ _ (call (Value.ref 545) _) _ _ _) | (with_reducible show wpAny _ _ (call (Value.ref 475) _) _ _ _) | (with_reducible show wpAny _ _ (call (Value.ref 555) _) _ _ _) | (with_reducible show wpAny _ _ (call (Value.ref 569) _) _ _ _)); refine here_mark ?_) | ((with_reducible show wpAny _ _ (call (Value.type "range") _) _ _ _); (k_dflt (refine range_N (by k_asm) (by k_asm) ?_); intro _ _ _ _ _ _ _ q09; (try k_lt q09); revert q09; intro _)) | ((with_reducible show wpAny _ _ (exec (Stmt.For _ _ _ _ _) _) _ _ _); (k_dflt (refine For_own (by k_asm) (by rfl) (by rfl) ?_))) | ((with_reducible show wpAny _ _ (pyIter (Value.ref _)) _ _ _); (refine here_mark ?_)) | ((with_reducible show wpAny _ _ (eval (PySem.Expr.Dict [] [] _) _) _ _ _); (k_dflt (refine newDict_K (by k_asm) (by k_asm) (by first | exact Top.nolimit (by k_asm) | exact Glob.nolimit (by k_asm)) ?_; k_whole); intro _ _ _ _ _ q09 _ _ _ _ _; (try k_lt q09); revert q09; intro _)) | walk1 | (dsimp only; walk1) | (leave1; walk_say "STEP leave1"; try dsimp only) | fail "no step"))
      · intro D ys2 hD tkD hys2 FD ND lD
        have lDb : @LT.lt Nat _ b D := lD (b, obA) (.head _)
        (repeat' (first | (k_unfold; (try dsimp only)) | (k_end; wrow_close) | ((with_reducible show wpAny _ _ (eval (PySem.Expr.IfExp (PySem.Expr.Compare _ _ _ _) _ _ _) _) _ _ _); refine here_mark ?_) | ((with_reducible show wpAny _ _ (exec (Stmt.If (PySem.Expr.Name _ _) _ _ _) _) _ _ _); refine here_mark ?_) | ((with_reducible show wpAny _ _ (exec (Stmt.If (PySem.Expr.Compare (PySem.Expr.Call (PySem.Expr.Name _ _) _ _ _) _ _ _) _ _ _) _) _ _ _); refine here_mark ?_) | ((with_reducible show wpAny _ _ (subscriptTail _ _ (Value.ref _) (Value.int 2 _)) _ _ _); k_dflt (refine item_tupleT (by exact News.isTup (by k_asm) (by k_mem)) (by decide) (by decide) (by rfl) (by rfl) ?_; k_whole)) | ((with_reducible show wpAny _ _ (eval (PySem.Expr.ListComp (PySem.Expr.Name _ _) _ _ _) _) _ _ _); refine here_mark ?_) | ((with_reducible show wpAny _ _ (compareOp CmpOp.NotEq (Value.ref _) (Value.ref _)) _ _ _); (refine here_mark ?_)) | ((with_reducible show wpAny _ _ (exec (Stmt.If (PySem.Expr.BoolOp _ _ _) _ _ _) _) _ _ _); refine here_mark ?_) | ((with_reducible show wpAny _ _ (binaryOp _ (Value.str _ _) (Value.str _ _)) _ _ _); (k_dflt (first | (with_reducible refine add_alias (by with_reducible assumption) ?_; intro _ _) | (with_reducible refine add_word (by with_reducible assumption) (by with_reducible assumption) ?_; intro _ _)))) | ((with_reducible show wpAny _ _ (subscriptTail _ _ (Value.ref 517) (Value.int _ _)) _ _ _); k_dflt (refine word_at (by k_asm) (by with_reducible assumption) (by assumption) (by assumption) ?_ (by (intro _ _; with_unfolding_all rfl))); intro _ _ _) | ((with_reducible show wpAny _ _ (subscriptTail _ _ (Value.ref 516) (Value.int _ _)) _ _ _); k_dflt (refine alias_at (by k_asm) (by with_reducible assumption) (by assumption) (by assumption) ?_ (by (intro _ _; with_unfolding_all rfl))); intro _ _ _) | ((with_reducible show wpAny _ _ (subscriptTail _ _ (Value.ref _) (Value.int 1 _)) _ _ _); k_dflt (refine item_tupleT (by exact News.isTup (by k_asm) (by k_mem)) (by decide) (by decide) (by rfl) (by rfl) ?_; k_whole)) | ((with_reducible show wpAny _ _ (compareOp CmpOp.NotEq (Value.int _ _) (Value.int _ _)) _ _ _); (k_dflt (refine ne_int_same ?_))) | ((with_reducible show wpAny _ _ (call (Value.type _) [Value.ref _]) _ _ _); k_dflt (refine copy_list (by k_asm) (by k_asm) (by k_mem) (by assumption) ?_); intro _ _ _ _ _ q09; (try k_lt q09); revert q09; intro _) | ((with_reducible show wpAny _ _ (call (Value.builtin "list.append") _) _ _ _); (k_dflt (refine append_any (by k_asm) (by k_asm) (by k_updF) (by first | assumption | kpa_ne) ?_); intro _ _ q09; (try dsimp only at q09); revert q09; intro _)) | ((with_reducible show wpAny _ _ (subscriptTail _ _ (Value.ref _) (Value.int _ _)) _ _ _); k_dflt (refine item_any (by k_asm) (by k_mem) (by assumption) (by kpa_ne) (by assumption) ?_ (by with_unfolding_all rfl) (by kmk_pure))) | ((with_reducible show wpAny _ _ (call (Value.builtin "len") _) _ _ _); (k_dflt (refine len_any (by k_asm) (by k_mem) (by assumption) ?_))) | ((first | (with_reducible show wpAny _ _ (call (Value.ref 531) _) _ _ _) | (with_reducible show wpAny _ _ (call (Value.ref 524) _) _ _ _) | (with_reducible show wpAny _ _ (call (Value.ref 269) _) _ _ _) | (with_reducible show wpAny _ _ (call (Value.ref 513) _) _ _ _) | (with_reducible show wpAny _ _ (call (Value.ref 538) _) _ _ _) | (with_reducible show wpAny _ _ (call (Value.ref 550) _) _ _ _) | (with_reducible show wpAny _ _ (call (Value.ref 562) _) _ _ _) | (with_reducible show wpAny _ _ (call (Value.ref 545) _) _ _ _) | (with_reducible show wpAny _ _ (call (Value.ref 475) _) _ _ _) | (with_reducible show wpAny _ _ (call (Value.ref 555) _) _ _ _) | (with_reducible show wpAny _ _ (call (Value.ref 569) _) _ _ _)); refine here_mark ?_) | ((with_reducible show wpAny _ _ (call (Value.type "range") _) _ _ _); (k_dflt (refine range_N (by k_asm) (by k_asm) ?_); intro _ _ _ _ _ _ _ q09; (try k_lt q09); revert q09; intro _)) | ((with_reducible show wpAny _ _ (exec (Stmt.For _ _ _ _ _) _) _ _ _); (k_dflt (refine For_own (by k_asm) (by rfl) (by rfl) ?_))) | ((with_reducible show wpAny _ _ (pyIter (Value.ref _)) _ _ _); (refine here_mark ?_)) | ((with_reducible show wpAny _ _ (eval (PySem.Expr.Dict [] [] _) _) _ _ _); (k_dflt (refine newDict_K (by k_asm) (by k_asm) (by first | exact Top.nolimit (by k_asm) | exact Glob.nolimit (by k_asm)) ?_; k_whole); intro _ _ _ _ _ q09 _ _ _ _ _; (try k_lt q09); revert q09; intro _)) | walk1 | (dsimp only; walk1) | (leave1; walk_say "STEP leave1"; try dsimp only) | fail "no step"))
        change wpAny _ _ _ _ _ _
        rename News s₁.heap s₁.heap.objs.size _ _ => ND2
        have N20 : News s₁.heap s₁.heap.objs.size _ ((b, obA) :: (c, PySem.W.listOf ys.toArray ys.length) :: (l, PySem.W.listOf svs.toArray 0) :: (D, PySem.W.listOf ys2.toArray ys2.length) :: (opn, PySem.W.listOf dvs.toArray kd') :: (rg, rngO ((kk + 1 : Nat) : Int) ug tk7 vg) :: (op, PySem.W.listOf ovs.toArray ko) :: (tkl, PySem.W.listOf tvs.toArray kt) :: (sg, instObj 269 sd) :: (sd, sdO) :: (en, oe) :: (kd, instObj 513 kdd) :: (kdd, kdO) :: (nws ++ own1)) := ND2.perm (by
          iterate 13 refine List.forall_mem_cons.mpr ⟨by repeat (first | exact .head _ | apply List.mem_cons_of_mem), ?_⟩
          intro p hp
          repeat (first | exact hp | apply List.mem_cons_of_mem))
        clear ND2
        refine right_spec K0 (by k_asm) KX N20 T (by ktr_room) (by ktr_units) hbA (bl8 r1') lo hbc (Nat.ne_of_gt hbl) (Nat.ne_of_gt lDb) (offC hoffD (Nat.ne_of_gt hbopn)) hI8 hcn
          (hS.mono fun _ _ z => SigV.mono (fun p hp => by
            iterate 9 apply List.mem_cons_of_mem
            exact hIs.2 p hp) z) hxs (hys2.mono fun _ _ z => OpenV.mono (fun p hp => by
            iterate 9 apply List.mem_cons_of_mem
            exact hp) z) (fun d' hd' => hdok d' (List.mem_filter.mp hd').1) (Nat.le_trans (List.length_filter_le _ _) hdl10) ?_
        intro obB hB tkB FB NB hbB
        clear N20
        (repeat' (first | (k_unfold; (try dsimp only)) | (k_end; wrow_close) | ((with_reducible show wpAny _ _ (eval (PySem.Expr.IfExp (PySem.Expr.Compare _ _ _ _) _ _ _) _) _ _ _); refine here_mark ?_) | ((with_reducible show wpAny _ _ (exec (Stmt.If (PySem.Expr.Name _ _) _ _ _) _) _ _ _); refine here_mark ?_) | ((with_reducible show wpAny _ _ (exec (Stmt.If (PySem.Expr.Compare (PySem.Expr.Call (PySem.Expr.Name _ _) _ _ _) _ _ _) _ _ _) _) _ _ _); refine here_mark ?_) | ((with_reducible show wpAny _ _ (subscriptTail _ _ (Value.ref _) (Value.int 2 _)) _ _ _); k_dflt (refine item_tupleT (by exact News.isTup (by k_asm) (by k_mem)) (by decide) (by decide) (by rfl) (by rfl) ?_; k_whole)) | ((with_reducible show wpAny _ _ (eval (PySem.Expr.ListComp (PySem.Expr.Name _ _) _ _ _) _) _ _ _); refine here_mark ?_) | ((with_reducible show wpAny _ _ (compareOp CmpOp.NotEq (Value.ref _) (Value.ref _)) _ _ _); (refine here_mark ?_)) | ((with_reducible show wpAny _ _ (exec (Stmt.If (PySem.Expr.BoolOp _ _ _) _ _ _) _) _ _ _); refine here_mark ?_) | ((with_reducible show wpAny _ _ (binaryOp _ (Value.str _ _) (Value.str _ _)) _ _ _); (k_dflt (first | (with_reducible refine add_alias (by with_reducible assumption) ?_; intro _ _) | (with_reducible refine add_word (by with_reducible assumption) (by with_reducible assumption) ?_; intro _ _)))) | ((with_reducible show wpAny _ _ (subscriptTail _ _ (Value.ref 517) (Value.int _ _)) _ _ _); k_dflt (refine word_at (by k_asm) (by with_reducible assumption) (by assumption) (by assumption) ?_ (by (intro _ _; with_unfolding_all rfl))); intro _ _ _) | ((with_reducible show wpAny _ _ (subscriptTail _ _ (Value.ref 516) (Value.int _ _)) _ _ _); k_dflt (refine alias_at (by k_asm) (by with_reducible assumption) (by assumption) (by assumption) ?_ (by (intro _ _; with_unfolding_all rfl))); intro _ _ _) | ((with_reducible show wpAny _ _ (subscriptTail _ _ (Value.ref _) (Value.int 1 _)) _ _ _); k_dflt (refine item_tupleT (by exact News.isTup (by k_asm) (by k_mem)) (by decide) (by decide) (by rfl) (by rfl) ?_; k_whole)) | ((with_reducible show wpAny _ _ (compareOp CmpOp.NotEq (Value.int _ _) (Value.int _ _)) _ _ _); (k_dflt (refine ne_int_same ?_))) | ((with_reducible show wpAny _ _ (call (Value.type _) [Value.ref _]) _ _ _); k_dflt (refine copy_list (by k_asm) (by k_asm) (by k_mem) (by assumption) ?_); intro _ _ _ _ _ q09; (try k_lt q09); revert q09; intro _) | ((with_reducible show wpAny _ _ (call (Value.builtin "list.append") _) _ _ _); (k_dflt (refine append_any (by k_asm) (by k_asm) (by k_updF) (by first | assumption | kpa_ne) ?_); intro _ _ q09; (try dsimp only at q09); revert q09; intro _)) | ((with_reducible show wpAny _ _ (subscriptTail _ _ (Value.ref _) (Value.int _ _)) _ _ _); k_dflt (refine item_any (by k_asm) (by k_mem) (by assumption) (by kpa_ne) (by assumption) ?_ (by with_unfolding_all rfl) (by kmk_pure))) | ((with_reducible show wpAny _ _ (call (Value.builtin "len") _) _ _ _); (k_dflt (refine len_any (by k_asm) (by k_mem) (by assumption) ?_))) | ((first | (with_reducible show wpAny _ _ (call (Value.ref 531) _) _ _ _) | (with_reducible show wpAny _ _ (call (Value.ref 524) _) _ _ _) | (with_reducible show wpAny _ _ (call (Value.ref 269) _) _ _ _) | (with_reducible show wpAny _ _ (call (Value.ref 513) _) _ _ _) | (with_reducible show wpAny _ _ (call (Value.ref 538) _) _ _ _) | (with_reducible show wpAny _ _ (call (Value.ref 550) _) _ _ _) | (with_reducible show wpAny _ _ (call (Value.ref 562) _) _ _ _) | (with_reducible show wpAny _ _ (call (Value.ref 545) _) _ _ _) | (with_reducible show wpAny _ _ (call (Value.ref 475) _) _ _ _) | (with_reducible show wpAny _ _ (call (Value.ref 555) _) _ _ _) | (with_reducible show wpAny _ _ (call (Value.ref 569) _) _ _ _)); refine here_mark ?_) | ((with_reducible show wpAny _ _ (call (Value.type "range") _) _ _ _); (k_dflt (refine range_N (by k_asm) (by k_asm) ?_); intro _ _ _ _ _ _ _ q09; (try k_lt q09); revert q09; intro _)) | ((with_reducible show wpAny _ _ (exec (Stmt.For _ _ _ _ _) _) _ _ _); (k_dflt (refine For_own (by k_asm) (by rfl) (by rfl) ?_))) | ((with_reducible show wpAny _ _ (pyIter (Value.ref _)) _ _ _); (refine here_mark ?_)) | ((with_reducible show wpAny _ _ (eval (PySem.Expr.Dict [] [] _) _) _ _ _); (k_dflt (refine newDict_K (by k_asm) (by k_asm) (by first | exact Top.nolimit (by k_asm) | exact Glob.nolimit (by k_asm)) ?_; k_whole); intro _ _ _ _ _ q09 _ _ _ _ _; (try k_lt q09); revert q09; intro _)) | walk1 | (dsimp only; walk1) | (leave1; walk_say "STEP leave1"; try dsimp only) | fail "no step"))
  · intro spot hrun2
    rw [opensOf_sigs] at hrun2
    cases hrun2
end
end Mine
theorem PySem.Challenge.cw_rr0095_01_holds : PySem.Challenge.rw_rr0095_01.Holds :=
  Mine.top
