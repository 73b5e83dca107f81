import PyProof.Rows.All
import Wide.All
import OpenK.AllK
import Wide.FinOn
import Lean
import PySem.Challenge.RW_nz0179_01

set_option Elab.async false

section
open PySem PySem.W PyProof.Rows
set_option maxRecDepth 100000
namespace Mine
/-! the part of the heap that the walk knows -/
noncomputable def stA (i : Nat) : Option Stmt := PySem.Challenge.pw_nz0179_01.main.body[i]?
noncomputable def stM (i : Nat) : Option Stmt := match stA i with | some (.ClassDef _ _ _ b _ _ _ _ _ _ _) => b[0]? | _ => none
noncomputable def fO (t : Option Stmt) (q : Option Str) (pm : Value) (c : Addr) : Obj := match t with
  | some (.FunctionDef n a b _ _ _ sc _ _ _) => { cls := .type "function", data := .func { name := n, qualname := (match q with | some q => q | none => n), params := a, body := .stmts b, scope := sc, globals := 3, closure := [], defaults := .none, kwdefaults := .none, pyModule := pm, code := .ref c } }
  | _ => { cls := .none }
noncomputable def cO (n q : Str) (t : Tok) (ln ar : Int) (r : Addr) (v w : Value) (u : Int) (e : Tok) : Obj := { cls := .type "code", data := .fields #[.str n t, .str q (t + 1), .str (Str.ofString "/claim/cut.py") (t + 2), .int ln 0, .int ar 0, .int 0 0, .int 0 0, .int 3 0, .ref r, .bool true, .int 181 0, .ref (r + 1), .none, v, w, .ref (match v with | .none => r + 2 | _ => r + 4), .int u 0, .int ln 0, .str (Str.ofString "/claim/cut.py") e] }
noncomputable def dE (P : Params) (x : Str) (t : Tok) (v : Value) : DictEntry := { hash := PyData.keyHash P x, key := .str x t, val := v }
noncomputable def pmT : Value := .str (Str.ofString "perlcore.trans") 243
noncomputable def pmE : Value := .str (Str.ofString "perlcore.errors") 187
noncomputable def pmL : Value := .str (Str.ofString "law_nz0179_01") 431
noncomputable def mg0 (P : Params) : List DictEntry := [dE P (Str.ofString "__name__") 165 (.str (Str.ofString "law_nz0179_01") 431), dE P (Str.ofString "__doc__") 166 (.none), dE P (Str.ofString "__package__") 167 (.none), dE P (Str.ofString "__loader__") 168 (.builtin "__main__.__loader__#opaque"), dE P (Str.ofString "__spec__") 169 (.none), dE P (Str.ofString "__annotations__") 170 (.ref 6)]
noncomputable def mg1 (P : Params) : List DictEntry := [dE P (Str.ofString "__builtins__") 171 (.ref 4), dE P (Str.ofString "__file__") 173 (.str (Str.ofString "/claim/cut.py") 172), dE P (Str.ofString "__cached__") 174 (.none), dE P (Str.ofString "PerlError") 217 (.ref 31), dE P (Str.ofString "Die") 242 (.ref 51), dE P (Str.ofString "TRANS_ESCAPES") 269 (.ref 54)]
noncomputable def mg2 (P : Params) : List DictEntry := [dE P (Str.ofString "KEPT_SIGN") 272 (.int (-1) 271), dE P (Str.ofString "DROPPED_SIGN") 275 (.int (-2) 274), dE P (Str.ofString "TransTable") 314 (.ref 71), dE P (Str.ofString "trans_signs") 323 (.ref 82), dE P (Str.ofString "trans_codes") 337 (.ref 89), dE P (Str.ofString "plain_table") 349 (.ref 96)]
noncomputable def mg3 (P : Params) : List DictEntry := [dE P (Str.ofString "sorted_once") 358 (.ref 103), dE P (Str.ofString "make_trans") 371 (.ref 110), dE P (Str.ofString "rank_outside") 380 (.ref 117), dE P (Str.ofString "turned_code") 389 (.ref 124), dE P (Str.ofString "trans_code") 397 (.ref 131), dE P (Str.ofString "run_trans") 410 (.ref 138)]
noncomputable def mg4 (P : Params) : List DictEntry := [dE P (Str.ofString "trans_text") 421 (.ref 145), dE P (Str.ofString "count_signs") 430 (.ref 152), dE P (Str.ofString "_law_rest") 438 (.ref 159), dE P (Str.ofString "_law_atoms") 450 (.ref 160), dE P (Str.ofString "_law_signs") 452 (.str (Str.ofString "abcdef-z\n\\!") 451), dE P (Str.ofString "_law_draw") 461 (.ref 167)]
noncomputable def mg5 (P : Params) : List DictEntry := [dE P (Str.ofString "_law_list") 467 (.ref 172), dE P (Str.ofString "_law_spelt") 473 (.ref 177), dE P (Str.ofString "_law_place") 479 (.ref 182), dE P (Str.ofString "_law_turned") 485 (.ref 187), dE P (Str.ofString "law") 491 (.ref 192)]
noncomputable def kf0 (P : Params) : Frag := [(2, { cls := .none, data := .dict #[dE P (Str.ofString "type.__subclasses__.Exception.0") 214 (.int 31 0), dE P (Str.ofString "type.__subclasses__.Exception.n") 215 (.int 1 0)] 2 }), (3, { cls := .type "dict", data := .dict (mg0 P ++ mg1 P ++ mg2 P ++ mg3 P ++ mg4 P ++ mg5 P).toArray 35 }), (15, { cls := .type "tuple", data := .seq #[.type "Exception"] }), (27, cO (Str.ofString "__init__") (Str.ofString "PerlError.__init__") 201 4 2 22 (.ref 24) (.ref 25) 206 207), (28, fO (stM 1) (some (Str.ofString "PerlError.__init__")) pmE 27), (30, { cls := .type "dict", data := .dict #[dE P (Str.ofString "__module__") 196 (.str (Str.ofString "perlcore.errors") 187), dE P (Str.ofString "__firstlineno__") 200 (.int 2 199), dE P (Str.ofString "__init__") 208 (.ref 28), dE P (Str.ofString "__static_attributes__") 210 (.ref 29), dE P (Str.ofString "__weakref__") 212 (.ref 32), dE P (Str.ofString "__doc__") 213 (.none)] 3 }), (31, { cls := .type "type", data := .cls { name := (Str.ofString "PerlError"), bases := [.type "Exception"], mro := [.ref 31, .type "Exception", .type "BaseException", .type "object"], ns := 30, qualname := (Str.ofString "PerlError"), subclasses := [.ref 51] }, slots := #[some (.ref 15), none, some (.str (Str.ofString "PerlError") 189), some (.str (Str.ofString "PerlError") 197), some (.builtin "Exception.__new__"), some (.bool true)] })]
noncomputable def kf1 (P : Params) : Frag := [(32, { cls := .type "getset_descriptor", data := .fields #[.str (Str.ofString "__weakref__") 211, .ref 31, .builtin "ExceptionGroup.__weakref__", .none] }), (35, { cls := .type "tuple", data := .seq #[.ref 31] }), (47, cO (Str.ofString "__init__") (Str.ofString "Die.__init__") 230 9 2 42 (.ref 44) (.ref 45) 235 236), (48, fO (stM 2) (some (Str.ofString "Die.__init__")) pmE 47), (50, { cls := .type "dict", data := .dict #[dE P (Str.ofString "__module__") 225 (.str (Str.ofString "perlcore.errors") 187), dE P (Str.ofString "__firstlineno__") 229 (.int 7 228), dE P (Str.ofString "__init__") 237 (.ref 48), dE P (Str.ofString "__static_attributes__") 239 (.ref 49), dE P (Str.ofString "__doc__") 240 (.none)] 2 }), (51, { cls := .type "type", data := .cls { name := (Str.ofString "Die"), bases := [.ref 31], mro := [.ref 51, .ref 31, .type "Exception", .type "BaseException", .type "object"], ns := 50, qualname := (Str.ofString "Die") }, slots := #[some (.ref 35), none, some (.str (Str.ofString "Die") 218), some (.str (Str.ofString "Die") 226), some (.builtin "Exception.__new__"), some (.bool true)] }), (54, { cls := .type "dict", data := .dict #[dE P (Str.ofString "n") 245 (.int 10 246), dE P (Str.ofString "t") 247 (.int 9 248), dE P (Str.ofString "r") 249 (.int 13 250), dE P (Str.ofString "f") 251 (.int 12 252), dE P (Str.ofString "e") 253 (.int 27 254), dE P (Str.ofString "a") 255 (.int 7 256), dE P (Str.ofString "b") 257 (.int 8 258), dE P (Str.ofString "0") 259 (.int 0 260)] 8 })]
noncomputable def kf2 (P : Params) : Frag := [(67, cO (Str.ofString "__init__") (Str.ofString "TransTable.__init__") 288 18 7 62 (.ref 64) (.ref 65) 298 299), (68, fO (stM 7) (some (Str.ofString "TransTable.__init__")) pmT 67), (70, { cls := .type "dict", data := .dict #[dE P (Str.ofString "__module__") 283 (.str (Str.ofString "perlcore.trans") 243), dE P (Str.ofString "__firstlineno__") 287 (.int 16 286), dE P (Str.ofString "__init__") 300 (.ref 68), dE P (Str.ofString "__static_attributes__") 307 (.ref 69), dE P (Str.ofString "__dict__") 309 (.ref 72), dE P (Str.ofString "__weakref__") 311 (.ref 73), dE P (Str.ofString "__doc__") 312 (.none)] 4 }), (71, { cls := .type "type", data := .cls { name := (Str.ofString "TransTable"), bases := [.type "object"], mro := [.ref 71, .type "object"], ns := 70, qualname := (Str.ofString "TransTable") }, slots := #[none, none, some (.str (Str.ofString "TransTable") 276), some (.str (Str.ofString "TransTable") 284), some (.builtin "object.__new__"), some (.bool true)] }), (72, { cls := .type "getset_descriptor", data := .fields #[.str (Str.ofString "__dict__") 308, .ref 71, .builtin "function.__dict__", .builtin "function.__dict__#set"] }), (73, { cls := .type "getset_descriptor", data := .fields #[.str (Str.ofString "__weakref__") 310, .ref 71, .builtin "ExceptionGroup.__weakref__", .none] }), (81, cO (Str.ofString "trans_signs") (Str.ofString "trans_signs") 315 25 1 76 (.ref 78) (.ref 79) 321 322)]
noncomputable def kf3 (P : Params) : Frag := [(82, fO (stA 8) none pmT 81), (88, cO (Str.ofString "trans_codes") (Str.ofString "trans_codes") 324 39 2 83 (.ref 85) (.ref 86) 335 336), (89, fO (stA 9) none pmT 88), (95, cO (Str.ofString "plain_table") (Str.ofString "plain_table") 338 57 3 90 (.ref 92) (.ref 93) 347 348), (96, fO (stA 10) none pmT 95), (102, cO (Str.ofString "sorted_once") (Str.ofString "sorted_once") 350 72 1 97 (.ref 99) (.ref 100) 356 357), (103, fO (stA 11) none pmT 102)]
noncomputable def kf4 (P : Params) : Frag := [(109, cO (Str.ofString "make_trans") (Str.ofString "make_trans") 359 78 4 104 (.ref 106) (.ref 107) 369 370), (110, fO (stA 12) none pmT 109), (116, cO (Str.ofString "rank_outside") (Str.ofString "rank_outside") 372 85 2 111 (.ref 113) (.ref 114) 378 379), (117, fO (stA 13) none pmT 116), (123, cO (Str.ofString "turned_code") (Str.ofString "turned_code") 381 92 2 118 (.ref 120) (.ref 121) 387 388), (124, fO (stA 14) none pmT 123), (130, cO (Str.ofString "trans_code") (Str.ofString "trans_code") 390 103 2 125 (.ref 127) (.ref 128) 395 396)]
noncomputable def kf5 (P : Params) : Frag := [(131, fO (stA 15) none pmT 130), (137, cO (Str.ofString "run_trans") (Str.ofString "run_trans") 398 107 2 132 (.ref 134) (.ref 135) 408 409), (138, fO (stA 16) none pmT 137), (144, cO (Str.ofString "trans_text") (Str.ofString "trans_text") 411 123 5 139 (.ref 141) (.ref 142) 419 420), (145, fO (stA 17) none pmT 144), (151, cO (Str.ofString "count_signs") (Str.ofString "count_signs") 422 125 3 146 (.ref 148) (.ref 149) 428 429), (152, fO (stA 18) none pmT 151)]
noncomputable def kf6 (P : Params) : Frag := [(158, cO (Str.ofString "_law_rest") (Str.ofString "_law_rest") 433 128 0 153 (.ref 155) (.ref 156) 436 437), (159, fO (stA 20) none pmL 158), (160, { cls := .type "tuple", data := .seq #[.str (Str.ofString "a") 439, .str (Str.ofString "b") 440, .str (Str.ofString "c") 441, .str (Str.ofString "-") 442, .str (Str.ofString "\\-") 443, .str (Str.ofString "a-d") 444, .str (Str.ofString "c-f") 445, .str (Str.ofString "\\\\") 446, .str (Str.ofString "f-b") 447, .str (Str.ofString "z") 448, .str (Str.ofString "\\n") 449] }), (166, cO (Str.ofString "_law_draw") (Str.ofString "_law_draw") 453 132 2 161 (.ref 163) (.ref 164) 459 460), (167, fO (stA 23) none pmL 166), (171, cO (Str.ofString "_law_list") (Str.ofString "_law_list") 462 136 1 168 .none .none 465 466), (172, fO (stA 24) none pmL 171)]
noncomputable def kf7 (P : Params) : Frag := [(176, cO (Str.ofString "_law_spelt") (Str.ofString "_law_spelt") 468 138 1 173 .none .none 471 472), (177, fO (stA 25) none pmL 176), (181, cO (Str.ofString "_law_place") (Str.ofString "_law_place") 474 163 3 178 .none .none 477 478), (182, fO (stA 26) none pmL 181), (186, cO (Str.ofString "_law_turned") (Str.ofString "_law_turned") 480 167 4 183 .none .none 483 484), (187, fO (stA 27) none pmL 186), (191, cO (Str.ofString "law") (Str.ofString "law") 486 185 1 188 .none .none 489 490)]
noncomputable def kf8 (P : Params) : Frag := [(192, fO (stA 28) none pmL 191)]
noncomputable def HK (P : Params) : Frag := kf0 P ++ (kf1 P ++ (kf2 P ++ (kf3 P ++ (kf4 P ++ (kf5 P ++ (kf6 P ++ (kf7 P ++ (kf8 P))))))))
end Mine
end

section
open PySem PySem.W PyProof.Rows
set_option linter.all false
namespace Mine
/-! small sums, each proved once -/
theorem dp {A : Around} {e : Env} {m n : Nat} (h : A.depth + n < recursionLimit) (k : m + 1 ≤ n) : (A.deeper e).depth + m < recursionLimit := Nat.lt_of_le_of_lt (show A.depth + 1 + m ≤ A.depth + n by omega) h
theorem dp0 {A : Around} {e : Env} {n : Nat} (h : A.depth + n < recursionLimit) (k : 1 ≤ n) : (A.deeper e).depth < recursionLimit := dp (e := e) (m := 0) h k
theorem dd {A : Around} {m n : Nat} (h : A.depth + n < recursionLimit) (k : m ≤ n) : A.depth + m < recursionLimit := Nat.lt_of_le_of_lt (Nat.add_le_add_left k _) h
theorem dd0 {A : Around} {n : Nat} (h : A.depth + n < recursionLimit) : A.depth < recursionLimit := Nat.lt_of_le_of_lt (Nat.le_add_right _ _) h
theorem un {A : Around} {e : Env} {m n : Nat} (h : A.units + n < cLine) (k : m + 3 ≤ n) : (A.deeper e).units + m < cLine := Nat.lt_of_le_of_lt (show A.units + 3 + m ≤ A.units + n by omega) h
theorem uu {A : Around} {m n : Nat} (h : A.units + n < cLine) (k : m ≤ n) : A.units + m < cLine := Nat.lt_of_le_of_lt (Nat.add_le_add_left k _) h
theorem lt63 {a : Nat} (h : a ≤ 1000000) : (a : Int) < 2 ^ 63 := Int.lt_of_le_of_lt (Int.ofNat_le.mpr h) (by decide)
theorem le62 {a : Nat} : -2 ^ 62 ≤ (a : Int) := Int.le_trans (by decide) (Int.natCast_nonneg _)
theorem lt62 {a : Nat} (h : a ≤ 1000000) : (a : Int) < 2 ^ 62 := Int.lt_of_le_of_lt (Int.ofNat_le.mpr h) (by decide)
theorem line {a : Nat} (h : a ≤ 1000000) : a ≤ sizeLine := Nat.le_trans h (by rw [sizeLine_eq]; decide)
theorem eqle {a b n : Nat} (h : a = b) (k : b ≤ n) : a ≤ n := h ▸ k
theorem eqle' {a b n : Nat} (h : b = a) (k : b ≤ n) : a ≤ n := h ▸ k
theorem eqlt {a b n : Nat} (h : n = b) (k : a < b) : a < n := h ▸ k
theorem eqlt' {a b n : Nat} (h : b = n) (k : a < b) : a < n := h ▸ k
theorem ltle {a n m : Nat} (h : a < n) (k : n ≤ m) : a ≤ m := Nat.le_trans (Nat.le_of_lt h) k
theorem tn0 (q : Nat) : ((0 : Int) + (q : Int)).toNat = q := by rw [Int.zero_add]; rfl
theorem nn0 (q : Nat) : (0 : Int) ≤ 0 + (q : Int) := by rw [Int.zero_add]; exact Int.natCast_nonneg _
theorem tz {d : Int} {m : Int} (h : 0 ≤ d ∧ d < m) : (d - 0).toNat = d.toNat := by rw [Int.sub_zero]
theorem ts {d : Int} {m : Int} (h : 0 ≤ d ∧ d < m) : d = (d.toNat : Int) := (Int.toNat_of_nonneg h.1).symm
theorem ts' {d : Int} {m : Int} (h : 0 ≤ d ∧ d < m) : (d.toNat : Int) = d := Int.toNat_of_nonneg h.1
theorem lastN {u t : Nat} (h : u = t) (h2 : 0 < t) : (-1 + (u : Int)).toNat = t - 1 := by subst h; rw [Int.add_comm]; exact Int.toNat_sub u 1
theorem lastN' {u t : Nat} (h : u = t) (h2 : 0 < t) : ((u : Int) - 1).toNat = t - 1 := by subst h; exact Int.toNat_sub u 1
theorem msr {i n : Nat} (h : i < n) : n - (i + 1) < n - i := Nat.sub_lt_sub_left h (Nat.lt_succ_self _)
theorem msr1 {i n : Nat} (h : i < n) : n + 1 - (i + 1) < n + 1 - i := Nat.sub_lt_sub_left (Nat.lt_succ_of_lt h) (Nat.lt_succ_self _)
theorem pred {n : Nat} (h : 0 < n) : n - 1 < n := Nat.sub_lt h Nat.one_pos
theorem ni {a b : Nat} (h : a < b) : (a : Int) < (b : Int) := Int.ofNat_lt.mpr h
theorem ni' {a b : Nat} (h : ¬ a < b) : ¬ (a : Int) < (b : Int) := fun z => h (Int.ofNat_lt.mp z)
theorem inn {a b : Nat} (h : (a : Int) < (b : Int)) : a < b := Int.ofNat_lt.mp h
theorem innE {a b c : Nat} (h : (a : Int) < (b : Int)) (k : b = c) : a < c := k ▸ Int.ofNat_lt.mp h
theorem tlt {d : Int} {m n : Nat} (h : d < (m : Int)) (k : m = n) (h0 : ¬ d < 0) : d.toNat < n := by subst k; exact (Int.toNat_lt (Int.not_lt.mp h0)).mpr h

/-! small terms -/
theorem hide {p : Prop} (h : ∀ q : Prop, (p → q) → q) : p := h p id
inductive X1 {α : Type} (P : α → Prop) : Prop | mk (a : α) (h : P a) : X1 P
inductive X2 {α β : Type} (P : α → β → Prop) : Prop | mk (a : α) (b : β) (h : P a b) : X2 P
inductive X3 {α β γ : Type} (P : α → β → γ → Prop) : Prop | mk (a : α) (b : β) (c : γ) (h : P a b c) : X3 P
inductive X4 {α β γ δ : Type} (P : α → β → γ → δ → Prop) : Prop | mk (a : α) (b : β) (c : γ) (d : δ) (h : P a b c d) : X4 P
inductive X5 {α β γ δ ε : Type} (P : α → β → γ → δ → ε → Prop) : Prop | mk (a : α) (b : β) (c : γ) (d : δ) (e : ε) (h : P a b c d e) : X5 P
inductive X6 {α β γ δ ε ζ : Type} (P : α → β → γ → δ → ε → ζ → Prop) : Prop | mk (a : α) (b : β) (c : γ) (d : δ) (e : ε) (f : ζ) (h : P a b c d e f) : X6 P
inductive X7 {α β γ δ ε ζ η : Type} (P : α → β → γ → δ → ε → ζ → η → Prop) : Prop | mk (a : α) (b : β) (c : γ) (d : δ) (e : ε) (f : ζ) (g : η) (h : P a b c d e f g) : X7 P
inductive N3 (p q r : Prop) : Prop | mk (a : p) (b : q) (c : r) : N3 p q r
inductive N4 (p q r s : Prop) : Prop | mk (a : p) (b : q) (c : r) (d : s) : N4 p q r s
inductive N5 (p q r s t : Prop) : Prop | mk (a : p) (b : q) (c : r) (d : s) (e : t) : N5 p q r s t
inductive N6 (p q r s t u : Prop) : Prop | mk (a : p) (b : q) (c : r) (d : s) (e : t) (f : u) : N6 p q r s t u
inductive N7 (p q r s t u v : Prop) : Prop | mk (a : p) (b : q) (c : r) (d : s) (e : t) (f : u) (g : v) : N7 p q r s t u v
inductive N8 (p q r s t u v w : Prop) : Prop | mk (a : p) (b : q) (c : r) (d : s) (e : t) (f : u) (g : v) (h : w) : N8 p q r s t u v w
end Mine
end

section
open PySem PySem.W PyProof.Rows
set_option linter.all false
namespace Mine
/-! small sums, each proved once -/
theorem z0 {x0 : Nat} {x1 : Nat} (h0 : (x0 ≤ x1)) (h1 : (¬ (x0 = x1))) : (x0 < x1) := by exact Nat.lt_of_le_of_ne h0 h1
theorem z1 {x0 : Nat} {x1 : Nat} {x2 : Nat} (h0 : (x0 < x1)) : (x0 < (x1 + x2)) := by exact Nat.lt_add_right _ h0
theorem z2 {x0 : Nat} (h0 : ((2 : Nat) ≤ x0)) : ((3 : Nat) ≤ (x0 + ((0 : Nat) + (1 : Nat)))) := by exact Nat.succ_le_succ h0
theorem z3 {x0 : Nat} : ((((0 : Nat) + (1 : Nat)) + (x0 + ((0 : Nat) + (1 : Nat)))) = ((x0 + ((0 : Nat) + (1 : Nat))) + (1 : Nat))) := by lia
theorem z4 {x0 : Int} {x1 : Int} {x2 : Int} (h0 : (x2 ≤ x1)) (h1 : (x0 < x2)) : (x0 ≤ x1) := by exact Int.le_of_lt (Int.lt_of_lt_of_le h1 h0)
theorem z5 {x0 : Int} {x1 : Int} (h0 : (x1 ≤ x0)) : (¬ (x0 < x1)) := by exact Int.not_lt.mpr h0
theorem z6 {x0 : Nat} (h0 : ((2 : Nat) ≤ x0)) : ((1 : Nat) ≤ x0) := by exact Nat.le_of_succ_le h0
theorem z7 {x0 : Int} {x1 : Nat} {x2 : Int} (h0 : (x1 < ((((x2 + (1 : Int)) - x0) : Int).toNat))) : ((x0 ≤ (x0 + ((x1 : Nat) : Int))) ∧ ((x0 + ((x1 : Nat) : Int)) ≤ x2)) := by lia
theorem z8 {x0 : Nat} (h0 : (x0 ≤ (0 : Nat))) : (x0 = (0 : Nat)) := by exact Nat.eq_zero_of_le_zero h0
theorem z9 {x0 : Nat} {x1 : Nat} (h0 : (((x0 + (1 : Nat)) + (1 : Nat)) ≤ x1)) : (x0 ≤ x1) := by lia
theorem z10 {x0 : Int} {x1 : Int} {x2 : Nat} {x3 : Nat} (h0 : (((0 : Int) ≤ x1) ∧ (x1 ≤ (122 : Int)))) (h1 : (((0 : Int) ≤ x0) ∧ (x0 ≤ (122 : Int)))) (h2 : (x2 ≤ ((41 : Nat) * x3))) : ((((((x0 + (1 : Int)) - x1) : Int).toNat) + x2) ≤ ((41 : Nat) * (((x3 + (1 : Nat)) + (1 : Nat)) + (1 : Nat)))) := by lia
theorem z11 {x0 : Int} {x1 : Int} {x2 : Int} (h0 : (((0 : Int) ≤ x1) ∧ (x1 ≤ (122 : Int)))) (h1 : (((0 : Int) ≤ x2) ∧ (x2 ≤ (122 : Int)))) (h2 : ((x1 ≤ x0) ∧ (x0 ≤ x2))) : (((0 : Int) ≤ x0) ∧ (x0 ≤ (122 : Int))) := by exact ⟨Int.le_trans h0.1 h2.1, Int.le_trans h2.2 h1.2⟩
theorem z12 {x0 : Int} {x1 : Nat} {x2 : Nat} (h0 : (x1 ≤ ((41 : Nat) * x2))) : ((((((x0 + (1 : Int)) - x0) : Int).toNat) + x1) ≤ ((41 : Nat) * (x2 + (1 : Nat)))) := by rw [show x0 + 1 - x0 = 1 from by rw [Int.add_comm]; exact Int.add_sub_cancel 1 x0]; exact Nat.add_comm 1 x1 ▸ Nat.add_le_add h0 (by decide : 1 ≤ 41)
theorem z13 {x0 : Int} {x1 : Int} (h0 : (((0 : Int) ≤ x1) ∧ (x1 ≤ (122 : Int)))) (h1 : ((x1 ≤ x0) ∧ (x0 ≤ x1))) : (((0 : Int) ≤ x0) ∧ (x0 ≤ (122 : Int))) := by exact ⟨Int.le_trans h0.1 h1.1, Int.le_trans h1.2 h0.2⟩
theorem z14 {x0 : Nat} {x1 : Nat} {x2 : Nat} (h0 : (x1 ≤ (20 : Nat))) (h1 : (x0 ≤ ((41 : Nat) * x2))) (h2 : (x2 ≤ x1)) : (x0 ≤ (820 : Nat)) := by lia
theorem z15 {x0 : Nat} {x1 : Nat} {x2 : Nat} (h0 : (x1 ≤ ((3 : Nat) * x2))) (h1 : (x0 ≤ (3 : Nat))) : ((x0 + x1) ≤ ((3 : Nat) * (x2 + (1 : Nat)))) := by lia
theorem z16 {x0 : Int} {x1 : Nat} (h0 : (((0 : Int) ≤ x0) ∧ (x0 < (11 : Int)))) (h1 : (x1 = (11 : Nat))) : (((x0 : Int).toNat) < x1) := by subst h1; exact (Int.toNat_lt h0.1).mpr h0.2
theorem z17 {x0 : Int} (h0 : (((0 : Int) ≤ x0) ∧ (x0 < (4 : Int)))) : (((x0 : Int).toNat) ≤ (3 : Nat)) := by lia
theorem z18 {x0 : Nat} {x1 : Nat} (h0 : (x0 ≤ ((3 : Nat) * x1))) (h1 : (x1 ≤ (3 : Nat))) : (x0 ≤ (9 : Nat)) := by lia
theorem z19 {x0 : Nat} (h0 : (x0 ≤ (122 : Nat))) : (((0 : Int) ≤ ((x0 : Nat) : Int)) ∧ (((x0 : Nat) : Int) ≤ (122 : Int))) := by exact ⟨Int.natCast_nonneg _, Int.ofNat_le.mpr h0⟩
theorem z20 {x0 : Nat} {x1 : Nat} {x2 : Nat} (h0 : (x0 ≤ ((41 : Nat) * x2))) (h1 : (x2 ≤ x1)) : (x0 ≤ ((41 : Nat) * x1)) := by lia
theorem z21 {x0 : Nat} (h0 : (((0 : Int) ≤ ((x0 : Nat) : Int)) ∧ (((x0 : Nat) : Int) ≤ (122 : Int)))) : (x0 ≤ (122 : Nat)) := by exact Int.ofNat_le.mp h0.2
theorem z22 {x0 : Nat} (h0 : (x0 < (3 : Nat))) : (x0 < (100 : Nat)) := by exact Nat.lt_of_lt_of_le h0 (by decide)
theorem z23 {x0 : Nat} {x1 : Nat} (h0 : ((x0 + (3 : Nat)) < x1)) : (((x0 + (1 : Nat)) + (1 : Nat)) < x1) := by exact Nat.lt_of_succ_lt h0
theorem z24 {x0 : Nat} {x1 : Nat} (h0 : (x0 ≤ (1000 : Nat))) (h1 : ((1000000 : Nat) ≤ x1)) : ((((((x0 : Nat) : Int) - (0 : Int)) : Int).toNat) ≤ x1) := by rw [Int.sub_zero]; exact Nat.le_trans h0 (Nat.le_trans (by decide) h1)
theorem z25 {x0 : Nat} {x1 : Nat} (h0 : (x1 ≤ (1000 : Nat))) (h1 : (x0 < (((((x1 : Nat) : Int) - (0 : Int)) : Int).toNat))) : (((0 : Int) + ((x0 : Nat) : Int)) ≤ (1114111 : Int)) := by rw [Int.sub_zero] at h1; rw [Int.zero_add]; exact Int.le_trans (Int.ofNat_le.mpr (Nat.le_trans (Nat.le_of_lt h1) h0)) (by decide)
theorem z26 {x0 : Nat} : ((((((x0 : Nat) : Int) - (0 : Int)) : Int).toNat) = x0) := by rw [Int.sub_zero]; rfl
theorem z27 {x0 : Nat} {x1 : Nat} (h0 : (x1 = (x0 + (1 : Nat)))) : (x0 ≠ x1) := by lia
theorem z28 {x0 : Nat} {x1 : Nat} (h0 : (x0 ≤ x1)) (h1 : (¬ (x0 < x1))) : (x0 = x1) := by exact Nat.le_antisymm h0 (Nat.le_of_not_lt h1)
theorem z29 {x0 : Nat} {x1 : Nat} (h0 : (x1 = x0)) : (x0 ≤ x1) := by exact Nat.le_of_eq h0.symm
theorem z30 {x0 : Nat} (h0 : ((2 : Nat) ≤ x0)) : (¬ ((0 : Nat) ≥ x0)) := by lia
theorem z31 {x0 : Nat} {x1 : Nat} (h0 : ((2 : Nat) ≤ x1)) (h1 : (x0 < (1 : Nat))) : (x0 < x1) := by lia
theorem z32 {x0 : Nat} : ((x0 - (1 : Nat)) ≤ x0) := by exact Nat.sub_le _ _
theorem z33 {x0 : Int} {x1 : Int} (h0 : (x0 < x1)) (h1 : (x1 ≤ x0)) : False := by exact absurd h0 (Int.not_lt.mpr h1)
theorem z34 {x0 : Nat} {x1 : Nat} (h0 : (x0 < x1)) : ((min x0 x1) = x0) := by lia
theorem z35 {x0 : Nat} {x1 : Nat} {x2 : Nat} {x3 : Nat} (h0 : (x2 = x3)) (h1 : (x2 < (2 : Nat))) (h2 : (x0 ≤ x1)) (h3 : (x1 < x3)) : (x0 = x1) := by lia
theorem z36 {x0 : Int} {x1 : Int} {x2 : Int} (h0 : (x0 ≤ x2)) (h1 : (x2 ≤ x1)) : (x0 ≤ x1) := by exact Int.le_trans h0 h1
theorem z37 {x0 : Int} {x1 : Int} {x2 : Int} (h0 : (x0 ≤ x2)) (h1 : (x2 < x1)) : (x0 < x1) := by exact Int.lt_of_le_of_lt h0 h1
theorem z38 {x0 : Nat} {x1 : Nat} {x2 : Nat} (h0 : (x0 ≤ x1)) (h1 : ((x1 - x0) ≤ (x2 - (max (0 : Nat) x2)))) : (x0 = x1) := by rw [Nat.max_eq_right (Nat.zero_le _), Nat.sub_self] at h1; exact Nat.le_antisymm h0 (Nat.le_of_sub_eq_zero (Nat.eq_zero_of_le_zero h1))
theorem z39 {x0 : Nat} {x1 : Nat} (h0 : (¬ (x0 ≤ x1))) : ((0 : Nat) < (x0 - x1)) := by exact Nat.sub_pos_of_lt (Nat.lt_of_not_le h0)
theorem z40 {x0 : Nat} {x1 : Nat} (h0 : (¬ (x1 ≤ x0))) : (x0 < x1) := by exact Nat.lt_of_not_le h0
theorem z41 {x0 : Nat} {x1 : Nat} {x2 : Nat} {x3 : Nat} (h0 : (x3 ≤ x2)) (h1 : (x1 < (x3 - x0))) : ((x0 + x1) ≤ x2) := by exact Nat.le_trans (Nat.le_of_lt (Nat.add_lt_of_lt_sub' h1)) h0
theorem z42 {x0 : Nat} {x1 : Nat} {x2 : Nat} {x3 : Nat} {x4 : Nat} (h0 : ((x4 - x0) ≤ (x2 - x3))) (h1 : (((x4 - x0) / (2 : Nat)) = x1)) : (((x0 + x1) - x0) ≤ (x2 - (x3 + (1 : Nat)))) := by rw [Nat.add_sub_cancel_left, ← h1]; refine Nat.le_trans ?_ (Nat.sub_le_sub_right h0 1); generalize x4 - x0 = n; cases n with | zero => exact Nat.le_refl _ | succ n => exact Nat.le_of_lt_succ (Nat.div_lt_self (Nat.succ_pos _) (by decide))
theorem z43 {x0 : Nat} {x1 : Nat} {x2 : Nat} (h0 : (x1 < (x2 - x0))) : (((x0 + x1) + (1 : Nat)) ≤ x2) := by exact Nat.add_lt_of_lt_sub' h0
theorem z44 {x0 : Nat} {x1 : Nat} {x2 : Nat} {x3 : Nat} {x4 : Nat} (h0 : ((x0 - x1) ≤ (x3 - x4))) : ((x0 - ((x1 + x2) + (1 : Nat))) ≤ (x3 - (x4 + (1 : Nat)))) := by exact Nat.le_trans (Nat.sub_le_sub_left (Nat.succ_le_succ (Nat.le_add_right x1 x2)) x0) (Nat.sub_le_sub_right h0 1)
theorem z45 {x0 : Nat} {x1 : Nat} {x2 : Nat} {x3 : Nat} (h0 : (x3 ≤ x2)) (h1 : (x1 < (x3 - x0))) : ((x0 + x1) < x2) := by exact Nat.lt_of_lt_of_le (Nat.add_lt_of_lt_sub' h1) h0
theorem z46 {x0 : Nat} {x1 : Nat} {x2 : Nat} (h0 : (x0 ≤ x2)) : ((x0 - x1) ≤ (x2 - (0 : Nat))) := by exact Nat.le_trans (Nat.sub_le _ _) h0
theorem z47 {x0 : Nat} {x1 : Nat} (h0 : ((x0 + (1 : Nat)) ≤ x1)) : (((x0 + (1 : Nat)) + (1 : Nat)) ≤ (((2 : Nat) * x1) + (1 : Nat))) := by lia
theorem z48 {x0 : Nat} : (x0 < (((2 : Nat) * x0) + (1 : Nat))) := by lia
theorem z49 {x0 : Nat} {x1 : Nat} {x2 : Nat} (h0 : (x0 < x1)) (h1 : (x1 ≤ x2)) : ((x0 + ((x1 - x0) / (2 : Nat))) < x2) := by exact Nat.lt_of_lt_of_le (Nat.add_lt_of_lt_sub' (Nat.div_lt_self (Nat.sub_pos_of_lt h0) (by decide))) h1
theorem z50 {x0 : Nat} {x1 : Nat} {x2 : Nat} (h0 : (x2 < x1)) : (((x0 + (1 : Nat)) - (min x1 (x0 + (1 : Nat)))) ≤ (x0 - x2)) := by rcases Nat.le_total x1 (x0 + 1) with h | h; (rw [Nat.min_eq_left h]; exact Nat.le_trans (Nat.sub_le_sub_left h0 (x0 + 1)) (Nat.le_of_eq (Nat.add_sub_add_right x0 1 x2))); rw [Nat.min_eq_right h, Nat.sub_self]; exact Nat.zero_le _
theorem z51 {x0 : Nat} {x1 : Nat} {x2 : Nat} (h0 : (x0 < x2)) : ((x0 - x1) ≤ x2) := by exact Nat.le_trans (Nat.sub_le _ _) (Nat.le_of_lt h0)
theorem z52 {x0 : Nat} {x1 : Nat} {x2 : Nat} (h0 : (x0 < ((x1 + (1 : Nat)) - (min x2 (x1 + (1 : Nat)))))) : (x0 ≤ (x1 - x2)) := by rcases Nat.le_total x2 (x1 + 1) with h | h; (rw [Nat.min_eq_left h] at h0; exact Nat.le_sub_of_add_le (Nat.le_of_lt_succ (Nat.add_lt_of_lt_sub h0))); rw [Nat.min_eq_right h, Nat.sub_self] at h0; exact absurd h0 (Nat.not_lt_zero _)
theorem z53 {x0 : Nat} {x1 : Nat} {x2 : Nat} (h0 : (x0 < x2)) : ((x0 - x1) < x2) := by exact Nat.lt_of_le_of_lt (Nat.sub_le _ _) h0
theorem z54 {x0 : Nat} {x1 : Nat} {x2 : Nat} (h0 : (x1 < (x2 - x0))) : ((x0 + x1) < x2) := by exact Nat.add_lt_of_lt_sub' h0
theorem z55 {x0 : Nat} {x1 : Nat} {x2 : Nat} {x3 : Nat} (h0 : (x1 < x2)) (h1 : ((x0 + x1) < x3)) : (((x0 + x1) + (1 : Nat)) ≤ (x0 + (min x2 (x3 - x0)))) := by rw [Nat.add_assoc]; exact Nat.add_le_add_left (Nat.le_min.mpr ⟨h0, Nat.le_sub_of_add_le (by rw [Nat.add_comm]; exact h1)⟩) _
theorem z56 {x0 : Nat} {x1 : Nat} {x2 : Nat} (h0 : (x0 < x2)) : ((x0 + (min x1 (x2 - x0))) ≤ x2) := by exact Nat.le_trans (Nat.add_le_add_left (Nat.min_le_right _ _) _) (Nat.le_of_eq (Nat.add_sub_cancel' (Nat.le_of_lt h0)))
theorem z57 {x0 : Nat} {x1 : Nat} {x2 : Nat} {x3 : Nat} (h0 : ((x0 + (min x1 (x3 - x0))) ≤ x2)) (h1 : (x2 < x3)) : ((x0 + x1) ≤ x2) := by rcases Nat.le_total x1 (x3 - x0) with h | h; (rwa [Nat.min_eq_left h] at h0); rw [Nat.min_eq_right h] at h0; exact absurd (Nat.lt_of_le_of_lt h0 h1) (Nat.not_lt.mpr (Nat.sub_le_iff_le_add'.mp (Nat.le_refl _)))
theorem z58 {x0 : Nat} {x1 : Nat} (h0 : (x1 ≤ (63 : Nat))) (h1 : (x0 = x1)) : (x0 < (64 : Nat)) := by lia
theorem z59 {x0 : Nat} {x1 : Nat} (h0 : (x0 ≤ x1)) : (((x0 : Nat) : Int) ≤ ((x1 : Nat) : Int)) := by exact Int.ofNat_le.mpr h0
theorem z60 {x0 : Nat} : (¬ ((x0 + (1 : Nat)) < x0)) := by exact Nat.not_lt.mpr (Nat.le_succ _)
theorem z61 {x0 : Nat} (h0 : (x0 ≤ (1000 : Nat))) : (x0 < (1114112 : Nat)) := by exact Nat.lt_of_le_of_lt h0 (by decide)
theorem z62 {x0 : Nat} {x1 : Nat} (h0 : (x1 ≤ (1 : Nat))) (h1 : (x0 = (1 : Nat))) : ((max x0 x1) ≤ (1 : Nat)) := by exact Nat.max_le.mpr ⟨Nat.le_of_eq h1, h0⟩
theorem z63 {x0 : Nat} (h0 : (x0 ≤ (1 : Nat))) : ((x0 + (1 : Nat)) ≤ (64 : Nat)) := by lia
theorem z64 {x0 : Nat} (h0 : (x0 = (0 : Nat))) : ((x0 + (1 : Nat)) ≤ (64 : Nat)) := by subst h0; decide
theorem z65 {x0 : Nat} {x1 : Nat} {x2 : Nat} (h0 : ((x1 + (1 : Nat)) ≤ x2)) : (((x0 + (1 : Nat)) + x1) ≤ (x0 + x2)) := by lia
theorem z66 {x0 : Nat} {x1 : Nat} {x2 : Nat} (h0 : ((x1 + (3 : Nat)) ≤ x2)) : (((x0 + (3 : Nat)) + x1) ≤ (x0 + x2)) := by lia
theorem z67 {x0 : Nat} (h0 : (x0 ≤ (1000000 : Nat))) : (((x0 : Nat) : Int) < ((2 : Int) ^ (63 : Nat))) := by lia
theorem z68 {x0 : Nat} : ((-((2 : Int) ^ (62 : Nat))) ≤ ((x0 : Nat) : Int)) := by lia
theorem z69 {x0 : Nat} (h0 : (x0 ≤ (1000000 : Nat))) : (((x0 : Nat) : Int) < ((2 : Int) ^ (62 : Nat))) := by exact Int.lt_of_le_of_lt (Int.ofNat_le.mpr h0) (by decide)
theorem z70 {x0 : Nat} : (((((0 : Int) + ((x0 : Nat) : Int)) : Int).toNat) = x0) := by lia
theorem z71 {x0 : Nat} : ((0 : Int) ≤ ((0 : Int) + ((x0 : Nat) : Int))) := by lia
theorem z72 {x0 : Int} : ((((x0 - (0 : Int)) : Int).toNat) = ((x0 : Int).toNat)) := by lia
theorem z73 {x0 : Int} {x1 : Int} (h0 : (((0 : Int) ≤ x0) ∧ (x0 < x1))) : (x0 = ((((x0 : Int).toNat) : Nat) : Int)) := by exact (Int.toNat_of_nonneg h0.1).symm
theorem z74 {x0 : Int} {x1 : Int} (h0 : (((0 : Int) ≤ x0) ∧ (x0 < x1))) : (((((x0 : Int).toNat) : Nat) : Int) = x0) := by lia
theorem z75 {x0 : Nat} {x1 : Nat} (h0 : (x0 = x1)) : (((((-(1 : Int)) + ((x0 : Nat) : Int)) : Int).toNat) = (x1 - (1 : Nat))) := by lia
theorem z76 {x0 : Nat} {x1 : Nat} (h0 : (x0 = x1)) : ((((((x0 : Nat) : Int) - (1 : Int)) : Int).toNat) = (x1 - (1 : Nat))) := by subst h0; exact Int.toNat_sub x0 1
theorem z77 {x0 : Nat} {x1 : Nat} (h0 : (x1 < x0)) : ((x0 - (x1 + (1 : Nat))) < (x0 - x1)) := by exact Nat.sub_lt_sub_left h0 (Nat.lt_succ_self _)
theorem z78 {x0 : Nat} {x1 : Nat} (h0 : (x1 < x0)) : (((x0 + (1 : Nat)) - (x1 + (1 : Nat))) < ((x0 + (1 : Nat)) - x1)) := by exact Nat.sub_lt_sub_left (Nat.lt_succ_of_lt h0) (Nat.lt_succ_self _)
theorem z79 {x0 : Int} {x1 : Nat} {x2 : Nat} (h0 : (x0 < ((x2 : Nat) : Int))) (h1 : (x2 = x1)) (h2 : (¬ (x0 < (0 : Int)))) : (((x0 : Int).toNat) < x1) := by subst h1; exact (Int.toNat_lt (Int.not_lt.mp h2)).mpr h0
theorem z80 {x0 : Nat} {x1 : Nat} (h0 : (x0 ≤ (x1 + (1 : Nat)))) : (x0 ≤ ((x1 + (1 : Nat)) + (1 : Nat))) := by exact Nat.le_succ_of_le h0
theorem z81 {x0 : Nat} {x1 : Nat} (h0 : (x0 ≤ (x1 + (1 : Nat)))) : (x0 ≤ (x1 + (1 : Nat))) := by assumption
theorem z82 : ((10 : Nat) ≤ (122 : Nat)) := by exact Nat.le_add_left _ _
theorem z83 {x0 : Nat} (h0 : (x0 ≤ (122 : Nat))) : (x0 ≤ (122 : Nat)) := by omega
theorem z84 {x0 : Nat} {x1 : Nat} {x2 : Nat} {x3 : Nat} (h0 : (x1 ≤ (20 : Nat))) (h1 : (x2 ≤ (x1 + (1 : Nat)))) (h2 : ((x0 + x3) = x2)) : (x0 ≤ (21 : Nat)) := by lia
theorem z85 {x0 : Nat} {x1 : Nat} (h0 : (x1 ≤ (20 : Nat))) (h1 : (x0 ≤ (x1 + (1 : Nat)))) : (((123 : Nat) * x0) ≤ (2583 : Nat)) := by lia
theorem z86 {x0 : Nat} {x1 : Nat} {x2 : Nat} (h0 : (x0 = x1)) (h1 : ((x2 + ((123 : Nat) * (x1 + (1 : Nat)))) ≤ ((123 : Nat) * (21 : Nat)))) : (x0 ≤ (1000000 : Nat)) := by subst h0; exact Nat.le_trans (Nat.le_trans (Nat.le_trans (Nat.le_succ x0) (Nat.le_mul_of_pos_left (x0 + 1) (by decide : 0 < 123))) (Nat.le_trans (Nat.le_add_left _ _) h1)) (by decide)
theorem z87 {x0 : Nat} {x1 : Nat} {x2 : Nat} (h0 : (x0 = x1)) (h1 : ((x2 + ((123 : Nat) * (x1 + (1 : Nat)))) ≤ ((123 : Nat) * (21 : Nat)))) : (((x0 : Nat) : Int) < ((2 : Int) ^ (63 : Nat))) := by subst h0; exact Int.lt_of_le_of_lt (Int.ofNat_le.mpr (Nat.le_trans (Nat.le_trans (Nat.le_succ x0) (Nat.le_mul_of_pos_left (x0 + 1) (by decide : 0 < 123))) (Nat.le_trans (Nat.le_add_left _ _) h1))) (by decide)
theorem z88 {x0 : Nat} {x1 : Nat} (h0 : (x1 = x0)) (h1 : ((1 : Int) < ((x1 : Nat) : Int))) : ((1 : Nat) < x0) := by exact h0 ▸ Int.ofNat_lt.mp h1
theorem z89 {x0 : Nat} {x1 : Nat} (h0 : (x1 = x0)) (h1 : ((1 : Int) < ((x1 : Nat) : Int))) : ((0 : Nat) < x0) := by lia
theorem z90 {x0 : Nat} {x1 : Nat} (h0 : (x0 = x1)) (h1 : (¬ ((1 : Int) < ((x0 : Nat) : Int)))) (h2 : ((1 : Nat) < x1)) : False := by exact h1 (Int.ofNat_lt.mpr (h0 ▸ h2))
theorem z91 {x0 : Nat} {x1 : Nat} {x2 : Nat} (h0 : ((x1 + ((123 : Nat) * (((x2 + (1 : Nat)) + (1 : Nat)) + (1 : Nat)))) ≤ ((123 : Nat) * (21 : Nat)))) (h1 : (((x0 + (1 : Nat)) + (1 : Nat)) = ((x2 + (1 : Nat)) + (1 : Nat)))) : (((x0 + (1 : Nat)) + (1 : Nat)) ≤ (1000000 : Nat)) := by rw [h1]; exact Nat.le_trans (Nat.le_trans (Nat.le_trans (Nat.le_succ (x2 + 1 + 1)) (Nat.le_mul_of_pos_left _ (by decide : 0 < 123))) (Nat.le_trans (Nat.le_add_left _ _) h0)) (by decide)
theorem z92 {x0 : Nat} : ((-((2 : Int) ^ (62 : Nat))) ≤ (((x0 : Nat) : Int) + (1 : Int))) := by lia
theorem z93 {x0 : Nat} (h0 : (x0 ≤ (122 : Nat))) : ((((x0 : Nat) : Int) + (1 : Int)) < ((2 : Int) ^ (62 : Nat))) := by lia
theorem z94 {x0 : Nat} {x1 : Nat} {x2 : Nat} (h0 : ((1000000 : Nat) ≤ x2)) (h1 : (x0 ≤ (122 : Nat))) : (((((((x0 : Nat) : Int) + (1 : Int)) - ((x1 : Nat) : Int)) : Int).toNat) ≤ x2) := by lia
theorem z95 {x0 : Nat} {x1 : Nat} : ((0 : Int) ≤ (((x0 : Nat) : Int) + ((x1 : Nat) : Int))) := by lia
theorem z96 {x0 : Nat} {x1 : Nat} {x2 : Nat} (h0 : (x2 ≤ (122 : Nat))) (h1 : (x1 < ((((((x2 : Nat) : Int) + (1 : Int)) - ((x0 : Nat) : Int)) : Int).toNat))) : ((((x0 : Nat) : Int) + ((x1 : Nat) : Int)) ≤ (1114111 : Int)) := by lia
theorem z97 {x0 : Nat} {x1 : Nat} : ((((((x0 : Nat) : Int) + ((x1 : Nat) : Int)) : Int).toNat) = (x0 + x1)) := by exact Int.toNat_natCast (x0 + x1)
theorem z98 {x0 : Nat} {x1 : Nat} : (((((((x0 : Nat) : Int) + (1 : Int)) - ((x1 : Nat) : Int)) : Int).toNat) = ((x0 + (1 : Nat)) - x1)) := by exact Int.toNat_sub (x0 + 1) x1
theorem z99 {x0 : Nat} {x1 : Nat} {x2 : Nat} {x3 : Nat} {x4 : Nat} {x5 : Nat} (h0 : (x0 = x2)) (h1 : ((x2 + ((123 : Nat) * (((x3 + (1 : Nat)) + (1 : Nat)) + (1 : Nat)))) ≤ ((123 : Nat) * (21 : Nat)))) (h2 : (x4 ≤ (122 : Nat))) (h3 : (x1 = ((x4 + (1 : Nat)) - x5))) : ((x0 + x1) ≤ (1000000 : Nat)) := by subst h0 h3; exact Nat.le_trans (Nat.add_le_add (Nat.le_trans (Nat.le_add_right _ _) h1) (Nat.le_trans (Nat.sub_le _ _) (Nat.succ_le_succ h2))) (by decide)
theorem z100 {x0 : Nat} : (x0 < (((x0 + (1 : Nat)) + (1 : Nat)) + (1 : Nat))) := by lia
theorem z101 {x0 : Nat} {x1 : Nat} {x2 : Nat} {x3 : Nat} (h0 : ((x0 + ((123 : Nat) * (((x3 + (1 : Nat)) + (1 : Nat)) + (1 : Nat)))) ≤ ((123 : Nat) * (21 : Nat)))) (h1 : (x1 ≤ (122 : Nat))) : (((x0 + ((x1 + (1 : Nat)) - x2)) + ((123 : Nat) * x3)) ≤ ((123 : Nat) * (21 : Nat))) := by refine Nat.le_trans ?_ h0; rw [Nat.add_assoc]; refine Nat.add_le_add_left (Nat.le_trans (Nat.add_le_add_right (Nat.le_trans (Nat.sub_le _ _) (Nat.succ_le_succ h1)) _) ?_) _; rw [Nat.add_comm]; exact Nat.mul_le_mul_left 123 (Nat.le_add_right (x3 + 1) 2)
theorem z102 {x0 : Nat} {x1 : Nat} {x2 : Nat} {x3 : Nat} (h0 : ((1000000 : Nat) ≤ x1)) (h1 : (x0 = x2)) (h2 : ((x2 + ((123 : Nat) * x3)) ≤ ((123 : Nat) * (21 : Nat)))) : (x0 ≤ x1) := by lia
theorem z103 {x0 : Nat} {x1 : Nat} (h0 : ((x0 + ((123 : Nat) * (x1 + (1 : Nat)))) ≤ ((123 : Nat) * (21 : Nat)))) : (((x0 + ((0 : Nat) + (1 : Nat))) + ((123 : Nat) * x1)) ≤ ((123 : Nat) * (21 : Nat))) := by lia
theorem z104 {x0 : Nat} {x1 : Nat} (h0 : (x1 < ((2 : Nat) ^ (20 : Nat)))) (h1 : (x0 = x1)) : (((x0 : Nat) : Int) < ((2 : Int) ^ (63 : Nat))) := by exact h1 ▸ Int.lt_trans (Int.ofNat_lt.mpr h0) (by decide)
theorem z105 {x0 : Nat} {x1 : Nat} : ((x0 + (x1 + (1 : Nat))) = ((x0 + (1 : Nat)) + x1)) := by lia
theorem z106 {x0 : Nat} {x1 : Nat} (h0 : (((x0 : Nat) : Int) < ((x1 : Nat) : Int))) : (¬ (¬ (((x0 : Nat) : Int) < ((x1 : Nat) : Int)))) := by exact fun z => z h0
theorem z107 {x0 : Nat} : ((x0 + (0 : Nat)) = x0) := by lia
theorem z108 {x0 : Nat} {x1 : Nat} {x2 : Nat} (h0 : (x2 = x0)) (h1 : (¬ (((x1 : Nat) : Int) < ((x2 : Nat) : Int)))) : (x0 ≤ x1) := by lia
theorem z109 {x0 : Int} {x1 : Int} {x2 : Int} (h0 : (¬ (x2 < x0))) (h1 : (x2 < x1)) : (x0 ≤ x1) := by exact Int.le_of_lt (Int.lt_of_le_of_lt (Int.not_lt.mp h0) h1)
theorem z110 {x0 : Int} {x1 : Int} (h0 : (x1 < x0)) : (¬ (x0 = x1)) := by lia
theorem z111 {x0 : Int} {x1 : Int} (h0 : (x0 < x1)) : (x0 < (x1 + (1 : Int))) := by lia
theorem z112 {x0 : Nat} {x1 : Nat} : (((x0 + x1) + (1 : Nat)) = ((x0 + (1 : Nat)) + x1)) := by lia
theorem z113 {x0 : Int} (h0 : (x0 < x0)) : False := by exact absurd h0 (Int.lt_irrefl _)
theorem z114 {x0 : Int} : (x0 < (x0 + (1 : Int))) := by exact Int.lt_succ x0
theorem z115 {x0 : Int} {x1 : Int} (h0 : (¬ (x0 < x1))) (h1 : (x0 < x1)) : False := by exact h0 h1
theorem z116 {x0 : Int} {x1 : Int} (h0 : (¬ (x1 < x0))) (h1 : (¬ (x0 = x1))) : ((x0 + (1 : Int)) ≤ x1) := by lia
theorem z117 {x0 : Nat} : ((((x0 + (1 : Nat)) : Nat) : Int) = (((x0 : Nat) : Int) + (1 : Int))) := by exact rfl
theorem z118 {x0 : Nat} {x1 : Nat} {x2 : Nat} (h0 : ((x0 + x1) = x2)) : (((x0 + (0 : Nat)) + (x1 + (1 : Nat))) = (x2 + (1 : Nat))) := by rw [Nat.add_zero, ← Nat.add_assoc, h0]
theorem z119 {x0 : Nat} {x1 : Nat} {x2 : Nat} (h0 : ((x0 + x1) = x2)) : (((x0 + ((0 : Nat) + (1 : Nat))) + (x1 + (0 : Nat))) = (x2 + (1 : Nat))) := by lia
theorem z120 {x0 : Int} {x1 : Int} (h0 : (x0 ≤ x1)) (h1 : (x0 ≠ x1)) : (x0 < x1) := by exact Int.lt_iff_le_and_ne.mpr ⟨h0, h1⟩
theorem z121 {x0 : Nat} {x1 : Nat} {x2 : Nat} (h0 : ((x2 + x1) = x0)) : ((((x0 : Nat) : Int) - ((x1 : Nat) : Int)) = ((x2 : Nat) : Int)) := by lia
theorem z122 {x0 : Nat} : (¬ (((x0 : Nat) : Int) < (0 : Int))) := by lia
theorem z123 {x0 : Nat} {x1 : Nat} (h0 : (((x1 : Nat) : Int) = ((x0 : Nat) : Int))) : (x0 = x1) := by lia
theorem z124 {x0 : Nat} {x1 : Nat} (h0 : (x1 = x0)) : (((x0 : Nat) : Int) = ((x1 : Nat) : Int)) := by lia
theorem z125 {x0 : Int} {x1 : Nat} : (((x0 + (1 : Int)) + ((x1 : Nat) : Int)) = (x0 + (((x1 + (1 : Nat)) : Nat) : Int))) := by lia
theorem z126 {x0 : Nat} : ((((min (36 : Nat) x0) : Nat) : Int) < ((2 : Int) ^ (63 : Nat))) := by exact Int.lt_of_le_of_lt (Int.ofNat_le.mpr (Nat.min_le_left 36 x0)) (by decide)
theorem z127 {x0 : Nat} {x1 : Nat} (h0 : (x0 = x1)) (h1 : (x1 = (18 : Nat))) : (x0 ≤ (1000000 : Nat)) := by lia
theorem z128 {x0 : Nat} {x1 : Nat} {x2 : Nat} (h0 : (x1 = x2)) (h1 : (x2 = (18 : Nat))) : (((min (36 : Nat) x0) + (x1 - (min (36 : Nat) x0))) ≤ (1000000 : Nat)) := by exact Nat.le_trans (Nat.add_le_add (Nat.min_le_left _ _) (Nat.sub_le _ _)) (by subst h0 h1; decide)
theorem z129 {x0 : Nat} {x1 : Nat} (h0 : (x1 ≤ (3 : Nat))) (h1 : ((((0 : Nat) + (1 : Nat)) + x1) = x0)) : (x0 ≤ (900 : Nat)) := by lia
theorem z130 {x0 : Nat} {x1 : Nat} {x2 : Nat} {x3 : Nat} {x4 : Nat} (h0 : (x2 ≤ (3 : Nat))) (h1 : ((((0 : Nat) + (1 : Nat)) + x2) = x3)) (h2 : (x4 ≤ (3 : Nat))) (h3 : (((x3 + (1 : Nat)) + x4) = x0)) (h4 : (x1 < (3 : Nat))) : ((x0 + x1) ≤ (1000 : Nat)) := by subst h1 h3; exact Nat.le_trans (Nat.add_le_add (Nat.add_le_add (Nat.succ_le_succ (Nat.add_le_add_left h0 1)) h2) (Nat.le_of_lt h4)) (by decide)
theorem z131 {x0 : Nat} {x1 : Nat} {x2 : Nat} {x3 : Nat} (h0 : (x1 ≤ (3 : Nat))) (h1 : ((((0 : Nat) + (1 : Nat)) + x1) = x2)) (h2 : (x3 ≤ (3 : Nat))) (h3 : (((x2 + (1 : Nat)) + x3) = x0)) : ((x0 + (3 : Nat)) ≤ (1000 : Nat)) := by subst h1 h3; exact Nat.le_trans (Nat.add_le_add_right (Nat.add_le_add (Nat.succ_le_succ (Nat.add_le_add_left h0 1)) h2) 3) (by decide)
theorem z132 {x0 : Int} (h0 : (((0 : Int) ≤ x0) ∧ (x0 < (17 : Int)))) : ((-((2 : Int) ^ (62 : Nat))) ≤ x0) := by exact Int.le_trans (by decide) h0.1
theorem z133 {x0 : Int} (h0 : (((0 : Int) ≤ x0) ∧ (x0 < (17 : Int)))) : (x0 < ((2 : Int) ^ (62 : Nat))) := by exact Int.lt_trans h0.2 (by decide)
theorem z134 {x0 : Int} {x1 : Nat} (h0 : ((1000000 : Nat) ≤ x1)) (h1 : (((0 : Int) ≤ x0) ∧ (x0 < (17 : Int)))) : ((((x0 - (0 : Int)) : Int).toNat) ≤ x1) := by rw [Int.sub_zero]; exact Nat.le_trans (Nat.le_of_lt ((Int.toNat_lt h1.1).mpr (Int.lt_of_lt_of_le h1.2 (show (17 : Int) ≤ ((1000000 : Nat) : Int) by decide)))) h0
theorem z135 {x0 : Nat} {x1 : Nat} {x2 : Nat} {x3 : Nat} {x4 : Nat} {x5 : Int} (h0 : (x2 ≤ (3 : Nat))) (h1 : ((((0 : Nat) + (1 : Nat)) + x2) = x3)) (h2 : (x4 ≤ (3 : Nat))) (h3 : (((x3 + (1 : Nat)) + x4) = x0)) (h4 : (((0 : Int) ≤ x5) ∧ (x5 < (17 : Int)))) (h5 : (x1 < (((x5 - (0 : Int)) : Int).toNat))) : ((((x0 + (3 : Nat)) + (1 : Nat)) + x1) ≤ (1000 : Nat)) := by lia
theorem z136 {x0 : Nat} {x1 : Int} (h0 : (((0 : Int) ≤ x1) ∧ (x1 < (17 : Int)))) (h1 : (((x0 : Nat) : Int) = x1)) : (x0 ≤ (16 : Nat)) := by lia
theorem z137 {x0 : Nat} {x1 : Nat} (h0 : (x1 ≤ (9 : Nat))) (h1 : (x0 ≤ ((41 : Nat) * x1))) : (x0 ≤ (10000 : Nat)) := by lia
theorem z138 {x0 : Nat} {x1 : Nat} {x2 : Nat} (h0 : (x2 = x1)) (h1 : ((((x0 : Nat) : Int) + (2 : Int)) < ((x2 : Nat) : Int))) : ((x0 + (2 : Nat)) < x1) := by lia
theorem z139 {x0 : Nat} {x1 : Nat} {x2 : Nat} (h0 : (x2 = x1)) (h1 : ((((x0 : Nat) : Int) + (2 : Int)) < ((x2 : Nat) : Int))) : ((x0 + (1 : Nat)) < x1) := by exact Nat.lt_of_succ_lt (h0 ▸ Int.ofNat_lt.mp h1)
theorem z140 {x0 : Nat} : ((0 : Int) ≤ (((x0 : Nat) : Int) + (1 : Int))) := by lia
theorem z141 {x0 : Nat} {x1 : Nat} {x2 : Nat} (h0 : (x0 = x1)) (h1 : (¬ ((((x2 : Nat) : Int) + (2 : Int)) < ((x0 : Nat) : Int)))) (h2 : ((x2 + (2 : Nat)) < x1)) : False := by subst h0; exact h1 (Int.ofNat_lt.mpr h2)
theorem z142 {x0 : Nat} {x1 : Nat} (h0 : ((x0 + (2 : Nat)) < x1)) : ((x0 + (1 : Nat)) < x1) := by exact Nat.lt_of_succ_lt h0
theorem z143 {x0 : Nat} : ((0 : Int) ≤ (((x0 : Nat) : Int) + (2 : Int))) := by lia
theorem z144 {x0 : Int} (h0 : (((0 : Int) ≤ x0) ∧ (x0 ≤ (122 : Int)))) : (x0 ≤ (122 : Int)) := by lia
theorem z145 {x0 : Int} {x1 : Int} {x2 : Nat} (h0 : (((0 : Int) ≤ x1) ∧ (x1 ≤ (122 : Int)))) (h1 : (((0 : Int) ≤ x0) ∧ (x0 ≤ (122 : Int)))) : (((x0 - x1) + (1 : Int)) ≤ ((41 : Int) * (((((x2 + (2 : Nat)) : Nat) : Int) + (1 : Int)) - ((x2 : Nat) : Int)))) := by lia
theorem z146 {x0 : Nat} {x1 : Nat} (h0 : ((2 : Nat) ≤ (x1 - (x0 + (1 : Nat))))) : ((x0 + (2 : Nat)) < x1) := by omega
theorem z147 {x0 : Int} : (x0 ≤ x0) := by lia
theorem z148 {x0 : Int} {x1 : Nat} : (((x0 - x0) + (1 : Int)) ≤ ((41 : Int) * ((((x1 : Nat) : Int) + (1 : Int)) - ((x1 : Nat) : Int)))) := by lia
theorem z149 {x0 : Nat} {x1 : Nat} {x2 : Nat} {x3 : Nat} {x4 : Nat} (h0 : (x1 ≤ (20 : Nat))) (h1 : (x2 ≤ x1)) (h2 : (x3 ≤ ((41 : Nat) * x4))) (h3 : (x0 = x3)) (h4 : (x4 < x2)) : (((x0 : Nat) : Int) < ((2 : Int) ^ (63 : Nat))) := by lia
theorem z150 {x0 : Int} (h0 : (((0 : Int) ≤ x0) ∧ (x0 ≤ (122 : Int)))) : ((-((2 : Int) ^ (62 : Nat))) ≤ x0) := by exact Int.le_trans (by decide) h0.1
theorem z151 {x0 : Int} (h0 : (((0 : Int) ≤ x0) ∧ (x0 ≤ (122 : Int)))) : (x0 < ((2 : Int) ^ (62 : Nat))) := by exact Int.lt_of_le_of_lt h0.2 (by decide)
theorem z152 {x0 : Int} {x1 : Int} (h0 : (((0 : Int) ≤ x1) ∧ (x1 ≤ (122 : Int)))) (h1 : (x1 ≤ x0)) : ((-((2 : Int) ^ (62 : Nat))) ≤ (x0 + (1 : Int))) := by lia
theorem z153 {x0 : Int} (h0 : (x0 ≤ (122 : Int))) : ((x0 + (1 : Int)) < ((2 : Int) ^ (62 : Nat))) := by omega
theorem z154 {x0 : Nat} {x1 : Nat} {x2 : Nat} {x3 : Nat} {x4 : Int} {x5 : Int} {x6 : Nat} {x7 : Nat} (h0 : (x2 = x3)) (h1 : ((1000000 : Nat) ≤ x1)) (h2 : (¬ ((1000 : Int) ≤ ((((x2 : Nat) : Int) + x4) - x5)))) (h3 : (x6 < ((((x4 + (1 : Int)) - x5) : Int).toNat))) (h4 : (x0 = (x3 + (min x6 x7)))) : (x0 ≤ x1) := by lia
theorem z155 {x0 : Nat} {x1 : Nat} {x2 : Nat} {x3 : Nat} (h0 : (x3 = x0)) (h1 : (((x2 : Nat) : Int) < ((x3 : Nat) : Int))) (h2 : (x2 ≤ x1)) : ((x0 - (x1 + (1 : Nat))) < (x0 - x2)) := by subst h0; exact Nat.sub_lt_sub_left (Int.ofNat_lt.mp h1) (Nat.lt_succ_of_le h2)
theorem z156 {x0 : Nat} {x1 : Int} {x2 : Int} {x3 : Nat} {x4 : Nat} (h0 : (x0 ≤ ((41 : Nat) * x4))) (h1 : (x2 ≤ x1)) (h2 : (((x1 - x2) + (1 : Int)) ≤ ((41 : Int) * ((((x3 : Nat) : Int) + (1 : Int)) - ((x4 : Nat) : Int))))) : ((x0 + ((((x1 + (1 : Int)) - x2) : Int).toNat)) ≤ ((41 : Nat) * (x3 + (1 : Nat)))) := by lia
theorem z157 {x0 : Nat} {x1 : Nat} {x2 : Nat} (h0 : (x2 = x1)) (h1 : (x0 ≤ x1)) (h2 : (¬ (((x0 : Nat) : Int) < ((x2 : Nat) : Int)))) : (x0 = x1) := by lia
theorem z158 {x0 : Nat} {x1 : Nat} (h0 : (x0 ≤ x1)) : (x0 ≤ (x1 + (1 : Nat))) := by exact Nat.le_succ_of_le h0
theorem z159 {x0 : Nat} {x1 : Nat} {x2 : Nat} {x3 : Nat} (h0 : (x1 ≤ (1000 : Nat))) (h1 : (x2 ≤ x1)) (h2 : ((x0 + x3) = x2)) : (x0 ≤ (1000 : Nat)) := by lia
theorem z160 {x0 : Nat} {x1 : Nat} (h0 : ((((x0 : Nat) : Int) + (1 : Int)) < ((x1 : Nat) : Int))) : ((x0 + (1 : Nat)) < x1) := by exact Int.ofNat_lt.mp h0
theorem z161 {x0 : Nat} : ((((x0 : Nat) : Int) + (1 : Int)) = (((x0 + (1 : Nat)) : Nat) : Int)) := by lia
theorem z162 {x0 : Nat} {x1 : Nat} (h0 : (x1 < x0)) : ((x0 - (x1 + (2 : Nat))) < (x0 - x1)) := by exact Nat.sub_lt_sub_left h0 (Nat.lt_add_of_pos_right (by decide))
theorem z163 {x0 : Nat} {x1 : Nat} (h0 : (¬ ((x1 + (1 : Nat)) < x0))) : ((x0 - (x1 + (1 : Nat))) = (0 : Nat)) := by exact Nat.sub_eq_zero_of_le (Nat.le_of_not_lt h0)
theorem z164 {x0 : Nat} {x1 : Nat} (h0 : (¬ (((x1 : Nat) : Int) < ((x0 : Nat) : Int)))) : (x0 ≤ x1) := by exact Nat.le_of_not_lt fun z => h0 (Int.ofNat_lt.mpr z)
theorem z165 {x0 : Nat} {x1 : Nat} (h0 : ((0 : Nat) < x1)) (h1 : (x0 = x1)) : ((0 : Int) < ((x0 : Nat) : Int)) := by lia
theorem z166 {x0 : Nat} {x1 : Nat} : ((0 : Int) ≤ (((x0 : Nat) : Int) % ((x1 : Nat) : Int))) := by lia
theorem z167 {x0 : Nat} {x1 : Nat} {x2 : Nat} (h0 : (x2 ≤ (1000 : Nat))) (h1 : ((((x0 : Nat) : Int) % ((x1 : Nat) : Int)) = (((x0 % x2) : Nat) : Int))) (h2 : ((x0 % x2) < x2)) : ((((x0 : Nat) : Int) % ((x1 : Nat) : Int)) < ((2 : Int) ^ (63 : Nat))) := by lia
theorem z168 {x0 : Nat} {x1 : Nat} (h0 : (x1 ≤ (1000 : Nat))) (h1 : (x0 = x1)) : (x0 < (1000000 : Nat)) := by exact h1 ▸ Nat.lt_of_le_of_lt h0 (by decide)
theorem z169 {x0 : Nat} {x1 : Nat} {x2 : Nat} {x3 : Nat} {x4 : Nat} (h0 : (x2 ≤ (100 : Nat))) (h1 : ((1000000 : Nat) ≤ x1)) (h2 : (x3 ≤ ((0 : Nat) + (min x4 x2)))) (h3 : (x0 = x3)) : (x0 ≤ x1) := by exact h3 ▸ Nat.le_trans h2 (Nat.le_trans (Nat.le_of_eq (Nat.zero_add _)) (Nat.le_trans (Nat.min_le_right _ _) (Nat.le_trans h0 (Nat.le_trans (by decide) h1))))
theorem z170 {x0 : Int} {x1 : Nat} {x2 : Nat} (h0 : (x2 = x1)) (h1 : (x0 < ((x2 : Nat) : Int))) : (x0 < ((x1 : Nat) : Int)) := by exact h0 ▸ h1
theorem z171 {x0 : Int} {x1 : Nat} {x2 : Nat} (h0 : (x2 = x1)) (h1 : (¬ (x0 < ((x2 : Nat) : Int)))) : (¬ (x0 < ((x1 : Nat) : Int))) := by exact h0 ▸ h1
theorem z172 {x0 : Nat} {x1 : Nat} (h0 : (x0 = x1)) (h1 : ((0 : Nat) < x1)) : ((-((x0 : Nat) : Int)) ≤ (-(1 : Int))) := by lia
theorem z173 {x0 : Nat} {x1 : Nat} {x2 : Nat} (h0 : (x1 ≤ (100 : Nat))) (h1 : (x0 = x2)) (h2 : (x2 ≤ ((0 : Nat) + x1))) : (x0 ≤ (1000000 : Nat)) := by lia
theorem z174 {x0 : Nat} {x1 : Nat} (h0 : (x1 ≤ (100 : Nat))) (h1 : (x0 ≤ ((0 : Nat) + x1))) : (x0 ≤ (1000000 : Nat)) := by lia
theorem z175 {x0 : Nat} {x1 : Nat} {x2 : Nat} {x3 : Nat} (h0 : (x0 ≤ (x3 + x2))) (h1 : (x3 ≤ (x1 + (1 : Nat)))) : (x0 ≤ (x1 + (x2 + (1 : Nat)))) := by lia
theorem z176 {x0 : Nat} {x1 : Nat} {x2 : Nat} (h0 : (x2 = x1)) (h1 : (x0 < (((((x2 : Nat) : Int) - (0 : Int)) : Int).toNat))) : (x0 < x1) := by rw [Int.sub_zero] at h1; subst h0; exact h1
theorem z177 {x0 : Nat} {x1 : Nat} {x2 : Nat} (h0 : (x1 ≤ (1000 : Nat))) (h1 : (x2 < x1)) (h2 : (x0 ≤ x2)) : (x0 ≤ (1000 : Nat)) := by lia
theorem z178 {x0 : Nat} {x1 : Nat} {x2 : Nat} (h0 : (x2 = x1)) (h1 : (((0 : Int) + ((x0 : Nat) : Int)) < ((x2 : Nat) : Int))) : (x0 < x1) := by rw [Int.zero_add] at h1; exact h0 ▸ Int.ofNat_lt.mp h1
theorem z179 {x0 : Nat} {x1 : Nat} {x2 : Nat} (h0 : (x2 = x1)) (h1 : (¬ (((0 : Int) + ((x0 : Nat) : Int)) < ((x2 : Nat) : Int)))) : (¬ (x0 < x1)) := by lia
theorem z180 {x0 : Nat} {x1 : Nat} (h0 : (x0 = x1)) (h1 : ((0 : Nat) < x1)) : ((0 : Int) ≤ (((x0 : Nat) : Int) - (1 : Int))) := by subst h0; exact Int.sub_nonneg_of_le (Int.ofNat_le.mpr h1)
theorem z181 {x0 : Nat} {x1 : Nat} (h0 : (x0 = x1)) : ((((((x0 : Nat) : Int) - (0 : Int)) : Int).toNat) = x1) := by assumption
theorem z182 {x0 : Int} {x1 : Int} (h0 : (x1 < x0)) : ((x0 - x1) = (((((x0 - x1) : Int).toNat) : Nat) : Int)) := by exact (Int.toNat_of_nonneg (Int.sub_nonneg_of_le (Int.le_of_lt h0))).symm
theorem z183 {x0 : Int} {x1 : Int} (h0 : (¬ (x1 < x0))) : ((0 : Int) = (((((x0 - x1) : Int).toNat) : Nat) : Int)) := by lia
theorem z184 {x0 : Int} (h0 : ((0 : Int) < x0)) : (x0 ≠ (0 : Int)) := by exact Int.ne_of_gt h0
theorem z185 {x0 : Nat} (h0 : ((0 : Nat) < x0)) : (((x0 : Nat) : Int) ≠ (0 : Int)) := by lia
theorem z186 {x0 : Nat} {x1 : Nat} (h0 : (x0 ≤ (x1 + (1 : Nat)))) : ((x0 + (1 : Nat)) ≤ ((x1 + (1 : Nat)) + (1 : Nat))) := by exact Nat.succ_le_succ h0
theorem z187 {x0 : Nat} {x1 : Nat} {x2 : Nat} (h0 : (x2 ≤ (100 : Nat))) (h1 : ((1000 : Nat) ≤ x1)) (h2 : (x0 ≤ (x2 + (1 : Nat)))) : (x0 ≤ (x1 + (1 : Nat))) := by lia
theorem z188 {x0 : Nat} {x1 : Nat} {x2 : Nat} (h0 : ((x0 + x1) = x2)) : ((x0 + (x1 + (1 : Nat))) = (x2 + (1 : Nat))) := by lia
theorem z189 {x0 : Nat} {x1 : Nat} {x2 : Nat} (h0 : ((x0 + x1) = x2)) : ((x0 + (x1 + (2 : Nat))) = (x2 + (2 : Nat))) := by lia
theorem z190 {x0 : Nat} {x1 : Nat} {x2 : Nat} (h0 : ((x1 + x2) = x0)) (h1 : ((3 : Nat) ≤ x2)) : ((x0 - (1 : Nat)) < (x1 + x2)) := by subst h0; exact Nat.sub_lt (Nat.lt_of_lt_of_le (Nat.lt_of_lt_of_le (by decide) h1) (Nat.le_add_left _ _)) Nat.one_pos
theorem z191 {x0 : Nat} {x1 : Nat} {x2 : Nat} (h0 : ((x0 + x2) = x1)) (h1 : ((3 : Nat) ≤ x2)) : (x0 ≤ (x1 - (1 : Nat))) := by subst h0; exact Nat.le_sub_of_add_le (Nat.add_le_add_left (Nat.le_trans (by decide) h1) _)
theorem z192 {x0 : Nat} {x1 : Nat} {x2 : Nat} (h0 : ((x1 + x2) = x0)) : (((x0 - (1 : Nat)) - x1) = (x2 - (1 : Nat))) := by subst h0; rw [Nat.sub_right_comm, Nat.add_sub_cancel_left]
theorem z193 {x0 : Nat} {x1 : Nat} {x2 : Nat} (h0 : ((x0 + x1) = x2)) : ((x0 + x1) ≤ (x2 + (1 : Nat))) := by lia
theorem z194 {x0 : Nat} {x1 : Nat} {x2 : Nat} {x3 : Nat} {x4 : Nat} (h0 : ((x2 + x3) = x4)) (h1 : (x1 = (x4 + (2 : Nat)))) (h2 : (x0 < x2)) : (x0 < x1) := by lia
theorem z195 {x0 : Nat} {x1 : Nat} {x2 : Nat} (h0 : (x1 = (x2 + (2 : Nat)))) (h1 : (x0 < x2)) : (x0 < x1) := by lia
theorem z196 {x0 : Nat} {x1 : Nat} (h0 : (x0 < x1)) : (x0 < (x1 + (2 : Nat))) := by exact Nat.lt_add_right _ h0
theorem z197 {x0 : Nat} {x1 : Nat} {x2 : Nat} (h0 : ((x1 + x2) = x0)) (h1 : ((3 : Nat) ≤ x2)) : ((0 : Nat) < x0) := by lia
theorem z198 {x0 : Int} {x1 : Int} {x2 : Int} (h0 : (x0 = x1)) (h1 : (x0 < x2)) (h2 : (x2 ≤ x1)) : False := by lia
theorem z199 {x0 : Nat} {x1 : Nat} {x2 : Nat} {x3 : Nat} (h0 : ((x2 + x3) = x1)) (h1 : (x0 < x2)) : (x0 < x1) := by lia
theorem z200 {x0 : Int} {x1 : Int} {x2 : Int} (h0 : (x0 = x1)) (h1 : (x2 ≤ x0)) (h2 : (x1 < x2)) : False := by lia
theorem z201 {x0 : Nat} {x1 : Nat} {x2 : Nat} (h0 : ((x1 + x2) = x0)) (h1 : ((3 : Nat) ≤ x2)) : (¬ ((x0 - x1) = (0 : Nat))) := by subst h0; rw [Nat.add_sub_cancel_left]; exact Nat.ne_of_gt (Nat.lt_of_lt_of_le (by decide) h1)
theorem z202 {x0 : Nat} {x1 : Nat} {x2 : Nat} (h0 : ((x0 + x2) = x1)) : (((((0 : Nat) + x0) + (x1 - x0)) - (1 : Nat)) = (x1 - (1 : Nat))) := by subst h0; rw [Nat.zero_add, Nat.add_sub_cancel_left]
theorem z203 {x0 : Nat} {x1 : Nat} (h0 : (x1 < (2 : Nat))) : ((x0 + x1) < (x0 + (2 : Nat))) := by exact Nat.add_lt_add_left h0 _
theorem z204 {x0 : Nat} {x1 : Nat} (h0 : (x0 ≤ x1)) (h1 : (x1 < (2 : Nat))) : (((x0 = (0 : Nat)) ∨ (x0 = (1 : Nat))) ∧ ((x1 = (0 : Nat)) ∨ (x1 = (1 : Nat)))) := by exact ⟨Nat.le_one_iff_eq_zero_or_eq_one.mp (Nat.le_trans h0 (Nat.le_of_lt_succ h1)), Nat.le_one_iff_eq_zero_or_eq_one.mp (Nat.le_of_lt_succ h1)⟩
theorem z205 {x0 : Int} {x1 : Int} (h0 : ((1 : Nat) ≤ (0 : Nat))) : (x0 ≤ x1) := by exact absurd h0 (by decide)
theorem z206 {x0 : Int} {x1 : Int} {x2 : Int} (h0 : (x0 < x1)) (h1 : (x1 = x2)) (h2 : (x2 ≤ x0)) : False := by lia
theorem z207 {x0 : Nat} (h0 : (x0 ≠ (0 : Nat))) (h1 : (x0 < (2 : Nat))) : (x0 = (1 : Nat)) := by lia
theorem z208 {x0 : Int} {x1 : Int} {x2 : Int} (h0 : (x0 = x1)) (h1 : (x2 < x0)) (h2 : (x1 ≤ x2)) : False := by lia
theorem z209 {x0 : Int} {x1 : Int} {x2 : Int} (h0 : (x0 = x1)) (h1 : (¬ (x2 < x0))) (h2 : (x2 < x1)) : False := by exact h1 (h0 ▸ h2)
theorem z210 {x0 : Nat} (h0 : (x0 ≠ (0 : Nat))) : ((1 : Nat) ≤ x0) := by lia
theorem z211 {x0 : Nat} (h0 : (((1 : Nat) ≤ x0) ∧ (x0 ≤ (2 : Nat)))) : (¬ (x0 = (0 : Nat))) := by lia
theorem z212 {x0 : Nat} {x1 : Nat} {x2 : Nat} {x3 : Nat} (h0 : ((x1 + x3) = x0)) (h1 : ((3 : Nat) ≤ x3)) (h2 : (x2 ≤ (2 : Nat))) : (¬ ((x0 - x1) ≤ x2)) := by subst h0; rw [Nat.add_sub_cancel_left]; exact fun z => absurd (Nat.le_trans h1 (Nat.le_trans z h2)) (by decide)
theorem z213 {x0 : Nat} {x1 : Nat} {x2 : Nat} (h0 : ((x1 + x2) = x0)) (h1 : ((1 : Nat) ≤ x1)) : ((x0 - (1 : Nat)) < (x1 + x2)) := by subst h0; exact Nat.sub_lt (Nat.lt_of_lt_of_le h1 (Nat.le_add_right _ _)) Nat.one_pos
theorem z214 {x0 : Nat} {x1 : Nat} (h0 : (x0 = (x1 + (2 : Nat)))) : ((0 : Nat) < x0) := by lia
theorem z215 {x0 : Nat} {x1 : Nat} (h0 : ((1 : Nat) ≤ x0)) : ((0 : Nat) < (x0 + x1)) := by exact Nat.lt_of_lt_of_le h0 (Nat.le_add_right _ _)
theorem z216 {x0 : Nat} {x1 : Nat} {x2 : Nat} (h0 : ((x1 + x2) = x0)) (h1 : ((1 : Nat) ≤ x1)) (h2 : ((3 : Nat) ≤ x2)) : ((4 : Nat) ≤ x0) := by exact h0 ▸ Nat.add_le_add h1 h2
theorem z217 {x0 : Nat} : (¬ ((0 : Nat) ≥ (x0 + (2 : Nat)))) := by exact Nat.not_le_of_lt (Nat.succ_pos _)
theorem z218 {x0 : Nat} {x1 : Nat} (h0 : (x1 = (x0 + (2 : Nat)))) : ((x0 + (2 : Nat)) ≤ x1) := by exact Nat.le_of_eq h0.symm
theorem z219 {x0 : Nat} {x1 : Nat} (h0 : ((4 : Nat) ≤ x1)) (h1 : (x0 < (1 : Nat))) : (x0 < x1) := by exact Nat.lt_of_lt_of_le h1 (Nat.le_trans (by decide) h0)
theorem z220 {x0 : Nat} {x1 : Nat} (h0 : (x0 < x1)) (h1 : (x0 = (x1 + (2 : Nat)))) : False := by exact absurd (h1 ▸ h0) (Nat.not_lt.mpr (Nat.le_add_right _ _))
theorem z221 {x0 : Nat} {x1 : Nat} (h0 : (¬ (x1 = x0))) (h1 : (¬ (x1 < x0))) : (x0 < x1) := by exact Nat.lt_of_le_of_ne (Nat.le_of_not_lt h1) (fun z => h0 z.symm)
theorem z222 {x0 : Int} {x1 : Int} {x2 : Int} {x3 : Int} (h0 : (x0 < x1)) (h1 : (x2 = x0)) (h2 : (x3 = x1)) (h3 : (x3 ≤ x2)) : False := by lia
theorem z223 {x0 : Nat} : (¬ (x0 = (x0 + (2 : Nat)))) := by lia
theorem z224 {x0 : Nat} (h0 : ((4 : Nat) ≤ x0)) : (x0 > (1 : Nat)) := by lia
theorem z225 {x0 : Nat} {x1 : Nat} (h0 : (x1 = (x0 + (2 : Nat)))) : ((x0 - (1 : Nat)) < x1) := by subst h0; exact Nat.lt_succ_of_lt (Nat.lt_succ_of_le (Nat.sub_le _ _))
theorem z226 {x0 : Int} {x1 : Int} {x2 : Int} {x3 : Int} (h0 : (x2 < x3)) (h1 : (x0 ≤ x2)) (h2 : (x1 = x3)) : (x0 < x1) := by lia
theorem z227 {x0 : Nat} {x1 : Nat} (h0 : (x1 ≤ x0)) : (¬ (x0 < x1)) := by lia
theorem z228 {x0 : Nat} : ((1 : Nat) < (x0 + (2 : Nat))) := by lia
theorem z229 {x0 : Nat} : (¬ (x0 ≥ (x0 + (2 : Nat)))) := by exact Nat.not_le_of_lt (Nat.lt_add_of_pos_right (by decide))
theorem z230 {x0 : Nat} : (((x0 + (2 : Nat)) - x0) = (2 : Nat)) := by lia
theorem z231 {x0 : Nat} : (x0 < (x0 + (2 : Nat))) := by exact Nat.lt_add_of_pos_right (by decide)
theorem z232 {x0 : Int} {x1 : Int} {x2 : Int} {x3 : Int} (h0 : (x2 ≤ x3)) (h1 : (x1 = x2)) (h2 : (x0 = x3)) : (¬ (x0 < x1)) := by lia
theorem z233 {x0 : Nat} (h0 : ((4 : Nat) ≤ x0)) : (((1 : Nat) + (1 : Nat)) < (x0 + (2 : Nat))) := by lia
theorem z234 {x0 : Nat} : (((0 : Nat) + (1 : Nat)) < (x0 + (2 : Nat))) := by lia
theorem z235 {x0 : Nat} (h0 : (((1 : Nat) + (1 : Nat)) < x0)) : ((min (2 : Nat) x0) = (2 : Nat)) := by lia
theorem z236 {x0 : Nat} {x1 : Nat} (h0 : (x0 < (100 : Nat))) (h1 : ((1000 : Nat) ≤ x1)) : ((x0 + (1 : Nat)) ≤ (x1 + (1 : Nat))) := by lia
theorem z237 {x0 : Nat} {x1 : Nat} {x2 : Nat} {x3 : Nat} (h0 : (x2 ≤ x1)) (h1 : (x0 ≤ x3)) (h2 : (x3 < x2)) : (x0 ≤ x1) := by lia
theorem z238 {x0 : Nat} : ((-(9223372036854775808 : Int)) < ((x0 : Nat) : Int)) := by lia
theorem z239 {x0 : Nat} {x1 : Nat} (h0 : (x1 ≤ (1000000 : Nat))) (h1 : (x0 < x1)) : (((x0 : Nat) : Int) < (9223372036854775808 : Int)) := by exact Int.lt_of_lt_of_le (Int.ofNat_lt.mpr (Nat.lt_of_lt_of_le h1 h0)) (by decide)
theorem z240 {x0 : Nat} {x1 : Nat} : ((-((x0 : Nat) : Int)) ≤ ((x1 : Nat) : Int)) := by lia
theorem z241 {x0 : Nat} (h0 : (x0 ≤ (1000000 : Nat))) : (¬ (((x0 : Nat) : Int) ≥ ((2 : Int) ^ (63 : Nat)))) := by lia
theorem z242 {x0 : Nat} {x1 : Nat} (h0 : (x0 < x1)) (h1 : (x1 ≤ (1000000 : Nat))) : (((x0 : Nat) : Int) < (((2 : Int) ^ (63 : Nat)) - (1 : Int))) := by lia
theorem z243 {x0 : Nat} {x1 : Nat} {x2 : Nat} (h0 : ((x0 + x2) ≤ (1000000 : Nat))) (h1 : ((1000000 : Nat) ≤ x1)) : (x0 ≤ x1) := by lia
theorem z244 {x0 : Nat} {x1 : Nat} {x2 : Nat} (h0 : ((x0 + x1) ≤ (1000000 : Nat))) (h1 : ((1000000 : Nat) ≤ x2)) : (¬ ((x0 + x1) > x2)) := by lia
theorem z245 {x0 : Nat} {x1 : Nat} (h0 : (x0 ≤ (1000000 : Nat))) (h1 : ((1000000 : Nat) < x1)) : ((x0 + (1 : Nat)) ≤ x1) := by lia
theorem z246 {x0 : Nat} : ((-((2 : Int) ^ (63 : Nat))) ≤ ((x0 : Nat) : Int)) := by lia
theorem z247 {x0 : Int} (h0 : ((x0 = (-(2 : Int))) ∨ (((0 : Int) ≤ x0) ∧ (x0 ≤ (122 : Int))))) : ((x0 = (-(1 : Int))) ∨ ((x0 = (-(2 : Int))) ∨ (((0 : Int) ≤ x0) ∧ (x0 ≤ (1114111 : Int))))) := by rcases h0 with h | h; (exact .inr (.inl h)); exact .inr (.inr ⟨h.1, Int.le_trans h.2 (by decide)⟩)
theorem z248 {x0 : Int} {x1 : Nat} (h0 : (¬ (x0 < (0 : Int)))) (h1 : (x0 < ((x1 : Nat) : Int))) : (((x0 : Int).toNat) < x1) := by exact (Int.toNat_lt (Int.not_lt.mp h0)).mpr h1
theorem z249 {x0 : Int} (h0 : (((0 : Int) ≤ x0) ∧ (x0 ≤ (122 : Int)))) : ((x0 = (-(1 : Int))) ∨ ((x0 = (-(2 : Int))) ∨ (((0 : Int) ≤ x0) ∧ (x0 ≤ (1114111 : Int))))) := by exact .inr (.inr ⟨h0.1, Int.le_trans h0.2 (by decide)⟩)
theorem z250 {x0 : Nat} (h0 : (x0 ≤ (1000 : Nat))) : ((((x0 : Nat) : Int) = (-(1 : Int))) ∨ ((((x0 : Nat) : Int) = (-(2 : Int))) ∨ (((0 : Int) ≤ ((x0 : Nat) : Int)) ∧ (((x0 : Nat) : Int) ≤ (1114111 : Int))))) := by exact .inr (.inr ⟨Int.natCast_nonneg _, Int.le_trans (Int.ofNat_le.mpr h0) (by decide)⟩)
theorem z251 {x0 : Nat} : (((((0 : Nat) + (1 : Nat)) + x0) + (((((((0 : Nat) + (1 : Nat)) + (1 : Nat)) + (1 : Nat)) + (1 : Nat)) + (1 : Nat)) + (1 : Nat))) = ((x0 + ((((((0 : Nat) + (1 : Nat)) + (1 : Nat)) + (1 : Nat)) + (1 : Nat)) + (1 : Nat))) + (2 : Nat))) := by lia
theorem z252 {x0 : Nat} (h0 : (x0 ≤ (1000 : Nat))) : (((x0 * (10 : Nat)) + (x0 * (0 : Nat))) ≤ (16777216 : Nat)) := by lia
theorem z253 {x0 : Int} (h0 : (((0 : Int) ≤ x0) ∧ (x0 < (4 : Int)))) : ((-((2 : Int) ^ (62 : Nat))) ≤ x0) := by lia
theorem z254 {x0 : Int} (h0 : (((0 : Int) ≤ x0) ∧ (x0 < (4 : Int)))) : (x0 < ((2 : Int) ^ (62 : Nat))) := by lia
theorem z255 {x0 : Int} {x1 : Nat} (h0 : (((0 : Int) ≤ x0) ∧ (x0 < (4 : Int)))) (h1 : ((1000000 : Nat) ≤ x1)) : ((((x0 - (0 : Int)) : Int).toNat) ≤ x1) := by lia
theorem z256 {x0 : Nat} {x1 : Nat} {x2 : Int} (h0 : (((x1 : Nat) : Int) = x2)) (h1 : (x0 < (((x2 - (0 : Int)) : Int).toNat))) : (x0 < x1) := by rw [← h0, Int.sub_zero] at h1; exact h1
theorem z257 {x0 : Nat} {x1 : Int} (h0 : (((0 : Int) ≤ x1) ∧ (x1 < (4 : Int)))) (h1 : (((x0 : Nat) : Int) = x1)) : (x0 < (4 : Nat)) := by exact Int.ofNat_lt.mp (h1 ▸ h0.2)
theorem z258 {x0 : Nat} {x1 : Nat} {x2 : Int} {x3 : Nat} (h0 : (x0 ≤ (900 : Nat))) (h1 : (((0 : Int) ≤ x2) ∧ (x2 < (4 : Int)))) (h2 : (((x3 : Nat) : Int) = x2)) (h3 : (x1 < x3)) : (((x0 + (1 : Nat)) + x1) ≤ (1000 : Nat)) := by lia
theorem z259 {x0 : Int} (h0 : (((0 : Int) ≤ x0) ∧ (x0 < (11 : Int)))) : (((x0 : Int).toNat) < (11 : Nat)) := by exact (Int.toNat_lt h0.1).mpr h0.2
theorem z260 {x0 : Nat} (h0 : ((11 : Nat) = x0)) : (x0 ≤ (1000000 : Nat)) := by lia
theorem z261 {x0 : Nat} {x1 : Int} (h0 : (((0 : Int) ≤ x1) ∧ (x1 < (4 : Int)))) (h1 : (((x0 : Nat) : Int) = x1)) : (x0 ≤ (1000 : Nat)) := by lia
theorem z262 {x0 : Nat} {x1 : Nat} {x2 : Nat} {x3 : Nat} (h0 : (x1 ≤ (1000 : Nat))) (h1 : (x0 = x2)) (h2 : (x2 ≤ (min x3 x1))) : (x0 ≤ (1000 : Nat)) := by exact h1 ▸ Nat.le_trans h2 (Nat.le_trans (Nat.min_le_right _ _) h0)
theorem z263 {x0 : Nat} (h0 : (x0 ≤ (1000000 : Nat))) : (((x0 * (1 : Nat)) + (x0 * (0 : Nat))) ≤ (16777216 : Nat)) := by lia
theorem z264 {x0 : Nat} {x1 : Nat} {x2 : Nat} {x3 : Nat} {x4 : Nat} (h0 : (x2 ≤ (1000 : Nat))) (h1 : (x0 = x3)) (h2 : (x3 ≤ (min x4 x2))) (h3 : ((1000000 : Nat) ≤ x1)) : (x0 ≤ x1) := by exact h1 ▸ Nat.le_trans h2 (Nat.le_trans (Nat.min_le_right _ _) (Nat.le_trans h0 (Nat.le_trans (by decide) h3)))
theorem z265 {x0 : Int} {x1 : Int} (h0 : (x0 = x1)) (h1 : (((0 : Int) ≤ x1) ∧ (x1 ≤ (1114111 : Int)))) : ((0 : Int) ≤ x0) := by lia
theorem z266 {x0 : Int} {x1 : Int} (h0 : (x0 = x1)) (h1 : (((0 : Int) ≤ x1) ∧ (x1 ≤ (1114111 : Int)))) : (x0 ≤ (1114111 : Int)) := by lia
theorem z267 {x0 : Nat} {x1 : Nat} : ((((x0 : Nat) : Int) + ((x1 : Nat) : Int)) = (((x0 + x1) : Nat) : Int)) := by lia
theorem z268 {x0 : Nat} : (((((((x0 : Nat) : Int) + (1 : Int)) - ((x0 : Nat) : Int)) : Int).toNat) = (1 : Nat)) := by lia
theorem z269 {x0 : Nat} (h0 : (((x0 : Nat) : Int) = (45 : Int))) : (x0 = (45 : Nat)) := by lia
theorem z270 {x0 : Nat} {x1 : Nat} (h0 : (((x0 : Nat) : Int) = ((x1 : Nat) : Int))) : (x0 = x1) := by exact Int.ofNat.inj h0
theorem z271 {x0 : Nat} {x1 : Nat} (h0 : (¬ (x0 = x1))) : (((x0 : Nat) : Int) ≠ ((x1 : Nat) : Int)) := by lia
theorem z272 {x0 : Nat} {x1 : Nat} (h0 : ((x0 + (1 : Nat)) ≤ x1)) : (x0 ≤ x1) := by exact Nat.le_of_succ_le h0
theorem z273 {x0 : Nat} {x1 : Nat} (h0 : ((x0 + (1 : Nat)) ≤ x1)) : ((min x0 x1) = x0) := by lia
theorem z274 {x0 : Nat} : (((1 : Nat) + x0) = (x0 + (1 : Nat))) := by lia
theorem z275 {x0 : Nat} {x1 : Nat} (h0 : (x0 < x1)) : (x0 < (x1 + (1 : Nat))) := by exact Nat.lt_succ_of_lt h0
theorem z276 {x0 : Nat} (h0 : (x0 ≤ (1000 : Nat))) : (x0 < ((2 : Nat) ^ (20 : Nat))) := by exact Nat.lt_of_le_of_lt h0 (by decide)
theorem z277 {x0 : Nat} : (((0 : Nat) < ((min (36 : Nat) x0) + ((18 : Nat) - (min (36 : Nat) x0)))) ∧ (((min (36 : Nat) x0) + ((18 : Nat) - (min (36 : Nat) x0))) ≤ (1000 : Nat))) := by exact ⟨Nat.lt_of_lt_of_le (by decide : 0 < 18) (Nat.add_comm _ _ ▸ Nat.sub_le_iff_le_add.mp (Nat.le_refl _)), Nat.le_trans (Nat.add_le_add (Nat.min_le_left _ _) (Nat.sub_le _ _)) (by decide)⟩
theorem z278 {x0 : Nat} {x1 : Nat} (h0 : (x0 ≤ x1)) : ((x0 - x1) = (0 : Nat)) := by exact Nat.sub_eq_zero_of_le h0
theorem z279 {x0 : Nat} {x1 : Nat} (h0 : (x1 < x0)) : ((x0 - x1) = ((x0 - (x1 + (1 : Nat))) + (1 : Nat))) := by exact (Nat.succ_pred_eq_of_pos (Nat.sub_pos_of_lt h0)).symm
theorem z280 {x0 : Nat} (h0 : ((1 : Nat) ≤ x0)) : (¬ (x0 = (0 : Nat))) := by exact Nat.ne_of_gt h0
theorem z281 {x0 : Nat} {x1 : Nat} : ((0 : Nat) < ((x0 + (5 : Nat)) + x1)) := by lia
theorem z282 {x0 : Nat} {x1 : Nat} {x2 : Nat} (h0 : (x0 = (x2 + (5 : Nat)))) : ((3 : Nat) < (x0 + x1)) := by lia
theorem z283 {x0 : Nat} {x1 : Nat} {x2 : Nat} (h0 : (x0 = (x2 + (5 : Nat)))) (h1 : (x1 < (3 : Nat))) : (¬ ((((x0 - (1 : Nat)) - x1) - (1 : Nat)) = (0 : Nat))) := by subst h0; intro e; have := Nat.lt_of_le_of_lt (Nat.le_of_sub_eq_zero e) (show 1 < x2 + 4 - x1 from Nat.lt_of_lt_of_le (show 1 < x2 + 2 from Nat.lt_of_lt_of_le (by decide) (Nat.le_add_left 2 x2)) (Nat.sub_le_sub_left (Nat.le_of_lt_succ h1) (x2 + 4))); exact absurd this (Nat.lt_irrefl _)
theorem z284 {x0 : Nat} (h0 : (x0 < (3 : Nat))) : (¬ ((x0 + (1 : Nat)) ≥ (7 : Nat))) := by lia
end Mine
end

section
open PySem PySem.W PyProof.Rows
set_option maxRecDepth 100000
namespace Mine

noncomputable abbrev KK (w : World) : Frag := HK w.params

/-! partial heaps, facts about objects -/
noncomputable abbrev PM := Addr → Option Obj
noncomputable def Le (p q : PM) : Prop := ∀ a o, p a = some o → q a = some o
theorem Le.refl (p : PM) : Le p p := fun _ _ e => e
theorem Le.trans {p q r : PM} (x : Le p q) (y : Le q r) : Le p r := fun a o e => y a o (x a o e)
noncomputable def At (p : PM) (a : Addr) (P : Obj → Prop) : Prop := ∃ o, p a = some o ∧ P o
theorem At.le {p q : PM} {a : Addr} {P : Obj → Prop} (x : At p a P) (k : Le p q) : At q a P := let ⟨o, e, r⟩ := x; ⟨o, k _ _ e, r⟩
noncomputable abbrev lstP (vs : List Value) : Obj → Prop := fun o => ∃ k, o = { cls := .type "list", data := .seq vs.toArray k }
noncomputable abbrev wlsP (vs : List Value) : Obj → Prop := fun o => o.cls = .type "list" ∧ ∃ k, o.data = .seq vs.toArray k
noncomputable abbrev tupP (vs : List Value) : Obj → Prop := fun o => o.cls = .type "tuple" ∧ ∃ k, o.data = .seq vs.toArray k
noncomputable abbrev Lst (p : PM) (a : Addr) (vs : List Value) : Prop := At p a (lstP vs)
noncomputable abbrev Tup (p : PM) (a : Addr) (vs : List Value) : Prop := At p a (tupP vs)
noncomputable abbrev Wls (p : PM) (a : Addr) (vs : List Value) : Prop := At p a (wlsP vs)
theorem Lst.plain {h : Heap} {a : Addr} {vs : List Value} (x : Lst h.get? a vs) : h.PlainList a vs.toArray := let ⟨_, e, k, r⟩ := x; ⟨k, r ▸ e⟩
theorem Lst.of {h : Heap} {a : Addr} {vs : List Value} (x : h.PlainList a vs.toArray) : Lst h.get? a vs := let ⟨k, e⟩ := x; ⟨_, e, k, rfl⟩
theorem Lst.w {p : PM} {a : Addr} {vs : List Value} (x : Lst p a vs) : Wls p a vs := let ⟨_, e, k, r⟩ := x; ⟨_, e, by rw [r], k, by rw [r]⟩
theorem Wls.isList {h : Heap} {a : Addr} {vs : List Value} (x : Wls h.get? a vs) : h.IsList a vs.toArray := x
theorem Lst.isList {h : Heap} {a : Addr} {vs : List Value} (x : Lst h.get? a vs) : h.IsList a vs.toArray := x.w
theorem Tup.isTup {h : Heap} {a : Addr} {vs : List Value} (x : Tup h.get? a vs) : IsTup h a vs.toArray := x

noncomputable abbrev Fs := List (Addr × (Obj → Prop))
structure St (g n : PM) (h : Heap) (L : Addr) (m : Str → Option Value) (fs : Fs) : Prop where
  ns : h.Ns L m
  kg : Le g h.get?
  kn : Le n h.get?
  gL : g L = none
  nL : n L = none
  dj : ∀ a o, n a = some o → g a = none
  fx : ∀ p ∈ fs, At h.get? p.1 p.2 ∧ p.1 ≠ L ∧ g p.1 = none ∧ n p.1 = none
  nd : (fs.map (·.1)).Nodup

noncomputable def up (m : Str → Option Value) (x : Str) (v : Value) : Str → Option Value := fun y => if y = x then some v else m y
noncomputable def ups : List (Str × Value) → (Str → Option Value) → Str → Option Value
  | [], m => m
  | (x, v) :: r, m => up (ups r m) x v
theorem ups_self {m : Str → Option Value} : ∀ {l : List (Str × Value)}, (∀ p ∈ l, m p.1 = some p.2) → ups l m = m
  | [], _ => rfl
  | (x, v) :: r, k => by
    funext y
    show (if y = x then some v else ups r m y) = m y
    rw [ups_self (l := r) fun q hq => k q (.tail _ hq)]
    by_cases e : y = x
    · rw [if_pos e, e]; exact (k (x, v) (.head _)).symm
    · rw [if_neg e]

section
variable {g g' n n' : PM} {h h' : Heap} {L a d : Addr} {m m' : Str → Option Value} {fs fs' : Fs} {P P' : Obj → Prop} {o : Obj}

theorem St.store (S : St g n h L m fs) (hn : h'.Ns L m') (hs : Heap.SameBut L h h') : St g n h' L m' fs where
  ns := hn
  kg := fun b o e => (hs.2 b (fun q => by rw [q, S.gL] at e; cases e)).trans (S.kg b o e)
  kn := fun b o e => (hs.2 b (fun q => by rw [q, S.nL] at e; cases e)).trans (S.kn b o e)
  gL := S.gL
  nL := S.nL
  dj := S.dj
  fx := fun p hp => let ⟨⟨o, e, r⟩, k⟩ := S.fx p hp; ⟨⟨o, (hs.2 _ k.1).trans e, r⟩, k⟩
  nd := S.nd

theorem St.ext (S : St g n h L m fs) (k : Le h.get? h'.get?) : St g n h' L m fs where
  ns := S.ns.keeps k
  kg := S.kg.trans k
  kn := S.kn.trans k
  gL := S.gL
  nL := S.nL
  dj := S.dj
  fx := fun p hp => ⟨(S.fx p hp).1.le k, (S.fx p hp).2⟩
  nd := S.nd

theorem Le.push (h : Heap) (o : Obj) : Le h.get? (h.push o).get? := fun _ _ e => Heap.get?_push_of_some _ e

theorem fresh_size (h : Heap) : h.get? h.objs.size = none := by
  cases e : h.get? h.objs.size with
  | none => rfl
  | some o => exact absurd (Heap.lt_size e) (Nat.lt_irrefl _)
theorem St.gno (S : St g n h L m fs) (k : h.get? a = none) : g a = none := by
  cases e : g a with
  | none => rfl
  | some o => rw [S.kg a o e] at k; cases k
theorem St.nno (S : St g n h L m fs) (k : h.get? a = none) : n a = none := by
  cases e : n a with
  | none => rfl
  | some o => rw [S.kn a o e] at k; cases k
theorem St.Lin (S : St g n h L m fs) : ∃ o, h.get? L = some o := let ⟨o, _, _, e, _⟩ := S.ns; ⟨o, e⟩

/-- a new object that the frame owns -/
theorem St.own (S : St g n h L m fs) (ha : h.get? a = none) (k : Le h.get? h'.get?) (x : At h'.get? a P) : St g n h' L m ((a, P) :: fs) :=
  have S' := S.ext k
  { S' with
    fx := fun p hp => by
      rcases List.mem_cons.mp hp with rfl | hp
      · exact ⟨x, (fun q => by obtain ⟨o, e⟩ := S.Lin; rw [← q, ha] at e; cases e), S.gno ha, S.nno ha⟩
      · exact S'.fx p hp
    nd := by
      rw [List.map_cons, List.nodup_cons]
      refine ⟨fun q => ?_, S.nd⟩
      obtain ⟨p, hp, e⟩ := List.mem_map.mp q
      obtain ⟨o, e', _⟩ := (S.fx p hp).1
      rw [e, ha] at e'; cases e' }

theorem St.sub (S : St g n h L m fs) (k : fs'.Sublist fs) : St g n h L m fs' :=
  { S with fx := fun p hp => S.fx p (k.subset hp), nd := (k.map _).nodup S.nd }
theorem St.perm (S : St g n h L m fs) (k : fs'.Perm fs) : St g n h L m fs' :=
  { S with fx := fun p hp => S.fx p (k.subset hp), nd := (k.map (·.1)).nodup_iff.mpr S.nd }

/-- what a call leaves behind: the heap kept, new immutable objects -/
structure Ext (h h' : Heap) (N : PM) : Prop where
  k : Le h.get? h'.get?
  kN : Le N h'.get?
  fr : ∀ a o, N a = some o → h.get? a = none
theorem St.out (S : St h.get? n h' L m fs) : Ext h h' n := ⟨S.kg, S.kn, S.dj⟩
/-- new immutable facts join n -/
theorem St.absorb (S : St g n h L m fs) {N : PM} (X : Ext h h' N) : ∃ n', Le n n' ∧ Le N n' ∧ St g n' h' L m fs := by
  classical
  obtain ⟨k, kN, fr⟩ := X
  refine ⟨fun b => (n b).or (N b), fun b o e => by simp [e], fun b o e => ?_, ?_⟩
  · have : n b = none := S.nno (fr b o e)
    simp [this, e]
  · have S' := S.ext k
    refine { S' with kn := fun b o e => ?_, nL := ?_, dj := fun b o e => ?_, fx := fun p hp => ?_ }
    · dsimp only at e
      cases q : n b with
      | some x => rw [q] at e; cases e; exact S'.kn b _ q
      | none => rw [q] at e; exact kN b o e
    · have : N L = none := by
        cases q : N L with
        | none => rfl
        | some x =>
          obtain ⟨o, e⟩ := S.Lin
          rw [fr L x q] at e; cases e
      simp [S.nL, this]
    · cases q : n b with
      | some x => exact S.dj b x q
      | none => rw [q] at e; exact S.gno (fr b o e)
    · have : N p.1 = none := by
        cases q : N p.1 with
        | none => rfl
        | some x =>
          obtain ⟨o, e, _⟩ := (S.fx p hp).1
          rw [fr _ x q] at e; cases e
      have z := S'.fx p hp
      exact ⟨z.1, z.2.1, z.2.2.1, by simp [z.2.2.2, this]⟩

/-- an owned object is frozen -/
theorem St.freeze (S : St g n h L m ((a, P) :: fs)) : ∃ n', Le n n' ∧ At n' a P ∧ St g n' h L m fs := by
  classical
  obtain ⟨⟨o, ho, hP⟩, hL, hg, hn⟩ := S.fx (a, P) (.head _)
  have hnd := S.nd
  rw [List.map_cons, List.nodup_cons] at hnd
  refine ⟨fun b => if b = a then some o else n b, fun b x e => ?_, ⟨o, by simp, hP⟩, ?_⟩
  · by_cases q : b = a
    · subst q; rw [hn] at e; cases e
    · simp [q, e]
  · refine { S with kn := fun b x e => ?_, nL := ?_, dj := fun b x e => ?_, fx := fun p hp => ?_, nd := hnd.2 }
    · by_cases q : b = a
      · subst q; simp at e; subst e; exact ho
      · simp [q] at e; exact S.kn b x e
    · have : L ≠ a := fun q => hL q.symm
      simp [this, S.nL]
    · by_cases q : b = a
      · subst q; exact hg
      · simp [q] at e; exact S.dj b x e
    · have z := S.fx p (.tail _ hp)
      have : p.1 ≠ a := fun q => hnd.1 (List.mem_map.mpr ⟨p, hp, q⟩)
      exact ⟨z.1, z.2.1, z.2.2.1, by simp [this, z.2.2.2]⟩

theorem St.absorb' (S : St g n h L m fs) {N : PM} (X : Ext h h' N) {p : Prop} (k : ∀ n', Le n n' → Le N n' → St g n' h' L m fs → p) : p := let ⟨n', a, b, c⟩ := S.absorb X; k n' a b c
theorem St.freeze' (S : St g n h L m ((a, P) :: fs)) {p : Prop} (k : ∀ n', Le n n' → At n' a P → St g n' h L m fs → p) : p := let ⟨n', a, b, c⟩ := S.freeze; k n' a b c

inductive Rep (d : Addr) (P P' : Obj → Prop) : Fs → Fs → Prop
  | head {r} : Rep d P P' ((d, P) :: r) ((d, P') :: r)
  | tail {p r r'} : Rep d P P' r r' → Rep d P P' (p :: r) (p :: r')
theorem Rep.mem {d : Addr} {P P' : Obj → Prop} : ∀ {fs fs' : Fs}, Rep d P P' fs fs' → (d, P) ∈ fs
  | _, _, .head => .head _
  | _, _, .tail k => .tail _ k.mem
theorem Rep.keys {d : Addr} {P P' : Obj → Prop} : ∀ {fs fs' : Fs}, Rep d P P' fs fs' → fs'.map (·.1) = fs.map (·.1)
  | _, _, .head => rfl
  | _, _, .tail k => by rw [List.map_cons, List.map_cons, k.keys]
theorem Rep.cases {d : Addr} {P P' : Obj → Prop} : ∀ {fs fs' : Fs}, Rep d P P' fs fs' → (fs.map (·.1)).Nodup → ∀ p ∈ fs', p = (d, P') ∨ (p ∈ fs ∧ p.1 ≠ d)
  | _, _, .head (r := r), nd, p, hp => by
    rw [List.map_cons, List.nodup_cons] at nd
    rcases List.mem_cons.mp hp with e | e
    · exact .inl e
    · exact .inr ⟨.tail _ e, fun q => nd.1 (List.mem_map.mpr ⟨p, e, q⟩)⟩
  | _, _, .tail (p := q) (r := r) k, nd, p, hp => by
    rw [List.map_cons, List.nodup_cons] at nd
    rcases List.mem_cons.mp hp with e | e
    · exact .inr ⟨e ▸ .head _, fun z => nd.1 (by rw [← e, z]; exact List.mem_map.mpr ⟨_, k.mem, rfl⟩)⟩
    · rcases k.cases nd.2 p e with z | z
      · exact .inl z
      · exact .inr ⟨.tail _ z.1, z.2⟩

/-- an owned object is changed -/
theorem St.change (S : St g n h L m fs) (k : Rep d P P' fs fs') (x : At h'.get? d P') (hs : Heap.SameBut d h h') : St g n h' L m fs' := by
  have D := S.fx _ k.mem
  refine ⟨S.ns.sameBut hs (Ne.symm D.2.1), fun b o e => (hs.2 b fun q => ?_).trans (S.kg b o e), fun b o e => (hs.2 b fun q => ?_).trans (S.kn b o e), S.gL, S.nL, S.dj, fun p hp => ?_, by rw [k.keys]; exact S.nd⟩
  · have := D.2.2.1; rw [q] at e; rw [e] at this; cases this
  · have := D.2.2.2; rw [q] at e; rw [e] at this; cases this
  · rcases k.cases S.nd p hp with e | e
    · subst e; exact ⟨x, D.2⟩
    · obtain ⟨⟨o, e1, e2⟩, z⟩ := S.fx p e.1
      exact ⟨⟨o, (hs.2 _ e.2).trans e1, e2⟩, z⟩

theorem St.gAt (S : St g n h L m fs) (x : At g a P) : At h.get? a P := x.le S.kg
theorem St.nAt (S : St g n h L m fs) (x : At n a P) : At h.get? a P := x.le S.kn
theorem St.fAt (S : St g n h L m fs) (x : (a, P) ∈ fs) : At h.get? a P := (S.fx _ x).1

/-- more is held still (for a loop's turn), and let go again -/
theorem St.hold (S : St g n h L m fs) {q : PM} (kq : Le q h.get?) (qL : q L = none) (qn : ∀ a o, q a = some o → n a = none) (qf : ∀ p ∈ fs, q p.1 = none) :
    St (fun b => (g b).or (q b)) n h L m fs :=
  { S with
    kg := fun b o e => by
      dsimp only at e
      cases z : g b with
      | some x => rw [z] at e; cases e; exact S.kg b _ z
      | none => rw [z] at e; exact kq b o e
    gL := by simp [S.gL, qL]
    dj := fun b o e => by
      have h1 := S.dj b o e
      have h2 : q b = none := by
        cases z : q b with
        | none => rfl
        | some x => rw [qn b x z] at e; cases e
      simp [h1, h2]
    fx := fun p hp => let z := S.fx p hp; ⟨z.1, z.2.1, by simp [z.2.2.1, qf p hp], z.2.2.2⟩ }
theorem St.less (S : St g' n h L m fs) (k : Le g g') : St g n h L m fs :=
  { S with
    kg := k.trans S.kg
    gL := by cases z : g L with
      | none => rfl
      | some o => have := S.gL; rw [k _ _ z] at this; cases this
    dj := fun b o e => by
      have h1 := S.dj b o e
      cases z : g b with
      | none => rfl
      | some o => rw [k _ _ z] at h1; cases h1
    fx := fun p hp => let z := S.fx p hp; ⟨z.1, z.2.1, (by
      cases y : g p.1 with
      | none => rfl
      | some o => have := z.2.2.1; rw [k _ _ y] at this; cases this), z.2.2.2⟩ }
end

/-! the state -/
noncomputable abbrev mkS (s : Shared) (h : Heap) (tk : Nat) : Shared := { s with heap := h, toks := tk }

/-! the ground: what the text's top has laid -/
noncomputable def NsP (g : PM) (a : Addr) (m : Str → Option Value) : Prop := ∃ o es ep, g a = some o ∧ o.data = .dict es ep ∧ StrKeys es ∧ ∀ name, nsFind es name = m name
theorem NsP.le {p q : PM} {a : Addr} {m : Str → Option Value} (x : NsP p a m) (k : Le p q) : NsP q a m := let ⟨o, es, ep, e, r⟩ := x; ⟨o, es, ep, k _ _ e, r⟩
structure Gn (w : World) (g : PM) : Prop where
  kin : ∀ a o, (KK w).lookup a = some o → g a = some o
  glob : ∃ mg : Str → Option Value, NsP g mainGlobals mg
  bns : ∃ mb : Str → Option Value, NsP g builtinsNs mb ∧ ∀ x : Str, x ≠ "__name__" → mb x = bootBuiltins x
  lim : ∃ mc : Str → Option Value, NsP g cStatics mc ∧ mc "sys.recursionlimit" = none
theorem Gn.le {w : World} {p q : PM} (G : Gn w p) (k : Le p q) : Gn w q where
  kin := fun a o e => k _ _ (G.kin a o e)
  glob := let ⟨mg, x⟩ := G.glob; ⟨mg, x.le k⟩
  bns := let ⟨mb, x, r⟩ := G.bns; ⟨mb, x.le k, r⟩
  lim := let ⟨mc, x, r⟩ := G.lim; ⟨mc, x.le k, r⟩
theorem Gn.of_top {w : World} {p : Program} {loose : List Str} {mean : ExcName → Option Value} {mg mb : Str → Option Value} {h : Heap} (X : (KK w).In h) (T : Top p loose mean mg mb h) : Gn w h.get? where
  kin := X
  glob := ⟨mg, T.g⟩
  bns := ⟨mb, T.b, T.builtins⟩
  lim := T.nolimit
theorem Gn.in {w : World} {h : Heap} (G : Gn w h.get?) : (KK w).In h := G.kin
theorem Gn.nolimit {w : World} {h : Heap} (G : Gn w h.get?) : h.NoLimit := G.lim
theorem St.gn {w : World} {g n : PM} {h : Heap} {L : Addr} {m : Str → Option Value} {fs : Fs} (S : St g n h L m fs) (G : Gn w g) : Gn w h.get? := G.le S.kg
end Mine
end

section
open PySem PySem.W PyProof.Rows
set_option maxRecDepth 100000
namespace Mine

/-! what is wanted behind a statement, in few words -/
noncomputable def fx (F : Shared → Prop) (Q : Flow → Shared → Prop) (f : Flow) (s₂ : Shared) : Prop :=
  match f with
  | .ret v => Q (.ret v) s₂
  | .brk => Q .next s₂
  | _ => F s₂
noncomputable def nx (R : Shared → Prop) (P : Flow → Shared → Prop) (f : Flow) (s₂ : Shared) : Prop :=
  match f with
  | .next => R s₂
  | f => P f s₂
noncomputable def rx (Q : Value → Shared → Prop) (f : Flow) (s₂ : Shared) : Prop := Q (match f with | .ret v => v | _ => .none) s₂

section
variable {M : Model} {A : Around} {E : Value → Shared → Prop} {s : Shared} {env : Env} {P : Flow → Shared → Prop} {rest : List Stmt}
theorem x_st {st : Stmt} (h : ∀ R : Shared → Prop, (∀ s', wpAny M A (execs rest env) P E s' → R s') → wpAny M A (exec st env) (nx R P) E s) : wpAny M A (execs (st :: rest) env) P E s := by
  refine wpAny_execs_cons (wpAny_mono (h _ fun _ x => x) (fun f s' x => ?_) fun _ _ x => x)
  cases f <;> exact x
theorem x_cut {st : Stmt} (J : Shared → Prop) (h₁ : ∀ R : Shared → Prop, (∀ s', J s' → R s') → wpAny M A (exec st env) (nx R P) E s) (h₂ : ∀ s', J s' → wpAny M A (execs rest env) P E s') : wpAny M A (execs (st :: rest) env) P E s :=
  x_st fun R r => h₁ R fun s' j => r s' (h₂ s' j)
theorem x_set {x : Str} {p₁ pos : Pos} {e : Expr} (h : ∀ N : Value → Shared → Prop, (∀ v s', wpAny M A (storeName env x v) (fun _ s'' => wpAny M A (execs rest env) P E s'') E s' → N v s') → wpAny M A (eval e env) N E s)
    (hs : swapsWith e (some (.Name x p₁)) pos.line env = pure false := by rfl) : wpAny M A (execs (.Assign [.Name x p₁] e pos :: rest) env) P E s :=
  wpAny_execs_cons (wpAny_Assign_Name (h _ fun _ _ x => x) hs)
theorem x_aug {x : Str} {p₁ pos : Pos} {op : Operator} {e : Expr} (h : ∀ N : Value → Shared → Prop, (∀ v s', wpAny M A (storeName env x v) (fun _ s'' => wpAny M A (execs rest env) P E s'') E s' → N v s') →
    wpAny M A (loadName env x) (fun old s₁ => wpAny M A (eval e env) (fun v s₂ => wpAny M A (inplaceOp op old v) N E s₂) E s₁) E s) : wpAny M A (execs (.AugAssign (.Name x p₁) op e pos :: rest) env) P E s :=
  wpAny_execs_cons (wpAny_AugAssign_Name (h _ fun _ _ x => x))
theorem x_ret {pos : Pos} {e : Expr} (h : ∀ N : Value → Shared → Prop, (∀ v s', P (.ret v) s' → N v s') → wpAny M A (eval e env) N E s) : wpAny M A (execs (.Return (some e) pos :: rest) env) P E s :=
  wpAny_execs_cons (wpAny_Return_some (h _ fun _ _ x => x))
theorem x_if {test : Expr} {body orelse : List Stmt} {pos : Pos}
    (h : ∀ R : Shared → Prop, (∀ s', wpAny M A (execs rest env) P E s' → R s') → ∀ N : Bool → Shared → Prop, (∀ b s', (if b = true then wpAny M A (execs body env) (nx R P) E s' else wpAny M A (execs orelse env) (nx R P) E s') → N b s') →
      wpAny M A (isTrue test env (eval test env)) N E s) : wpAny M A (execs (.If test body orelse pos :: rest) env) P E s :=
  x_st fun R r => wpAny_If (h R r _ fun _ _ x => x)
theorem x_ifc {test : Expr} {body orelse : List Stmt} {pos : Pos}
    (h : ∀ N : Bool → Shared → Prop, (∀ b s', (if b = true then wpAny M A (execs body env) P E s' else wpAny M A (execs orelse env) P E s') → N b s') → wpAny M A (isTrue test env (eval test env)) N E s) : wpAny M A (exec (.If test body orelse pos) env) P E s :=
  wpAny_If (h _ fun _ _ x => x)
theorem x_for {target iter : Expr} {body : List Stmt} {pos : Pos}
    (h : ∀ R : Shared → Prop, (∀ s', wpAny M A (execs rest env) P E s' → R s') → ∀ N : Value → Shared → Prop, (∀ it s₂, codeAny M A (.forLoop target it body [] env) (fun r s' => match r with | .ok f => nx R P f s' | .error e => cameBackBy M A env E e s') s₂ → N it s₂) →
      wpAny M A (eval iter env) (fun x s₁ => wpAny M A (pyIter x) N E s₁) E s)
    (hs : ∀ x, foldedSetIterable iter env x = pure x := by intro _; rfl) : wpAny M A (execs (.For target iter body [] pos :: rest) env) P E s :=
  x_st fun R r => wpAny_For (h R r _ fun _ _ x => x) hs
end

section
variable {M : Model} {prog : Program} {w : World} {A : Around} {E : Value → Shared → Prop} {s : Shared} {env : Env} {g n : PM} {h : Heap} {tk : Nat} {m : Str → Option Value} {fs : Fs}

theorem r_name {x : Str} {pos : Pos} {v : Value} {Q : Value → Shared → Prop} {L : Addr} (S : St g n h L m fs) (hv : m x = some v) (hQ : Q v (mkS s h tk))
    (hL : env.locals = L := by rfl) (hk : env.scope.kind = .function := by rfl) (hl : env.kindOf x = some .local := by rfl) (hd : (x == ("__debug__" : Str)) = false := by decide) :
    wpAny M A (eval (.Name x pos) env) Q E (mkS s h tk) := by subst hL; exact wpAny_Name (wpAny_loadName_local hk hl S.ns hv hQ) hd
theorem r_glob {x : Str} {pos : Pos} {v : Value} {Q : Value → Shared → Prop} (G : Gn w h.get?) (e : nsIn (KK w) mainGlobals x = some (some v)) (hQ : Q v (mkS s h tk))
    (hg : env.globals = mainGlobals := by rfl) (hk : env.scope.kind = .function := by rfl) (hx : env.kindOf x = some .globalImplicit := by rfl) (hd : (x == ("__debug__" : Str)) = false := by decide) :
    wpAny M A (eval (.Name x pos) env) Q E (mkS s h tk) := by
  obtain ⟨mg, hm⟩ := G.glob
  exact Calls.Name_function_global hk hx (Calls.loadGlobal_global (env := env) (mg := mg) (by rw [hg]; exact hm) (mg_of G.in hm e) hQ) hd
theorem r_bi {x : Str} {pos : Pos} {v : Value} {Q : Value → Shared → Prop} (G : Gn w h.get?) (e : nsIn (KK w) mainGlobals x = some none) (hv : bootBuiltins x = some v) (hQ : Q v (mkS s h tk))
    (hn : x ≠ "__name__" := by decide) (hg : env.globals = mainGlobals := by rfl) (hb : env.builtins = builtinsNs := by rfl) (hk : env.scope.kind = .function := by rfl) (hx : env.kindOf x = some .globalImplicit := by rfl) (hd : (x == ("__debug__" : Str)) = false := by decide) :
    wpAny M A (eval (.Name x pos) env) Q E (mkS s h tk) := by
  obtain ⟨mg, hm⟩ := G.glob
  obtain ⟨mb, hmb, hmv⟩ := G.bns
  exact Calls.Name_function_global hk hx (Calls.loadGlobal_builtin (env := env) (mg := mg) (mb := mb) (by rw [hg]; exact hm) (mg_none_of G.in hm e) (by rw [hb]; exact hmb) ((hmv x hn).trans hv) hQ) hd
theorem r_int {i : Int} {k : Nat} {pos : Pos} {Q : Value → Shared → Prop} (hQ : ∀ t tk', Q (.int i t) (mkS s h tk')) : wpAny M A (eval (.Constant (.int i) k pos) env) Q E (mkS s h tk) := wpAny_Constant_int (hQ _ _)
theorem r_str {x : Str} {k : Nat} {pos : Pos} {Q : Value → Shared → Prop} (hQ : ∀ t tk', Q (.str x t) (mkS s h tk')) : wpAny M A (eval (.Constant (.str x) k pos) env) Q E (mkS s h tk) := wpAny_Constant_str (hQ _ _)
theorem r_neg {i : Int} {k : Nat} {p₁ p₂ : Pos} {Q : Value → Shared → Prop} (hQ : ∀ t tk', Q (.int (-i) t) (mkS s h tk')) : wpAny (model prog w) A (eval (.UnaryOp .USub (.Constant (.int i) k p₁) p₂) env) Q E (mkS s h tk) :=
  wpAny_UnaryOp (wpAny_Constant_int (neg_int (hQ _ _)))
theorem r_add {a b : Int} {t u : Tok} {Q : Value → Shared → Prop} (hQ : ∀ t tk', Q (.int (a + b) t) (mkS s h tk')) : wpAny (model prog w) A (binaryOp .Add (.int a t) (.int b u)) Q E (mkS s h tk) := add_int (hQ _ _)
theorem r_iadd {a b : Int} {t u : Tok} {Q : Value → Shared → Prop} (hQ : ∀ t tk', Q (.int (a + b) t) (mkS s h tk')) : wpAny (model prog w) A (inplaceOp .Add (.int a t) (.int b u)) Q E (mkS s h tk) := iadd_int (hQ _ _)
theorem r_sub {a b : Int} {t u : Tok} {Q : Value → Shared → Prop} (hQ : ∀ t tk', Q (.int (a - b) t) (mkS s h tk')) : wpAny (model prog w) A (binaryOp .Sub (.int a t) (.int b u)) Q E (mkS s h tk) := sub_int (hQ _ _)
theorem r_store {L : Addr} {x : Str} {v : Value} {Q : Unit → Shared → Prop} (S : St g n h L m fs) (hQ : ∀ h' tk', St g n h' L (up m x v) fs → Q () (mkS s h' tk'))
    (hL : env.locals = L := by rfl) (hk : env.scope.kind = .function := by rfl) (hl : env.kindOf x = some .local := by rfl) : wpAny M A (storeName env x v) Q E (mkS s h tk) := by
  subst hL
  exact wpAny_storeName_local hl S.ns (fun h' hn hs => hQ h' _ (S.store hn hs)) (by rw [hk]; rfl)
/-- an item of a list -/
theorem r_item {value slice : Expr} {a : Addr} {vs : List Value} {k : Int} {u : Tok} {v : Value} {Q : Value → Shared → Prop} (hl : Wls h.get? a vs) (h0 : 0 ≤ k) (hx : vs[k.toNat]? = some v) (hQ : Q v (mkS s h tk))
    (hb : k < 2 ^ 63 := by omega)
    (hs : subscripted slice false (.ref a) (.int k u) = operate [.ref a, .int k u] (getItem (.ref a) (.int k u)) := by with_unfolding_all rfl) :
    wpAny (model prog w) A (subscriptTail value slice (.ref a) (.int k u)) Q E (mkS s h tk) :=
  have hl' : Heap.IsList (mkS s h tk).heap a vs.toArray := hl
  tail_any hl'.typeIs slot_list_getitem.lookup (wpAny_getItem_list hl' h0 hb (by simpa using hx) hQ) hs
theorem r_len {a : Addr} {vs : List Value} {Q : Value → Shared → Prop} (hl : Wls h.get? a vs) (hb : (vs.length : Int) < 2 ^ 63) (hQ : ∀ t tk', Q (.int vs.length t) (mkS s h tk')) :
    wpAny (model prog w) A (call (.builtin "len") [.ref a]) Q E (mkS s h tk) := by
  have hl' : Heap.IsList (mkS s h tk).heap a vs.toArray := hl
  refine len_list hl' (by simpa using hb) ?_
  have := hQ (tk + 1) (tk + 1 + 1)
  simpa using this

/-- a call of a def of the text's -/
theorem enter {Q : Value → Shared → Prop} {f : Addr} {oc : Value} {od an : Option Addr} {osl : Array (Option Value)} {name qual : Str} {params : Arguments} {body : List Stmt} {scope : Scope} {dV kV doc pm cdv ct : Value} {args : List Value} (binds : List (Str × Value))
    (G : Gn w h.get?) (ho : (KK w).lookup f = some ⟨oc, od, .func (fnOf name qual params body scope dV kV doc pm an cdv ct), osl⟩) (hcd : codeIn (KK w) cdv qual = true) (hroom : A.depth < recursionLimit)
    (hbind : bindArgs (fnOf name qual params body scope dV kV doc pm an cdv ct) ⟨args, []⟩ = pure binds) (hloc : (binds.all fun x => decide (scope.names.lookup x.1 = some .local)) = true)
    (hcell : (scope.names.all fun x => x.2 != .cell) = true)
    (hw : ∀ L h' tk', St h.get? (fun _ => none) h' L (fun y => binds.reverse.lookup y) [] →
      wpAny (model prog w) (A.deeper (envOf qual scope L f cdv)) (execs body (envOf qual scope L f cdv)) (rx Q) (fun _ _ => False) (mkS s h' tk'))
    (hco : scope.isCoroutine = false := by rfl) (hgen : scope.isGenerator = false := by rfl) (hk : scope.kind = .function := by rfl) :
    wpAny (model prog w) A (call (.ref f) args) Q E (mkS s h tk) := by
  refine wpAny_call (codeAny_call_def (fd := fnOf name qual params body scope dV kV doc pm an cdv ct) (body := body) (binds := binds) hroom (G.kin _ _ ho) rfl G.nolimit (codeRec_of G.in hcd) rfl (BindsTo.of_eq hbind)
    (fun x hx => by simpa using List.all_eq_true.mp hcell x hx) (locs hloc) (fun h₁ hns hk₁ => ?_) hco hgen hk)
  refine wpAny_mono (hw h.objs.size h₁ (tk + binds.length) ⟨hns, hk₁, (fun _ _ e => nomatch e), fresh_size h, rfl, (fun _ _ e => nomatch e), (fun _ hp => nomatch hp), .nil⟩) (fun fl s' q => ?_) fun _ _ e => e.elim
  cases fl <;> exact q

/-- a built-in function of one place -/
theorem r_cbi1 {fn : Str} {id : String} {e : Expr} {np pos : Pos} {Q : Value → Shared → Prop} (G : Gn w h.get?) (hn : nsIn (KK w) mainGlobals fn = some none) (hv : bootBuiltins fn = some (.builtin id))
    (hQ : wpAny M A (eval e env) (fun v s₁ => wpAny M A (call (.builtin id) [v]) Q E s₁) E (mkS s h tk))
    (hx : env.kindOf fn = some .globalImplicit := by rfl) (he : starEach [e] env = (false, eval e env) :: starEach [] env := by rfl)
    (hm : fn ≠ "__name__" := by decide) (hg : env.globals = mainGlobals := by rfl) (hb : env.builtins = builtinsNs := by rfl) (hk : env.scope.kind = .function := by rfl) (hd : (fn == ("__debug__" : Str)) = false := by decide) :
    wpAny M A (eval (.Call (.Name fn np) [e] [] pos) env) Q E (mkS s h tk) := by
  refine Call_ (r_bi G hn hv ?_ hm hg hb hk hx hd)
  refine PyProof.Rows.callWith_builtin1 (spliced_more (wpAny_mono hQ (fun v s₁ h₁ => Calls.spliced_nil h₁) fun _ _ e => e) he) he
/-- a def of the text's -/
theorem r_cdef {fn : Str} {f : Addr} {e : Expr} {rest : List Expr} {np pos : Pos} {Q : Value → Shared → Prop} (G : Gn w h.get?) (hn : nsIn (KK w) mainGlobals fn = some (some (.ref f))) (hf : keepIn (KK w) (.ref f) = true)
    (hQ : wpAny M A (spliced (backTo pos (starEach (e :: rest) env))) (fun vs s₁ => (KK w).In s₁.heap ∧ wpAny M A (call (.ref f) vs) Q E s₁) E (mkS s h tk))
    (hx : env.kindOf fn = some .globalImplicit := by rfl) (he : starEach (e :: rest) env = (false, eval e env) :: starEach rest env := by rfl) (hplain : (backTo pos (starEach rest env)).any (·.1) = false := by rfl)
    (hg : env.globals = mainGlobals := by rfl) (hk : env.scope.kind = .function := by rfl) (hd : (fn == ("__debug__" : Str)) = false := by decide) :
    wpAny M A (eval (.Call (.Name fn np) (e :: rest) [] pos) env) Q E (mkS s h tk) := by
  refine Call_ (r_glob G hn ?_ hg hk hx hd)
  exact callWith_K (h₀ := h) G.in hf hQ he hplain
theorem r_spl {Q : List Value → Shared → Prop} {e : Expr} {rest : List Expr} {pos : Pos}
    (h₁ : wpAny M A (eval e env) (fun v s₁ => wpAny M A (spliced (backTo pos (starEach rest env))) (fun vs s₂ => Q (v :: vs) s₂) E s₁) E s)
    (he : starEach (e :: rest) env = (false, eval e env) :: starEach rest env := by rfl) : wpAny M A (spliced (backTo pos (starEach (e :: rest) env))) Q E s := spliced_more h₁ he
theorem r_spl0 {Q : List Value → Shared → Prop} {pos : Pos} (h₁ : Q [] s) : wpAny M A (spliced (backTo pos (starEach [] env))) Q E s := Calls.spliced_nil h₁
/-- a method of a list's -/
theorem r_lmeth {a : Addr} {vs : List Value} {name : Str} {id : String} {pl : Sem Bool} {Q : Value × List Value → Shared → Prop} (hl : Lst h.get? a vs) (slot : Slot "list" name id) (hty : typeOf (.builtin id) = pure (.type "method_descriptor"))
    (hQ : Q (.builtin id, [.ref a]) (mkS s h tk)) : wpAny (model prog w) A (getMethod (.ref a) name pl) Q E (mkS s h tk) := by
  obtain ⟨o, ho, k, rfl⟩ := hl
  exact getMethod_builtin ⟨_, ho, rfl⟩ PySem.F.plainAttrs_list slot hty (fun b e => by cases e; exact ⟨_, ho, rfl⟩) hQ
theorem r_append {L d : Addr} {vs : List Value} {x : Value} {fs' : Fs} {Q : Value → Shared → Prop} (S : St g n h L m fs) (R : Rep d (lstP vs) (lstP (vs ++ [x])) fs fs') (hz : vs.length ≤ sizeLine)
    (hQ : ∀ h' tk', St g n h' L m fs' → Q .none (mkS s h' tk')) : wpAny (model prog w) A (call (.builtin "list.append") [.ref d, x]) Q E (mkS s h tk) := by
  have hl : Lst h.get? d vs := S.fAt R.mem
  refine wpAny_list_append_plain (s := mkS s h tk) hl.plain (fun h' hp hs => hQ h' _ (S.change R (Lst.of ?_) hs)) (by simpa using hz)
  simpa using hp
theorem r_newList {L : Addr} {vs : List Value} {Q : Value → Shared → Prop} (S : St g n h L m fs) (hz : vs.length ≤ sizeLine) (hQ : ∀ d h' tk', St g n h' L m ((d, lstP vs) :: fs) → Q (.ref d) (mkS s h' tk')) :
    wpAny M A (newList vs) Q E (mkS s h tk) := by
  refine wpAny_newObj_type (hQ _ _ _ (S.own (fresh_size h) (Le.push _ _) ⟨_, Heap.get?_push_size _ rfl, 0, rfl⟩)) ?_
  show vs.toArray.size ≤ sizeLine
  simpa using hz
theorem r_newTuple {L : Addr} {vs : List Value} {Q : Value → Shared → Prop} (S : St g n h L m fs) (hz : vs.length ≤ sizeLine) (hQ : ∀ d h' tk', St g n h' L m ((d, tupP vs) :: fs) → Q (.ref d) (mkS s h' tk')) :
    wpAny M A (newTuple vs) Q E (mkS s h tk) := by
  refine wpAny_newObj_type (hQ _ _ _ (S.own (fresh_size h) (Le.push _ _) ⟨_, Heap.get?_push_size _ rfl, rfl, 0, rfl⟩)) ?_
  show vs.toArray.size ≤ sizeLine
  simpa using hz

theorem x_while {L : Addr} {test : Expr} {body rest : List Stmt} {pos : Pos} {P : Flow → Shared → Prop} (J : Nat → PM → (Str → Option Value) → Fs → Prop) {k₀ : Nat}
    (S : St g n h L m fs) (hJ : J k₀ n m fs)
    (turn : ∀ R : Shared → Prop, (∀ s', wpAny M A (execs rest env) P E s' → R s') → ∀ k n m fs h tk (F : Shared → Prop) (N : Bool → Shared → Prop), (∀ k' n' m' fs' h' tk', St g n' h' L m' fs' → J k' n' m' fs' → k' < k → F (mkS s h' tk')) →
      (∀ b s', (if b = true then wpAny M A (execs body env) (fx F (nx R P)) E s' else R s') → N b s') → St g n h L m fs → J k n m fs → wpAny M A (isTrue test env (eval test env)) N E (mkS s h tk))
    (hE : PassesOwn M A env E := by passes_own) (hM : ∃ prog w, M = model prog w := by exact ⟨_, _, rfl⟩) :
    wpAny M A (execs (.While test body [] pos :: rest) env) P E (mkS s h tk) := by
  obtain ⟨prog, w, rfl⟩ := hM
  refine x_st fun R r => wpAny_While (codeAny_whileLoop (fun k s' => X5 fun n m fs h tk => N3 (s' = mkS s h tk) (St g n h L m fs) (J k n m fs)) ?_ k₀ ⟨n, m, fs, h, tk, rfl, S, hJ⟩)
  intro k s' hI
  refine hide fun q kq => ?_
  obtain ⟨n, m, fs, h, tk, rfl, S, hJ⟩ := hI
  refine kq (wpAny_mono (turn R r k n m fs h tk (fun s₂ => ∃ k', k' < k ∧ X5 fun n m fs h tk => N3 (s₂ = mkS s h tk) (St g n h L m fs) (J k' n m fs)) _ (fun k' n' m' fs' h' tk' S' J' hk => ⟨k', hk, n', m', fs', h', tk', rfl, S', J'⟩) (fun _ _ x => x) S hJ) (fun b s₂ h₂ => ?_) hE)
  cases b with
  | false =>
    simp only [Bool.false_eq_true, if_false] at h₂ ⊢
    exact wpAny_execs_nil h₂
  | true =>
    simp only [if_true] at h₂ ⊢
    refine wpAny_mono h₂ (fun f s₃ h₃ => ?_) hE
    cases f <;> exact h₃
end
end Mine
end

section
open PySem PySem.W PyProof.Rows
set_option maxRecDepth 100000
namespace Mine
/-- the frame's names at a loop's head -/
noncomputable def Has (m : Str → Option Value) (l : List (Str × Value)) : Prop := ∀ p ∈ l, m p.1 = some p.2
theorem Has.nil {m : Str → Option Value} : Has m [] := fun _ h => nomatch h
theorem Has.cons {m : Str → Option Value} {x : Str} {v : Value} {l : List (Str × Value)} (e : m x = some v) (r : Has m l) : Has m ((x, v) :: l) := fun p hp => by
  rcases List.mem_cons.mp hp with rfl | hp
  · exact e
  · exact r p hp
theorem Has.ups {m : Str → Option Value} {l : List (Str × Value)} (H : Has m l) : Mine.ups l m = m := ups_self H
theorem St.has {g n : PM} {h : Heap} {L : Addr} {m : Str → Option Value} {fs : Fs} {l : List (Str × Value)} (S : St g n h L m fs) (H : Has m l) : St g n h L (ups l m) fs := by rw [H.ups]; exact S

theorem ite_dec {c : Prop} [Decidable c] {p q : Prop} (h1 : c → p) (h2 : ¬ c → q) : if decide c = true then p else q := by
  by_cases hc : c
  · rw [if_pos (by simpa using hc)]; exact h1 hc
  · rw [if_neg (by simpa using hc)]; exact h2 hc
theorem ite_bool {b : Bool} {p q : Prop} (h1 : b = true → p) (h2 : b = false → q) : if b = true then p else q := by
  cases b
  · rw [if_neg Bool.false_ne_true]; exact h2 rfl
  · rw [if_pos rfl]; exact h1 rfl
theorem ite_tt {p q : Prop} (h : p) : if true = true then p else q := by rw [if_pos rfl]; exact h
theorem ite_ff {p q : Prop} (h : q) : if false = true then p else q := by rw [if_neg Bool.false_ne_true]; exact h
theorem r_lname {M : Model} {A : Around} {E : Value → Shared → Prop} {s : Shared} {env : Env} {g n : PM} {h : Heap} {tk : Nat} {m : Str → Option Value} {fs : Fs} {x : Str} {v : Value} {Q : Value → Shared → Prop} {L : Addr} (S : St g n h L m fs) (hv : m x = some v) (hQ : Q v (mkS s h tk))
    (hL : env.locals = L := by rfl) (hk : env.scope.kind = .function := by rfl) (hl : env.kindOf x = some .local := by rfl) :
    wpAny M A (loadName env x) Q E (mkS s h tk) := by subst hL; exact wpAny_loadName_local hk hl S.ns hv hQ
theorem intsAt {vs : List Value} {ns : List Int} (h : IntsAre vs ns) {i : Nat} (hi : i < ns.length) : ∃ t, vs[i]? = some (.int ns[i] t) := by
  obtain ⟨t, e⟩ := h.get i ns[i] (by simp [hi])
  exact ⟨t, e⟩
end Mine
end

section
open PySem PySem.W PyProof.Rows
set_option maxRecDepth 100000
namespace Mine

section
variable {M : Model} {prog : Program} {w : World} {A : Around} {E : Value → Shared → Prop} {s : Shared} {env : Env} {g n : PM} {h h' : Heap} {tk : Nat} {m : Str → Option Value} {fs fs' : Fs} {L I : Addr}

/-- all but I is kept, and I is nobody's -/
theorem St.but (S : St g n h L m fs) (hI : h.get? I = none ∨ (I ≠ L ∧ g I = none ∧ n I = none ∧ ∀ p ∈ fs, p.1 ≠ I)) (k : ∀ b o, b ∉ [I] → h.get? b = some o → h'.get? b = some o) : St g n h' L m fs := by
  have hI' : I ≠ L ∧ g I = none ∧ n I = none ∧ ∀ p ∈ fs, p.1 ≠ I := by
    rcases hI with e | e
    · refine ⟨fun q => ?_, S.gno e, S.nno e, fun p hp q => ?_⟩
      · obtain ⟨o, e'⟩ := S.Lin; rw [← q, e] at e'; cases e'
      · obtain ⟨o, e', _⟩ := (S.fx p hp).1; rw [q, e] at e'; cases e'
    · exact e
  obtain ⟨h1, h2, h3, h4⟩ := hI'
  have k' : ∀ b o, b ≠ I → h.get? b = some o → h'.get? b = some o := fun b o q => k b o (by simpa using q)
  obtain ⟨oL, es, ep, e, r⟩ := S.ns
  exact ⟨⟨oL, es, ep, k' _ _ (Ne.symm h1) e, r⟩, fun b o e => k' _ _ (fun q => by rw [q, h2] at e; cases e) (S.kg b o e), fun b o e => k' _ _ (fun q => by rw [q, h3] at e; cases e) (S.kn b o e), S.gL, S.nL, S.dj,
    fun p hp => let z := S.fx p hp; ⟨let ⟨o, e, r⟩ := z.1; ⟨o, k' _ _ (h4 p hp) e, r⟩, z.2⟩, S.nd⟩

/-- an iterator at work, nobody's own -/
structure Itr (prog : Program) (w : World) (A : Around) (g n : PM) (h : Heap) (L : Addr) (fs : Fs) (I : Addr) (cnt : Nat) (P : Nat → Value → Prop) (fp : List Addr) (Sti : Nat → Heap → Prop) : Prop where
  W : Walks prog w A I fp [I] cnt P Sti
  st : Sti 0 h
  fp : ∀ b ∈ fp, b = I ∨ ∃ o, g b = some o
  al : ∀ i h, Sti i h → ∃ o, h.get? I = some o
  L : I ≠ L
  g : g I = none
  n : n I = none
  fs : ∀ p ∈ fs, p.1 ≠ I

/-- a for loop over whatever walks -/
theorem for_core {x : Str} {px : Pos} {body : List Stmt} {fp : List Addr} {cnt : Nat} {P : Nat → Value → Prop} {Sti : Nat → Heap → Prop} {Q : Flow → Shared → Prop} (J : Nat → PM → (Str → Option Value) → Fs → Prop)
    (S : St g n h L m fs) (T : Itr prog w A g n h L fs I cnt P fp Sti) (hJ : J 0 n m fs)
    (turn : ∀ i v g' n m fs h tk (F : Shared → Prop), (∀ n' m' fs' h' tk', St g' n' h' L m' fs' → J (i + 1) n' m' fs' → F (mkS s h' tk')) → Le g g' → i < cnt → P i v → J i n m fs → St g' n h L (up m x v) fs → wpAny (model prog w) A (execs body env) (fx F Q) E (mkS s h tk))
    (done : ∀ n m fs h tk, J cnt n m fs → St g n h L m fs → Q .next (mkS s h tk))
    (hE : PassesOwn (model prog w) A env E := by passes_own) (hL : env.locals = L := by rfl) (hk : env.scope.kind = .function := by rfl) (hl : env.kindOf x = some .local := by rfl) :
    codeAny (model prog w) A (.forLoop (.Name x px) (.ref I) body [] env) (fun r s' => match r with | .ok f => Q f s' | .error e => cameBackBy (model prog w) A env E e s') (mkS s h tk) := by
  classical
  subst hL
  obtain ⟨W, hst, hfp, hal, hI1, hI2, hI3, hI4⟩ := T
  have hLfp : env.locals ∉ fp := fun q => by
    rcases hfp _ q with e | ⟨o, e⟩
    · exact hI1 e.symm
    · rw [S.gL] at e; cases e
  have pe : ∀ {α : Type} {t : Sem α} {Q : α → Shared → Prop} {s : Shared}, wpAny (model prog w) A t Q E s → wpAny (model prog w) A t Q (notedBy (model prog w) A env fun e s' => cameBackBy (model prog w) A env E e s') s := fun k => wpAny_passesOwn hE k
  refine codeAny_forLoop (fun k s' => X6 fun i n m fs h tk => N8 (s' = mkS s h tk) (i ≤ cnt) (k = cnt + 1 - i) (St g n h env.locals m fs) (n I = none) (∀ p ∈ fs, p.1 ≠ I) (Sti i h) (J i n m fs)) ?_ (cnt + 1)
    ⟨0, n, m, fs, h, tk, rfl, Nat.zero_le _, rfl, S, hI3, hI4, hst, hJ⟩
  intro k s' hI
  refine hide fun q₀ kq => ?_
  obtain ⟨i, n, m, fs, h, tk, rfl, hic, rfl, S, hnI, hfI, hst, hJ⟩ := hI
  refine kq ?_; clear kq q₀
  by_cases hlt : i < cnt
  · refine W.item i _ _ _ hlt hst fun v h₁ tk₁ hv hst₁ hk₁ => ?_
    have S₁ : St g n h₁ env.locals m fs := S.but (.inr ⟨hI1, hI2, hnI, hfI⟩) hk₁
    refine wpAny_assign_Name (wpAny_storeName_local hl S₁.ns (fun h₂ hn₂ hs₂ => ?_) (by rw [hk]; rfl))
    have S₂ := S₁.store hn₂ hs₂
    have hst₂ : Sti (i + 1) h₂ := W.frame _ _ _ hst₁ fun b hb o e => (hs₂.2 b fun q => hLfp (q ▸ hb)).trans e
    obtain ⟨oI, hoI⟩ := hal _ _ hst₂
    -- the iterator is held still
    let q : PM := fun b => if b = I then some oI else none
    have hq : ∀ b o, q b = some o → b = I ∧ o = oI := fun b o e => by
      by_cases z : b = I
      · exact ⟨z, by simp [q, z] at e; exact e.symm⟩
      · simp [q, z] at e
    have S₃ := S₂.hold (q := q) (fun b o e => by obtain ⟨rfl, rfl⟩ := hq b o e; exact hoI) (by simp [q, Ne.symm hI1]) (fun b o e => by obtain ⟨rfl, rfl⟩ := hq b o e; exact hnI) (fun p hp => by simp [q, hfI p hp])
    have hgg : Le g (fun b => (g b).or (q b)) := fun b o e => by simp [e]
    have hgI : (fun b => (g b).or (q b)) I = some oI := by simp [hI2, q]
    refine pe (wpAny_mono (turn i v _ n m fs h₂ _ (fun s₃ => ∃ k', k' < cnt + 1 - i ∧ X6 fun i n m fs h tk => N8 (s₃ = mkS s h tk) (i ≤ cnt) (k' = cnt + 1 - i) (St g n h env.locals m fs) (n I = none) (∀ p ∈ fs, p.1 ≠ I) (Sti i h) (J i n m fs)) (fun n' m' fs' h' tk' S' J' => ?_) hgg hlt hv hJ S₃) (fun f s₃ h₃ => ?_) fun _ _ e => e)
    · refine ⟨cnt + 1 - (i + 1), by exact msr1 (by assumption), i + 1, n', m', fs', h', tk', rfl, hlt, rfl, S'.less hgg, ?_, ?_, ?_, J'⟩
      · cases z : n' I with
        | none => rfl
        | some o => have := hgI.symm.trans (S'.dj I o z); cases this
      · intro p hp e
        have := (S'.fx p hp).2.2.1
        rw [e] at this; have := hgI.symm.trans this; cases this
      · refine W.frame _ _ _ hst₂ fun b hb o e => ?_
        rcases hfp b hb with rfl | ⟨o', e'⟩
        · rw [hoI] at e; cases e; exact S'.kg _ _ hgI
        · have := S₂.kg _ _ e'; rw [e] at this; cases this; exact (S'.less hgg).kg _ _ e'
    · cases f <;> exact h₃
  · have : i = cnt := by (first | exact z28 hic hlt | omega)
    subst this
    refine W.done _ _ _ hst fun h₁ tk₁ hk₁ => ?_
    refine wpAny_execs_nil ?_
    exact done n m fs h₁ tk₁ hJ (S.but (.inr ⟨hI1, hI2, hnI, hfI⟩) hk₁)

theorem St.itr {o : Obj} {cnt : Nat} {P : Nat → Value → Prop} {fp : List Addr} {Sti : Nat → Heap → Prop} (S : St g n h L m fs) (W : Walks prog w A h.objs.size fp [h.objs.size] cnt P Sti) (st : Sti 0 (h.push o)) (hfp : ∀ b ∈ fp, b = h.objs.size ∨ ∃ o, g b = some o)
    (al : ∀ i h', Sti i h' → ∃ o, h'.get? h.objs.size = some o) : St g n (h.push o) L m fs ∧ Itr prog w A g n (h.push o) L fs h.objs.size cnt P fp Sti := by
  have f := fresh_size h
  refine ⟨S.ext (Le.push _ _), W, st, hfp, al, fun e => ?_, S.gno f, S.nno f, fun p hp e => ?_⟩
  · obtain ⟨o, q⟩ := S.Lin; rw [← e, f] at q; cases q
  · obtain ⟨o, q, _⟩ := (S.fx p hp).1; rw [e, f] at q; cases q
theorem r_iter_str {x : Str} {t : Tok} {Q : Value → Shared → Prop} (S : St g n h L m fs) (hh : A.handled = none)
    (hQ : ∀ I h' fp Sti, St g n h' L m fs → Itr prog w A g n h' L fs I x.cps.size (SignAt x) fp Sti → Q (.ref I) (mkS s h' tk)) : wpAny (model prog w) A (pyIter (.str x t)) Q E (mkS s h tk) := by
  cases ha : x.cps.all (· < 128)
  · obtain ⟨S', T⟩ := S.itr (o := { cls := .type "str_iterator", data := .fields #[.str x t, .int 0 0] }) (Walks.strWide hh h.objs.size x t) ⟨_, Heap.get?_push_size _ rfl, rfl, rfl⟩ (by simp) (fun i h' ⟨o, e, _⟩ => ⟨o, e⟩)
    exact wpAny_pyIter_wide ha (hQ _ _ _ _ S' T)
  · obtain ⟨S', T⟩ := S.itr (o := { cls := .type "str_ascii_iterator", data := .fields #[.str x t, .int 0 0] }) (Walks.strAscii hh h.objs.size x t) ⟨_, Heap.get?_push_size _ rfl, rfl, rfl⟩ (by simp) (fun i h' ⟨o, e, _⟩ => ⟨o, e⟩)
    exact wpAny_pyIter_ascii ha (hQ _ _ _ _ S' T)
theorem r_iter_list {a : Addr} {vs : List Value} {Q : Value → Shared → Prop} (S : St g n h L m fs) (hh : A.handled = none) (hl : Wls g a vs)
    (hQ : ∀ I h' fp Sti, St g n h' L m fs → Itr prog w A g n h' L fs I vs.length (fun i v => vs[i]? = some v) fp Sti → Q (.ref I) (mkS s h' tk)) : wpAny (model prog w) A (pyIter (.ref a)) Q E (mkS s h tk) := by
  have hls : Heap.IsList (mkS s h tk).heap a vs.toArray := S.gAt hl
  have hne : a ≠ h.objs.size := fun e => by
    obtain ⟨o, q, _⟩ := S.gAt hl
    rw [e, fresh_size] at q; cases q
  have W := Walks.list (prog := prog) (w := w) hh h.objs.size a hne vs.toArray
  simp only [List.size_toArray, List.getElem?_toArray] at W
  obtain ⟨S', T⟩ := S.itr (o := { cls := Value.type "list_iterator", data := Data.fields #[Value.ref a, Value.int 0 0] }) W ⟨⟨_, Heap.get?_push_size _ rfl, rfl, rfl⟩, hls.push _⟩ (by
    intro b hb
    rcases List.mem_cons.mp hb with e | e
    · exact .inl e
    · rw [List.mem_singleton] at e; obtain ⟨o, q, _⟩ := hl; exact .inr ⟨o, e ▸ q⟩) (fun i h' ⟨⟨o, e, _⟩, _⟩ => ⟨o, e⟩)
  exact wpAny_pyIter_list hls (hQ _ _ _ _ S' T)
noncomputable abbrev rngP (a b : Int) : Obj → Prop := fun o => ∃ t u v, o = { cls := .type "range", dict := none, data := .fields #[.int a t, .int b u, .int 1 v], slots := #[] }
theorem r_iter_range {a : Addr} {lo hi : Int} {Q : Value → Shared → Prop} (S : St g n h L m fs) (hh : A.handled = none) (hl : At h.get? a (rngP lo hi)) (b1 : -2 ^ 62 ≤ lo) (b2 : lo < 2 ^ 62) (b3 : -2 ^ 62 ≤ hi) (b4 : hi < 2 ^ 62)
    (hQ : ∀ I h' fp Sti, St g n h' L m fs → Itr prog w A g n h' L fs I (hi - lo).toNat (fun i v => ∃ t, v = .int (lo + i) t) fp Sti → Q (.ref I) (mkS s h' tk)) : wpAny (model prog w) A (pyIter (.ref a)) Q E (mkS s h tk) := by
  obtain ⟨o, ho, t, u, v, rfl⟩ := hl
  have W := Walks.range (prog := prog) (w := w) hh h.objs.size lo 1 (hi - lo).toNat
  simp only [Int.mul_one] at W
  have hsz : Builtin.Range.rangeSize lo hi 1 = ((hi - lo).toNat : Int) := by rw [rangeSize_one]; split <;> (first | exact z182 (by assumption) | exact z183 (by assumption) | omega)
  obtain ⟨S', T⟩ := S.itr (o := { cls := .type "range_iterator", data := .fields #[rawInt lo, rawInt (Builtin.Range.rangeSize lo hi 1), rawInt 1] }) W (by
    have e1 : lo + ((0 : Nat) : Int) = lo := by simp
    have e2 : (((hi - lo).toNat : Nat) : Int) - ((0 : Nat) : Int) = Builtin.Range.rangeSize lo hi 1 := by rw [hsz]; simp
    rw [e1, e2]
    exact Heap.get?_push_size _ rfl) (by simp) (fun i h' e => ⟨_, e⟩)
  exact wpAny_pyIter_range ho (small_one b1 b2 b3 b4) (hQ _ _ _ _ S' T)
end
end Mine
end

section
open PySem PySem.W PyProof.Rows
set_option maxRecDepth 100000
set_option linter.all false
namespace Mine

section
variable {M : Model} {prog : Program} {w : World} {A : Around} {E : Value → Shared → Prop} {s : Shared} {env : Env} {g n gC nC : PM} {h h' h₀ : Heap} {tk : Nat} {m mC : Str → Option Value} {fs fs' fsM fsK fsX : Fs} {L C I : Addr}

/-- out of an inner frame (a comprehension's, a call's) back to the outer one -/
theorem St.back (S : St g n h₀ L m (fsM ++ fsK)) (S' : St gC nC h C mC fsX) (hg : Le g gC) (hn : Le n gC) (hL : ∃ o, gC L = some o ∧ h₀.get? L = some o) (hK : ∀ p ∈ fsK, ∃ o, gC p.1 = some o ∧ h₀.get? p.1 = some o) : St g n h L m (fsX ++ fsK) := by
  obtain ⟨oL, e1, e2⟩ := hL
  have gC' : ∀ b, gC b = none → g b = none ∧ n b = none ∧ b ≠ L ∧ ∀ p ∈ fsK, p.1 ≠ b := fun b e => by
    refine ⟨?_, ?_, fun q => ?_, fun p hp q => ?_⟩
    · cases z : g b with
      | none => rfl
      | some o => rw [hg b o z] at e; cases e
    · cases z : n b with
      | none => rfl
      | some o => rw [hn b o z] at e; cases e
    · rw [q, e1] at e; cases e
    · obtain ⟨o, x, _⟩ := hK p hp; rw [q, e] at x; cases x
  refine ⟨?_, hg.trans S'.kg, hn.trans S'.kg, S.gL, S.nL, S.dj, fun p hp => ?_, ?_⟩
  · obtain ⟨o, es, ep, e, r⟩ := S.ns
    have := e.symm.trans e2; cases this
    exact ⟨_, es, ep, S'.kg _ _ e1, r⟩
  · rcases List.mem_append.mp hp with hp | hp
    · have z := S'.fx p hp
      have y := gC' p.1 z.2.2.1
      exact ⟨z.1, y.2.2.1, y.1, y.2.1⟩
    · have z := S.fx p (List.mem_append_right _ hp)
      obtain ⟨o, x, x'⟩ := hK p hp
      obtain ⟨o', y, y'⟩ := z.1
      rw [y] at x'; cases x'
      exact ⟨⟨o, S'.kg _ _ x, y'⟩, z.2⟩
  · rw [List.map_append, List.nodup_append]
    refine ⟨S'.nd, ?_, fun a ha b hb q => ?_⟩
    · have := S.nd; rw [List.map_append, List.nodup_append] at this; exact this.2.1
    · obtain ⟨p, hp, rfl⟩ := List.mem_map.mp ha
      obtain ⟨p', hp', rfl⟩ := List.mem_map.mp hb
      exact (gC' p.1 (S'.fx p hp).2.2.1).2.2.2 p' hp' q.symm

/-- everything that stands, but for what is named -/
noncomputable def less (h : Heap) (as : List Addr) : PM := open Classical in fun b => if b ∈ as then none else h.get? b
theorem less_le {as : List Addr} : Le (less h as) h.get? := fun b o e => by
  unfold less at e
  by_cases q : b ∈ as
  · rw [if_pos q] at e; cases e
  · rw [if_neg q] at e; exact e
theorem less_of {as : List Addr} {b : Addr} {o : Obj} (q : b ∉ as) (e : h.get? b = some o) : less h as b = some o := by unfold less; rw [if_neg q]; exact e
theorem less_no {as : List Addr} {b : Addr} (q : b ∈ as) : less h as b = none := by unfold less; rw [if_pos q]
theorem less_none {as : List Addr} {b : Addr} (e : h.get? b = none) : less h as b = none := by
  unfold less
  by_cases q : b ∈ as
  · rw [if_pos q]
  · rw [if_neg q]; exact e

/-- a list comprehension over whatever walks; fsM: what its turns may change -/
theorem comp_core {elt iter : Expr} {x : Str} {px : Pos} {ifs : List Expr} {scope : Scope} {cl : List (Str × Addr)} {pos : Pos} {fp : List Addr} {cnt : Nat} {P : Nat → Value → Prop} {Sti : Nat → Heap → Prop} {Q : Value → Shared → Prop}
    (J : Nat → List Value → Fs → Prop) (hh : A.handled = none)
    (S : St g n h L m (fsM ++ fsK)) (T : Itr prog w A g n h L (fsM ++ fsK) I cnt P fp Sti) (hJ : J 0 [] fsM) (hsz : cnt ≤ sizeLine)
    (turn : ∀ i v ys gC nC mC fs h tk C (F : Value → Shared → Prop) (F₀ : Shared → Prop), (∀ y n' m' fs' h' tk', St gC n' h' C m' fs' → J (i + 1) (ys ++ [y]) fs' → F y (mkS s h' tk')) → (∀ n' m' fs' h' tk', St gC n' h' C m' fs' → J (i + 1) ys fs' → F₀ (mkS s h' tk')) →
      Le g gC → Le n gC → (∃ o, gC L = some o) → i < cnt → P i v → J i ys fs → St gC nC h C (up mC x v) fs →
      wpAny (model prog w) A (forIn ifs true fun c r => if r = true then do let ok ← isTrue c (compEnvC scope cl C env) (eval c (compEnvC scope cl C env)); pure (ForInStep.yield ok) else pure (ForInStep.yield r))
        (fun ok s₃ => if ok = true then wpAny (model prog w) A (eval elt (compEnvC scope cl C env)) F (fun _ _ => False) s₃ else F₀ s₃) (fun _ _ => False) (mkS s h tk))
    (done : ∀ D ys fs h tk, J cnt ys fs → St g n h L m ((D, lstP ys) :: (fs ++ fsK)) → Q (.ref D) (mkS s h tk))
    (hcell : (scope.names.all fun y => y.2 != .cell) = true) (hkind : scope.kind = .function := by rfl) (hx : scope.names.lookup x = some .local := by rfl) :
    wpAny (model prog w) A (newList []) (fun acc s₃ => wpAny (model prog w) A (newFunctionEnv scope env.globals cl [] env.qual none .none (some env)) (fun cenv s₄ =>
      codeAny (model prog w) A (.compStart (.ListComp elt [⟨.Name x px, iter, ifs, 0⟩] scope pos) 0 (.ref I) acc { cenv with scope := relabel scope env }) (compPost (model prog w) A E none Q acc cenv.locals) s₄) E s₃) E (mkS s h tk) := by
  classical
  have W := T.W
  have hst := T.st
  have hfp := T.fp
  have hal := T.al
  have hI1 := T.L
  have hI2 := T.g
  have hI3 := T.n
  have hI4 := T.fs
  clear T
  have hcell' : ∀ y ∈ scope.names, y.2 ≠ .cell := fun y hy => by simpa using List.all_eq_true.mp hcell y hy
  refine hide fun q₀ kq => ?_
  obtain ⟨oI, hoI⟩ := hal _ _ hst
  refine kq ?_; clear kq q₀
  -- what stands still
  let gC : PM := less h (I :: fsM.map (·.1))
  have hMI : ∀ p ∈ fsM, p.1 ≠ I := fun p hp => hI4 p (List.mem_append_left _ hp)
  have out : ∀ b, b ∉ I :: fsM.map (·.1) → ∀ o, h.get? b = some o → gC b = some o := fun b q o e => less_of q e
  have nin : ∀ b, b ≠ I → (∀ p ∈ fsM, p.1 ≠ b) → b ∉ I :: fsM.map (·.1) := fun b q k z => by
    rcases List.mem_cons.mp z with e | e
    · exact q e
    · obtain ⟨p, hp, e⟩ := List.mem_map.mp e; exact k p hp e
  have hg : Le g gC := fun b o e => out b (nin b (fun q => by rw [q, hI2] at e; cases e) fun p hp q => by have := (S.fx p (List.mem_append_left _ hp)).2.2.1; rw [q, e] at this; cases this) o (S.kg b o e)
  have hn : Le n gC := fun b o e => out b (nin b (fun q => by rw [q, hI3] at e; cases e) fun p hp q => by have := (S.fx p (List.mem_append_left _ hp)).2.2.2; rw [q, e] at this; cases this) o (S.kn b o e)
  have hLC : ∃ o, gC L = some o ∧ h.get? L = some o := by
    obtain ⟨o, e⟩ := S.Lin
    exact ⟨o, out L (nin L (Ne.symm hI1) fun p hp => (S.fx p (List.mem_append_left _ hp)).2.1) o e, e⟩
  have hKC : ∀ p ∈ fsK, ∃ o, gC p.1 = some o ∧ h.get? p.1 = some o := fun p hp => by
    obtain ⟨o, e, _⟩ := (S.fx p (List.mem_append_right _ hp)).1
    refine ⟨o, out _ (nin _ (hI4 p (List.mem_append_right _ hp)) fun q hq z => ?_) o e, e⟩
    have := S.nd; rw [List.map_append, List.nodup_append] at this
    exact this.2.2 _ (List.mem_map.mpr ⟨q, hq, rfl⟩) _ (List.mem_map.mpr ⟨p, hp, rfl⟩) z
  refine wpAny_newObj_type (wpAny_newFunctionEnv hcell' (by intro y hy; simp at hy) (fun h₁ hns₁ hsb₁ => ?_) hkind)
  dsimp only at hns₁ hsb₁ ⊢
  generalize hD : h.objs.size = D at *
  have hDf : h.get? D = none := hD ▸ fresh_size h
  generalize hH2 : h.push { cls := .type "list", dict := none, data := .seq ([] : List Value).toArray } = H2 at hns₁ hsb₁ ⊢
  generalize hCC : H2.objs.size = C at *
  have hC1 : C = D + 1 := by rw [← hCC, ← hH2, Heap.size_push, hD]
  have hCf : H2.get? C = none := hCC ▸ fresh_size H2
  have k₂ : Le h.get? H2.get? := hH2 ▸ Le.push h _
  have hCh : h.get? C = none := by
    cases e : h.get? C with
    | none => rfl
    | some o => rw [k₂ _ _ e] at hCf; cases hCf
  have old : Le H2.get? h₁.get? := fun b o e => hsb₁.extBut b o (fun q => by rw [q, hCf] at e; cases e) (Heap.get?_push_of_some _ e)
  have hlD : At H2.get? D (lstP []) := ⟨_, by rw [← hH2, ← hD]; exact Heap.get?_push_size _ rfl, 0, rfl⟩
  have hDC : D ≠ C := by (first | exact z27 hC1 | omega)
  -- the inner frame
  have S₁ : St gC (fun _ => none) h₁ C (fun x => ([] : List (Str × Value)).reverse.lookup x) ((D, lstP []) :: fsM) := by
    refine ⟨hns₁, less_le.trans (k₂.trans old), (fun _ _ e => nomatch e), less_none hCh, rfl, (fun _ _ e => nomatch e), fun p hp => ?_, ?_⟩
    · rcases List.mem_cons.mp hp with rfl | hp
      · exact ⟨hlD.le old, hDC, less_none hDf, rfl⟩
      · obtain ⟨o, e, r⟩ := (S.fx p (List.mem_append_left _ hp)).1
        refine ⟨⟨o, old _ _ (k₂ _ _ e), r⟩, fun q => ?_, less_no (List.mem_cons_of_mem _ (List.mem_map.mpr ⟨p, hp, rfl⟩)), rfl⟩
        rw [q, hCh] at e; cases e
    · rw [List.map_cons, List.nodup_cons]
      have := S.nd; rw [List.map_append, List.nodup_append] at this
      refine ⟨fun q => ?_, this.1⟩
      obtain ⟨p, hp, e⟩ := List.mem_map.mp q
      obtain ⟨o, e', _⟩ := (S.fx p (List.mem_append_left _ hp)).1
      rw [e, hDf] at e'; cases e'
  have hIC : I ≠ C := fun q => by rw [q, hCh] at hoI; cases hoI
  have hID : I ≠ D := fun q => by rw [q, hDf] at hoI; cases hoI
  have hfpC : ∀ b ∈ fp, b ≠ C ∧ (b = I ∨ ∃ o, gC b = some o) := fun b hb => by
    rcases hfp b hb with e | ⟨o, e⟩
    · exact ⟨e ▸ hIC, .inl e⟩
    · refine ⟨fun q => ?_, .inr ⟨o, hg _ _ e⟩⟩
      have := S.kg _ _ e; rw [q, hCh] at this; cases this
  have hst₁ : Sti 0 h₁ := W.frame _ _ _ hst fun b hb o e => old _ _ (k₂ _ _ e)
  have loop : ∀ s₃ : Shared, s₃ = mkS s h₁ (tk + ([] : List (Str × Value)).length) →
      codeAny (model prog w) A (.compLoop (.ListComp elt [⟨.Name x px, iter, ifs, 0⟩] scope pos) 0 (.ref I) (.ref D) (compEnvC scope cl C env)) (compPost (model prog w) A E none Q (.ref D) C) s₃ := by
    rintro s₃ rfl
    have pe : ∀ {α : Type} {t : Sem α} {Q : α → Shared → Prop} {E' : Value → Shared → Prop} {s : Shared}, wpAny (model prog w) A t Q (fun _ _ => False) s → wpAny (model prog w) A t Q E' s := fun k => wpAny_mono k (fun _ _ e => e) fun _ _ e => e.elim
    refine codeAny_compLoop_tests (fun k s' => X7 fun i ys nC mC fs h tk => N8 (s' = mkS s h tk ∧ i ≤ cnt) (ys.length ≤ i) (k = cnt + 1 - i) (St gC nC h C mC ((D, lstP ys) :: fs)) (nC I = none) (∀ p ∈ fs, p.1 ≠ I) (Sti i h) (J i ys fs)) ?_ (cnt + 1)
      ⟨0, [], _, _, fsM, h₁, _, ⟨rfl, Nat.zero_le _⟩, Nat.le_refl _, rfl, S₁, rfl, hMI, hst₁, hJ⟩
    intro k s' hI
    refine hide fun q₀ kq => ?_
    obtain ⟨i, ys, nC, mC, fs, h₂, tk₂, ⟨rfl, hic⟩, hyl, rfl, S₂, hnI, hfI, hst₂, hJ₂⟩ := hI
    refine kq ?_; clear kq q₀
    have hgI : gC I = none := less_no (List.mem_cons_self ..)
    have hfI' : ∀ p ∈ (D, lstP ys) :: fs, p.1 ≠ I := fun p hp => by
      rcases List.mem_cons.mp hp with rfl | hp
      · exact Ne.symm hID
      · exact hfI p hp
    by_cases hlt : i < cnt
    · refine W.item i _ _ _ hlt hst₂ fun v h₃ tk₃ hv hst₃ hk₃ => ?_
      have S₃ := S₂.but (h' := h₃) (.inr ⟨hIC, hgI, hnI, hfI'⟩) hk₃
      refine wpAny_assign_Name (wpAny_storeName_local (lookup_relabel_local hx) S₃.ns (fun h₄ hn₄ hs₄ => ?_) (by simp [compEnvC, relabel, hkind]))
      have S₄ := S₃.store hn₄ hs₄
      have hst₄ : Sti (i + 1) h₄ := W.frame _ _ _ hst₃ fun b hb o e => (hs₄.2 b (hfpC b hb).1).trans e
      refine hide fun q₀ kq => ?_
      obtain ⟨oI, hoI⟩ := hal _ _ hst₄
      -- the iterator and the list are held still
      obtain ⟨oD, hoD, pD⟩ := (S₄.fx _ (.head _)).1
      refine kq ?_; clear kq q₀
      have zD := (S₄.fx _ (.head _)).2
      let q : PM := fun b => if b = I then some oI else if b = D then some oD else none
      have hq : ∀ b o, q b = some o → (b = I ∧ o = oI) ∨ (b = D ∧ o = oD) := fun b o e => by
        by_cases z : b = I
        · exact .inl ⟨z, by simp [q, z] at e; exact e.symm⟩
        · by_cases z' : b = D
          · exact .inr ⟨z', by simp [q, z', Ne.symm hID] at e; exact e.symm⟩
          · simp [q, z, z'] at e
      have ndD := S₄.nd
      rw [List.map_cons, List.nodup_cons] at ndD
      have S₅ := (S₄.sub (List.sublist_cons_self ..)).hold (q := q) (fun b o e => by
          rcases hq b o e with ⟨rfl, rfl⟩ | ⟨rfl, rfl⟩
          · exact hoI
          · exact hoD) (by simp [q, Ne.symm hIC, Ne.symm hDC]) (fun b o e => by
          rcases hq b o e with ⟨rfl, rfl⟩ | ⟨rfl, rfl⟩
          · exact hnI
          · exact zD.2.2) (fun p hp => by
          have : p.1 ≠ D := fun z => ndD.1 (List.mem_map.mpr ⟨p, hp, z⟩)
          simp [q, hfI p hp, this])
      have hgg : Le gC (fun b => (gC b).or (q b)) := fun b o e => by simp [e]
      have hgI' : (fun b => (gC b).or (q b)) I = some oI := by simp [hgI, q]
      have hgD' : (fun b => (gC b).or (q b)) D = some oD := by
        have : gC D = none := zD.2.1
        simp [this, q, Ne.symm hID]
      -- after the turn
      have aft : ∀ {n' m' fs' h'}, St (fun b => (gC b).or (q b)) n' h' C m' fs' → N4 (St gC n' h' C m' ((D, lstP ys) :: fs')) (n' I = none) (∀ p ∈ fs', p.1 ≠ I) (Sti (i + 1) h') := by
        intro n' m' fs' h' S'
        have nI : n' I = none := by
          cases z : n' I with
          | none => rfl
          | some o => have := hgI'.symm.trans (S'.dj I o z); cases this
        have nD : n' D = none := by
          cases z : n' D with
          | none => rfl
          | some o => have := hgD'.symm.trans (S'.dj D o z); cases this
        have fI : ∀ p ∈ fs', p.1 ≠ I := fun p hp e => by
          have := (S'.fx p hp).2.2.1
          rw [e] at this; have := hgI'.symm.trans this; cases this
        have fD : ∀ p ∈ fs', p.1 ≠ D := fun p hp e => by
          have := (S'.fx p hp).2.2.1
          rw [e] at this; have := hgD'.symm.trans this; cases this
        have S'' := S'.less hgg
        refine ⟨{ S'' with fx := fun p hp => ?_, nd := ?_ }, nI, fI, ?_⟩
        · rcases List.mem_cons.mp hp with rfl | hp
          · exact ⟨⟨oD, S'.kg _ _ hgD', pD⟩, hDC, less_none hDf, nD⟩
          · exact S''.fx p hp
        · rw [List.map_cons, List.nodup_cons]
          refine ⟨fun z => ?_, S''.nd⟩
          obtain ⟨p, hp, e⟩ := List.mem_map.mp z
          exact fD p hp e
        · refine W.frame _ _ _ hst₄ fun b hb o e => ?_
          rcases (hfpC b hb).2 with rfl | ⟨o', e'⟩
          · rw [hoI] at e; cases e; exact S'.kg _ _ hgI'
          · have := S₄.kg _ _ e'; rw [e] at this; cases this; exact S''.kg _ _ e'
      let F : Value → Shared → Prop := fun y s₆ => X5 fun n' m' fs' h' tk' => N3 (s₆ = mkS s h' tk') (St (fun b => (gC b).or (q b)) n' h' C m' fs') (J (i + 1) (ys ++ [y]) fs')
      let F₀ : Shared → Prop := fun s₆ => X5 fun n' m' fs' h' tk' => N3 (s₆ = mkS s h' tk') (St (fun b => (gC b).or (q b)) n' h' C m' fs') (J (i + 1) ys fs')
      refine pe (wpAny_mono (turn i v ys _ nC mC fs h₄ _ C F F₀ (fun y n' m' fs' h' tk' S' J' => ⟨n', m', fs', h', tk', rfl, S', J'⟩) (fun n' m' fs' h' tk' S' J' => ⟨n', m', fs', h', tk', rfl, S', J'⟩) (hg.trans hgg) (hn.trans hgg) (by obtain ⟨o, e, _⟩ := hLC; exact ⟨o, hgg _ _ e⟩) hlt hv hJ₂ S₅) (fun ok s₅ h₅ => ?_) fun _ _ e => e)
      cases ok with
      | false =>
        simp only [Bool.false_eq_true, if_false] at h₅ ⊢
        refine hide fun q₀ kq => ?_
        obtain ⟨n', m', fs', h', tk', rfl, S', J'⟩ := h₅
        obtain ⟨a1, a2, a3, a4⟩ := aft S'
        exact kq ⟨cnt + 1 - (i + 1), by exact msr1 (by assumption), i + 1, ys, n', m', fs', h', tk', ⟨rfl, hlt⟩, Nat.le_succ_of_le hyl, rfl, a1, a2, a3, a4, J'⟩
      | true =>
        simp only [if_true] at h₅ ⊢
        refine pe (wpAny_mono h₅ (fun y s₆ h₆ => ?_) fun _ _ e => e)
        refine hide fun q₀ kq => ?_
        obtain ⟨n', m', fs', h', tk', rfl, S', J'⟩ := h₆
        obtain ⟨a1, a2, a3, a4⟩ := aft S'
        refine kq ?_
        have hl : Lst h'.get? D ys := (a1.fx _ (.head _)).1
        refine wpAny_list_append_plain (s := mkS s h' tk') hl.plain (fun h₆ hp hs => ?_) (by simpa using (by (first | exact z237 hsz hyl hlt | omega) : ys.length ≤ sizeLine))
        have S₆ : St gC n' h₆ C m' ((D, lstP (ys ++ [y])) :: fs') := a1.change .head (Lst.of (by simpa using hp)) hs
        refine ⟨cnt + 1 - (i + 1), by exact msr1 (by assumption), i + 1, ys ++ [y], n', m', fs', h₆, _, ⟨rfl, hlt⟩, by simp; assumption, rfl, S₆, a2, a3, ?_, J'⟩
        refine W.frame _ _ _ a4 fun b hb o e => (hs.2 b fun q => ?_).trans e
        rcases (hfpC b hb).2 with e' | ⟨o', e'⟩
        · exact hID (e'.symm.trans q)
        · have : gC D = none := zD.2.1
          rw [q, this] at e'; cases e'
    · have : i = cnt := by (first | exact z28 hic hlt | omega)
      subst this
      refine W.done _ _ _ hst₂ fun h₃ tk₃ hk₃ => ?_
      have S₃ := S₂.but (h' := h₃) (.inr ⟨hIC, hgI, hnI, hfI'⟩) hk₃
      refine ⟨mC, S₃.ns, fun h₄ hs₄ => ?_⟩
      have S₅ := S.back S₃ hg hn hLC hKC
      have S₆ := S₅.but (I := C) (h' := h₄) (.inr ⟨fun q => ?_, ?_, ?_, fun p hp q => ?_⟩) (fun b o q e => (hs₄.2 b (by simpa using q)).trans e)
      · exact done D ys fs h₄ tk₃ hJ₂ S₆
      · obtain ⟨o, e⟩ := S.Lin; rw [← q, hCh] at e; cases e
      · exact S.gno hCh
      · exact S.nno hCh
      · have := S₃.gL
        rcases List.mem_append.mp hp with hp | hp
        · exact (S₃.fx p hp).2.1 q
        · obtain ⟨o, e, _⟩ := hKC p hp; rw [q, this] at e; cases e
  exact codeAny_compStart_list (loop _ rfl) (W.self 0 _ _ _ hst₁ (loop _ rfl))
theorem comp_if1 {c : Expr} {Q : Bool → Shared → Prop} (h : wpAny M A (PySem.isTrue c env (eval c env)) Q E s) :
    wpAny M A (forIn [c] true fun c r => if r = true then do let ok ← PySem.isTrue c env (eval c env); pure (ForInStep.yield ok) else pure (ForInStep.yield r)) Q E s := by
  rw [List.forIn_cons]
  refine wpAny_bind ?_
  rw [if_pos rfl]
  refine wpAny_bind (wpAny_mono h (fun ok s₃ h₃ => wpAny_pure ?_) fun _ _ e => e)
  show wpAny M A (forIn [] ok _) Q E s₃
  rw [List.forIn_nil]
  exact wpAny_pure h₃
theorem comp0 {elt iter : Expr} {x : Str} {px : Pos} {scope : Scope} {cl : List (Str × Addr)} {pos : Pos} {fp : List Addr} {cnt : Nat} {P : Nat → Value → Prop} {Sti : Nat → Heap → Prop} {Q : Value → Shared → Prop}
    (J : Nat → List Value → Fs → Prop) (hh : A.handled = none)
    (S : St g n h L m (fsM ++ fsK)) (T : Itr prog w A g n h L (fsM ++ fsK) I cnt P fp Sti) (hJ : J 0 [] fsM) (hsz : cnt ≤ sizeLine)
    (turn : ∀ i v ys gC nC mC fs h tk C (F : Value → Shared → Prop), (∀ y n' m' fs' h' tk', St gC n' h' C m' fs' → J (i + 1) (ys ++ [y]) fs' → F y (mkS s h' tk')) →
      Le g gC → Le n gC → (∃ o, gC L = some o) → i < cnt → P i v → J i ys fs → St gC nC h C (up mC x v) fs →
      wpAny (model prog w) A (eval elt (compEnvC scope cl C env)) F (fun _ _ => False) (mkS s h tk))
    (done : ∀ D ys fs h tk, J cnt ys fs → St g n h L m ((D, lstP ys) :: (fs ++ fsK)) → Q (.ref D) (mkS s h tk))
    (hcell : (scope.names.all fun y => y.2 != .cell) = true) (hkind : scope.kind = .function := by rfl) (hx : scope.names.lookup x = some .local := by rfl) :
    wpAny (model prog w) A (newList []) (fun acc s₃ => wpAny (model prog w) A (newFunctionEnv scope env.globals cl [] env.qual none .none (some env)) (fun cenv s₄ =>
      codeAny (model prog w) A (.compStart (.ListComp elt [⟨.Name x px, iter, [], 0⟩] scope pos) 0 (.ref I) acc { cenv with scope := relabel scope env }) (compPost (model prog w) A E none Q acc cenv.locals) s₄) E s₃) E (mkS s h tk) := by
  refine comp_core J hh S T hJ hsz (fun i v ys gC nC mC fs h tk C F F₀ hF _ a b c d e f g => ?_) done hcell hkind hx
  rw [List.forIn_nil]
  refine wpAny_pure ?_
  rw [if_pos rfl]
  exact turn i v ys gC nC mC fs h tk C F hF a b c d e f g
theorem comp1 {c : Expr} {elt iter : Expr} {x : Str} {px : Pos} {scope : Scope} {cl : List (Str × Addr)} {pos : Pos} {fp : List Addr} {cnt : Nat} {P : Nat → Value → Prop} {Sti : Nat → Heap → Prop} {Q : Value → Shared → Prop}
    (J : Nat → List Value → Fs → Prop) (hh : A.handled = none)
    (S : St g n h L m (fsM ++ fsK)) (T : Itr prog w A g n h L (fsM ++ fsK) I cnt P fp Sti) (hJ : J 0 [] fsM) (hsz : cnt ≤ sizeLine)
    (turn : ∀ i v ys gC nC mC fs h tk C (F : Value → Shared → Prop) (F₀ : Shared → Prop) (N : Bool → Shared → Prop), (∀ y n' m' fs' h' tk', St gC n' h' C m' fs' → J (i + 1) (ys ++ [y]) fs' → F y (mkS s h' tk')) → (∀ n' m' fs' h' tk', St gC n' h' C m' fs' → J (i + 1) ys fs' → F₀ (mkS s h' tk')) →
      (∀ b s', (if b = true then wpAny (model prog w) A (eval elt (compEnvC scope cl C env)) F (fun _ _ => False) s' else F₀ s') → N b s') →
      Le g gC → Le n gC → (∃ o, gC L = some o) → i < cnt → P i v → J i ys fs → St gC nC h C (up mC x v) fs →
      wpAny (model prog w) A (isTrue c (compEnvC scope cl C env) (eval c (compEnvC scope cl C env))) N (fun _ _ => False) (mkS s h tk))
    (done : ∀ D ys fs h tk, J cnt ys fs → St g n h L m ((D, lstP ys) :: (fs ++ fsK)) → Q (.ref D) (mkS s h tk))
    (hcell : (scope.names.all fun y => y.2 != .cell) = true) (hkind : scope.kind = .function := by rfl) (hx : scope.names.lookup x = some .local := by rfl) :
    wpAny (model prog w) A (newList []) (fun acc s₃ => wpAny (model prog w) A (newFunctionEnv scope env.globals cl [] env.qual none .none (some env)) (fun cenv s₄ =>
      codeAny (model prog w) A (.compStart (.ListComp elt [⟨.Name x px, iter, [c], 0⟩] scope pos) 0 (.ref I) acc { cenv with scope := relabel scope env }) (compPost (model prog w) A E none Q acc cenv.locals) s₄) E s₃) E (mkS s h tk) := by
  exact comp_core J hh S T hJ hsz (fun i v ys gC nC mC fs h tk C F F₀ hF hF₀ a b c d e f g => comp_if1 (turn i v ys gC nC mC fs h tk C F F₀ _ hF hF₀ (fun _ _ x => x) a b c d e f g)) done hcell hkind hx
end
end Mine
end

section
open PySem PySem.W PyProof.Rows
set_option maxRecDepth 100000
namespace Mine

/-! sorted, by what the runs' sort gives -/
noncomputable def SortOk (vs : List Value) : Prop := ∀ (prog : Program) (w : World) (A : Around) (E : Value → Shared → Prop) (s : Shared),
  wpS (model prog w) A E s sortRuns' (fun _ st' => (arrOf st').Perm (pairsOf vs) ∧ failedOf st' = none ∧ SortedTo (arrOf st') (pairsOf vs).size) (SortSt.mk' oneType' (vs.toArray.zip vs.toArray) #[] 7 none)
theorem sortOk_few {vs : List Value} {ns : List Int} (hI : IntsAre vs ns) (h2 : 2 ≤ vs.length) (h64 : vs.length < 64) : SortOk vs := fun prog w A E s =>
  wpS_sortRuns (a₀ := pairsOf vs) hI.intKeys ⟨Array.Perm.refl _, rfl, rfl, rfl⟩ (by rw [pairsOf_size]; exact h2) (by rw [pairsOf_size]; exact h64) fun st' a b c => ⟨a, b, c⟩

section
variable {M : Model} {prog : Program} {w : World} {A : Around} {E : Value → Shared → Prop} {s : Shared} {env : Env} {g n : PM} {h h' : Heap} {tk : Nat} {m : Str → Option Value} {fs fs' : Fs} {L : Addr}

theorem sort_tree {a : Addr} {vs : List Value} {ns : List Int} {k : Nat} {P : Fin → Shared → Prop} (ho : s.heap.get? a = some (seqObj "list" vs.toArray k)) (hI : IntsAre vs ns) (hS : 2 ≤ vs.length → SortOk vs) (hz : vs.length ≤ 1000)
    (hP : ∀ (out : List Value) (ns' : List Int), IntsAre out ns' → ns'.Perm ns → ns'.Pairwise (· ≤ ·) → P (.done (.ret .none)) { s with heap := sortedHeap s.heap a vs out.toArray }) :
    wpAny (model prog w) A (Builtin.«list.sort» ⟨[.ref a], []⟩) P E s := by
  have zL : (1000 : Nat) ≤ sizeLine := by rw [sizeLine_eq]; decide
  rw [list_sort_plain]
  refine wpAny_bind (listItems_at ho rfl (wpAny_bind (listUpdate_at ho rfl ?_ (by simpa using Nat.le_trans hz zL) (by simp))))
  obtain ⟨e1, ho1⟩ : ∃ e1, (s.heap.update a (Obj.mapSeq fun _ => #[])).get? a = some (seqObj "list" #[] e1) := ⟨_, get?_update_seq ho (fun _ => #[])⟩
  have ha : a < s.heap.objs.size := Heap.lt_size ho
  have ho6 : (((s.heap.update a (Obj.mapSeq fun _ => #[])).push (seqObj "tuple" vs.toArray 0)).push (seqObj "list" #[] 0)).get? a = some (seqObj "list" #[] e1) :=
    Heap.get?_push_of_some _ (Heap.get?_push_of_some _ ho1)
  refine wpAny_bind (seqEpoch_at ho1 rfl (wpAny_bind (wpAny_newTuple (wpAny_bind (wpAny_newList (wpAny_holding ?_) (Nat.zero_le _))) (by simpa using Nat.le_trans hz zL))))
  show wpAny (model prog w) A _ P E { s with heap := ((s.heap.update a (Obj.mapSeq fun _ => #[])).push (seqObj "tuple" vs.toArray 0)).push (seqObj "list" #[] 0) }
  dsimp only
  have last : ∀ st' : SortSt, (arrOf st').Perm (pairsOf vs) → failedOf st' = none → SortedTo (arrOf st') (pairsOf vs).size →
      wpAny (model prog w) A (do
        let touched := (← seqEpoch a) != e1
        Builtin.List.listUpdate (.ref a) fun _ => (arrOf st').map (·.2)
        if let some e := failedOf st' then rule "list.sort.comparison-raised"; throw e
        if touched then rule "list.sort.modified"; raiseError "ValueError" "list modified during sort"
        ret .none) P E { s with heap := ((s.heap.update a (Obj.mapSeq fun _ => #[])).push (seqObj "tuple" vs.toArray 0)).push (seqObj "list" #[] 0) } := by
    intro st' hp hf hs
    obtain ⟨ns', h1, h2, h3⟩ := sorted_out hI hp hs
    have hsz : ((arrOf st').map (·.2)).size ≤ sizeLine + 1 := by
      rw [Array.size_map, hp.size_eq, pairsOf_size]; exact Nat.le_trans (by assumption) (by decide)
    refine wpAny_bind (seqEpoch_at ho6 rfl (wpAny_bind (listUpdate_at ho6 rfl ?_ (Nat.zero_le _) hsz)))
    rw [hf]
    simp only [bne_self_eq_false, Bool.false_eq_true, if_false]
    refine wpAny_pure ?_
    have := hP _ ns' h1 h2 h3
    rw [Array.toArray_toList] at this
    exact this
  have hsz : vs.toArray.size = vs.length := by simp
  by_cases h2 : vs.toArray.size < 2
  · rw [if_pos h2, if_pos h2]
    refine wpAny_bind (wpAny_pure ?_)
    rw [StateT.run_pure]
    refine wpAny_bind (wpAny_pure ?_)
    refine last (SortSt.mk' general' (vs.toArray.zip vs.toArray) #[] 7 none) (Array.Perm.refl _) rfl fun i j hij hj => ?_
    have : i = j := by rw [pairsOf_size] at hj; (first | exact z35 hsz h2 hij hj | omega)
    subst this; exact Int.le_refl _
  · rw [if_neg h2, if_neg h2]
    obtain ⟨v₁, v₂, rest, rfl⟩ : ∃ v₁ v₂ rest, vs = v₁ :: v₂ :: rest := by
      match vs, hsz, h2 with
      | [], _, h2 => simp at h2
      | [_], _, h2 => simp at h2
      | v₁ :: v₂ :: rest, _, _ => exact ⟨v₁, v₂, rest, rfl⟩
    rw [keyKind_ints hI]
    refine wpAny_bind (wpAny_pure (wpAny_bind (wpAny_mono (hS (by simp) prog w A E _) (fun r s' q => ?_) fun _ _ e => e)))
    obtain ⟨⟨⟩, st'⟩ := r
    obtain ⟨rfl, hp, hf, hs⟩ := q
    exact last st' hp hf hs

theorem r_sorted {l : Addr} {vs : List Value} {ns : List Int} {Q : Value → Shared → Prop} (S : St g n h L m fs) (hl : Wls h.get? l vs) (hI : IntsAre vs ns) (hS : 2 ≤ vs.length → SortOk vs) (hz : vs.length ≤ 1000)
    (hQ : ∀ a h' tk' vs' ns', St g n h' L m ((a, lstP vs') :: fs) → IntsAre vs' ns' → ns'.Perm ns → ns'.Pairwise (· ≤ ·) → Q (.ref a) (mkS s h' tk')) :
    wpAny (model prog w) A (call (.builtin "sorted") [.ref l]) Q E (mkS s h tk) := by
  have zL : (1000 : Nat) ≤ sizeLine := by rw [sizeLine_eq]; decide
  refine Calls.call_function_entry kind_sorted plain_sorted entry_sorted (args_sorted1 _) ?_
  unfold Builtin.«sorted»
  refine wpAny_bind (m := checkCount "sorted" 1 1 _) (wpAny_pure ?_)
  refine wpAny_bind (collect_list (s := mkS s h tk) hl.isList (wpAny_bind (wpAny_newList ?_ (Nat.le_trans hz zL))) (Nat.le_trans hz zL))
  have hsz : ((h.push (seqObj "list" #[] 0)).update h.objs.size (Obj.mapSeq (· ++ vs.toArray))).objs.size = h.objs.size + 1 := by
    rw [Heap.size_update, size_push']
  have hoL : (((h.push (seqObj "list" #[] 0)).update h.objs.size (Obj.mapSeq (· ++ vs.toArray))).push (seqObj "list" vs.toArray 0)).get? (h.objs.size + 1) = some (seqObj "list" vs.toArray 0) := by
    rw [← hsz]; exact Heap.get?_push_size _ rfl
  show wpAny _ _ _ _ _ (mkS s (((h.push (seqObj "list" #[] 0)).update h.objs.size (Obj.mapSeq (· ++ vs.toArray))).push (seqObj "list" vs.toArray 0)) tk)
  rw [show ((mkS s h tk).heap.push (seqObj "list" #[] 0)).update (mkS s h tk).heap.objs.size (Obj.mapSeq (· ++ vs.toArray)) = (h.push (seqObj "list" #[] 0)).update h.objs.size (Obj.mapSeq (· ++ vs.toArray)) from rfl, hsz]
  refine wpAny_bind (wpAny_holding (wpAny_call_entry slot_list_sort ⟨_, hoL, rfl⟩ entry_list_sort (sort_tree (s := mkS s _ tk) hoL hI hS hz fun out ns' a1 a2 a3 => ⟨_, rfl, wpAny_pure ⟨_, rfl, ?_⟩⟩) (args_list_sort _)))
  obtain ⟨e, he⟩ := sortedAll_at h vs out.toArray
  exact hQ _ _ tk out ns' (S.own (a := h.objs.size + 1) (h' := sortedAll h vs out.toArray) (by
    cases q : h.get? (h.objs.size + 1) with
    | none => rfl
    | some o => have := Heap.lt_size q; exact absurd this (Nat.not_lt.mpr (Nat.le_succ _))) (fun _ _ => sortedAll_old) ⟨_, he, e, rfl⟩) a1 a2 a3
end
end Mine
end

section
open PySem PySem.W PyProof.Rows
set_option maxRecDepth 100000
namespace Mine

/-- a text of its signs' codes; a text of one sign -/
noncomputable abbrev tx (cs : List Nat) : Str := ⟨cs.toArray⟩
noncomputable abbrev ch (c : Nat) : Str := ⟨#[c]⟩
noncomputable abbrev Strs (vs : List Value) (xs : List Str) : Prop := StrsAre vs xs

section
variable {M : Model} {prog : Program} {w : World} {A : Around} {E : Value → Shared → Prop} {s : Shared} {env : Env} {g n : PM} {h h' : Heap} {tk : Nat} {m : Str → Option Value} {fs fs' : Fs} {L : Addr}

/-! texts -/
theorem r_sitem {value slice : Expr} {cs : List Nat} {t : Tok} {k : Int} {u : Tok} {i c : Nat} {Q : Value → Shared → Prop} (hk : k = (i : Int)) (hx : cs[i]? = some c) (hz : cs.length ≤ 1000000) (hQ : ∀ t tk', Q (.str (ch c) t) (mkS s h tk'))
    (hs : subscripted slice false (.str (tx cs) t) (.int k u) = operate [.str (tx cs) t, .int k u] (getItem (.str (tx cs) t) (.int k u)) := by with_unfolding_all rfl)
    (hg : ∀ r, letTemporaryGo value (.str (tx cs) t) r = pure () := by intro _; with_unfolding_all rfl) :
    wpAny (model prog w) A (subscriptTail value slice (.str (tx cs) t) (.int k u)) Q E (mkS s h tk) := by
  subst hk
  obtain ⟨hi, rfl⟩ := List.getElem?_eq_some_iff.mp hx
  have hl : (tx cs).length = cs.length := by show cs.toArray.size = _; simp
  refine item_str (fitsSsize_of (N := 9223372036854775808) (by (first | exact z238 | omega)) (by (first | exact z239 hz hi | omega)) (Int.le_refl _)) (by (first | exact z240 | omega)) (by rw [hl]; exact ni (by assumption)) (fun _ => ?_) hs hg
  have e : Txt.item (tx cs) i = ch cs[i] := by
    have h0 : ¬ ((i : Int) < 0) := by (first | exact z122 | omega)
    unfold Txt.item Txt.charAt seqIndex?
    simp [hl, hi, h0]
  rw [e]
  exact hQ _ _
theorem r_slen {cs : List Nat} {t : Tok} {Q : Value → Shared → Prop} (hz : cs.length ≤ 1000000) (hQ : ∀ t tk', Q (.int cs.length t) (mkS s h tk')) : wpAny (model prog w) A (call (.builtin "len") [.str (tx cs) t]) Q E (mkS s h tk) := by
  have hl : (tx cs).length = cs.length := by show cs.toArray.size = _; simp
  refine len_str (by rw [hl]; (first | exact z241 hz | omega)) ?_
  rw [hl]; exact hQ _ _
theorem r_ord {c : Nat} {t : Tok} {Q : Value → Shared → Prop} (hQ : ∀ t tk', Q (.int c t) (mkS s h tk')) : wpAny (model prog w) A (call (.builtin "ord") [.str (ch c) t]) Q E (mkS s h tk) := P.ord_of_char (hQ _ _)
theorem r_chr {i : Int} {t : Tok} {Q : Value → Shared → Prop} (h0 : 0 ≤ i) (h1 : i ≤ 1114111) (hQ : ∀ t tk', Q (.str (ch i.toNat) t) (mkS s h tk')) : wpAny (model prog w) A (call (.builtin "chr") [.int i t]) Q E (mkS s h tk) :=
  chr_of_range h0 h1 (hQ _ _)
theorem ch_eq (a b : Nat) : (ch a == ch b) = decide (a = b) := by
  by_cases q : a = b
  · subst q; simp
  · have : ch a ≠ ch b := fun e => q (by have := congrArg (fun x : Str => x.cps[0]!) e; simpa using this)
    simp [q, this]
theorem strs_values {vs : List Value} {xs : List Str} (H : Strs vs xs) : ∃ l : List (Str × Tok), vs = strValues l ∧ l.map (·.1) = xs := by
  induction H with
  | nil => exact ⟨[], rfl, rfl⟩
  | cons x t _ ih =>
    obtain ⟨l, rfl, rfl⟩ := ih
    exact ⟨(x, t) :: l, rfl, rfl⟩
theorem r_join {x : Str} {t : Tok} {d : Addr} {vs : List Value} {xs : List Str} {Q : Value → Shared → Prop} (hl : Wls h.get? d vs) (H : Strs vs xs) (hok : JoinOk x xs = true) (hQ : ∀ t tk', Q (.str (Txt.join x xs) t) (mkS s h tk')) :
    wpAny (model prog w) A (call (.builtin "str.join") [.str x t, .ref d]) Q E (mkS s h tk) := by
  obtain ⟨l, rfl, e⟩ := strs_values H
  exact PySem.SC.join (s := mkS s h tk) hl.isList e hok fun t' k => hQ _ _

/-! lists -/
theorem any_isStr {k : Str} {vs : List Value} {xs : List Str} (H : Strs vs xs) : vs.toArray.any (isStrOf k) = xs.any (· == k) := by
  rw [← Array.any_toList]
  induction H with
  | nil => rfl
  | cons x u _ ih => simp only [List.any_cons] at ih ⊢; rw [ih]; rfl
theorem r_inStrs {k : Str} {t : Tok} {l : Addr} {vs : List Value} {xs : List Str} {Q : Value → Shared → Prop} (hl : Wls h.get? l vs) (H : Strs vs xs) (hQ : Q (.bool (xs.any (· == k))) (mkS s h tk)) :
    wpAny (model prog w) A (compareOp .In (.str k t) (.ref l)) Q E (mkS s h tk) := by
  refine SeqInW.in_listW (s := mkS s h tk) (isStrOf k) (fun y hy => eq_isStrOf k t H y (by simpa using hy)) hl.isList ?_
  rw [any_isStr H]; exact hQ
theorem r_notInStrs {k : Str} {t : Tok} {l : Addr} {vs : List Value} {xs : List Str} {Q : Value → Shared → Prop} (hl : Wls h.get? l vs) (H : Strs vs xs) (hQ : Q (.bool (!xs.any (· == k))) (mkS s h tk)) :
    wpAny (model prog w) A (compareOp .NotIn (.str k t) (.ref l)) Q E (mkS s h tk) := by
  refine SeqInW.notIn_listW (s := mkS s h tk) (isStrOf k) (fun y hy => eq_isStrOf k t H y (by simpa using hy)) hl.isList ?_
  rw [any_isStr H]; exact hQ
theorem strs_get {vs : List Value} {xs : List Str} (H : Strs vs xs) : ∀ {i : Nat} (hi : i < xs.length), ∃ t, vs[i]? = some (.str xs[i] t) := by
  induction H with
  | nil => intro i hi; exact absurd hi (Nat.not_lt_zero _)
  | cons x t _ ih =>
    intro i hi
    cases i with
    | zero => exact ⟨t, rfl⟩
    | succ i => obtain ⟨t', e⟩ := ih (i := i) (by simpa using hi); exact ⟨t', by simpa using e⟩
theorem strs_len {vs : List Value} {xs : List Str} (H : Strs vs xs) : vs.length = xs.length := by
  induction H with
  | nil => rfl
  | cons x t _ ih => simp [ih]
theorem r_index {k : Str} {t : Tok} {l : Addr} {vs : List Value} {xs : List Str} {j : Nat} {Q : Value → Shared → Prop} (hl : Lst h.get? l vs) (H : Strs vs xs) (hj : j < xs.length) (he : xs[j] = k) (hn : ∀ i (hi : i < xs.length), i < j → xs[i] ≠ k) (hz : xs.length ≤ 1000000)
    (hQ : ∀ t tk', Q (.int j t) (mkS s h tk')) : wpAny (model prog w) A (call (.builtin "list.index") [.ref l, .str k t]) Q E (mkS s h tk) := by
  obtain ⟨o, ho, c, rfl⟩ := hl
  have hlen := strs_len H
  have key : ∀ i (hi : i < xs.length), isStrOf k (vs[i]'(by exact eqlt (by assumption) (by assumption))) = (xs[i] == k) := fun i hi => by
    obtain ⟨t', e⟩ := strs_get H hi
    have : vs[i]'(by exact eqlt (by assumption) (by assumption)) = .str xs[i] t' := by
      have := (List.getElem?_eq_some_iff.mp e).2; exact this
    rw [this]; rfl
  refine call_meets PySem.F.slot_list_index ⟨_, ho, rfl⟩ PySem.F.entry_list_index (PySem.F.args_list_index_2 _ _)
    (MeetsSeq.list_index l vs.toArray c (.str k t) (isStrOf k) (fun y hy => eq_isStrOf k t H y (by simpa using hy)) j (by simp; exact eqlt (by assumption) (by assumption)) (by (first | exact z242 hj hz | omega)) ?_ (fun i hi hlt => ?_)) ⟨ho, hQ _ _⟩
  · have := key j hj; simp only [List.getElem_toArray]; rw [this, he]; simp
  · have hi' : i < xs.length := by simp at hi; exact eqlt' (by assumption) (by assumption)
    have := key i hi'; simp only [List.getElem_toArray]; rw [this]
    simpa using hn i hi' hlt
theorem r_extend {b d : Addr} {vs ws : List Value} {Q : Value → Shared → Prop} (S : St g n h L m fs) (hb : Lst h.get? b ws) (R : Rep d (lstP vs) (lstP (vs ++ ws)) fs fs') (hz : vs.length + ws.length ≤ 1000000)
    (hQ : ∀ h' tk', St g n h' L m fs' → Q .none (mkS s h' tk')) : wpAny (model prog w) A (call (.builtin "list.extend") [.ref d, .ref b]) Q E (mkS s h tk) := by
  obtain ⟨o, ho, k, rfl⟩ := S.fAt R.mem
  obtain ⟨o2, ho2, k2, rfl⟩ := hb
  have zL : (1000000 : Nat) ≤ sizeLine := by rw [sizeLine_eq]; decide
  refine call_meets PySem.F.slot_list_extend ⟨_, ho, rfl⟩ PySem.F.entry_list_extend (PySem.F.args_list_extend_2 _ _)
    (PySem.AutoSeq1.list_extend_list_list_0 d vs.toArray k b ws.toArray k2 ?_ (by simp; (first | exact z243 hz zL | omega)) (by simp; exact Nat.le_trans (by assumption) (by decide))) ⟨ho, ho2, ?_⟩
  · have : Builtin.List.listTooLong (vs.toArray.size + ws.toArray.size) = false := by
      unfold Builtin.List.listTooLong
      simp only [List.size_toArray]
      first
        | (apply decide_eq_false; (first | exact z244 hz zL | omega))
        | (simp; omega)
    rw [this, Bool.and_false]; exact Bool.false_ne_true
  · refine hQ _ _ (S.change R ?_ (Heap.SameBut.update ..))
    have e := get?_update_seq ho (fun xs => xs ++ ws.toArray)
    rw [show vs.toArray ++ ws.toArray = (vs ++ ws).toArray by simp] at e
    exact ⟨_, e, _, rfl⟩
theorem r_pop0 {d : Addr} {v : Value} {vs : List Value} {t : Tok} {Q : Value → Shared → Prop} (S : St g n h L m fs) (R : Rep d (lstP (v :: vs)) (lstP vs) fs fs') (hz : vs.length ≤ 1000000)
    (hQ : ∀ h' tk', St g n h' L m fs' → Q v (mkS s h' tk')) : wpAny (model prog w) A (call (.builtin "list.pop") [.ref d, .int 0 t]) Q E (mkS s h tk) := by
  obtain ⟨o, ho, k, rfl⟩ := S.fAt R.mem
  have zL : (1000000 : Nat) < sizeLine := by rw [sizeLine_eq]; decide
  refine call_meets PySem.F.slot_list_pop ⟨_, ho, rfl⟩ PySem.F.entry_list_pop (PySem.F.args_list_pop_2 _ _)
    (PySem.MeetsSeq.list_pop_at d (v :: vs).toArray k 0 t 0 v (by decide) (by simp [seqIndex?]) (by simp) (by simp; (first | exact z245 hz zL | omega))) ⟨ho, ?_⟩
  refine hQ _ _ (S.change R ?_ (Heap.SameBut.update ..))
  have e := get?_update_seq ho (fun xs => xs.eraseIdxIfInBounds 0)
  rw [show (v :: vs).toArray.eraseIdxIfInBounds 0 = vs.toArray by simp [Array.eraseIdxIfInBounds]] at e
  exact ⟨_, e, _, rfl⟩
theorem r_ladd {a b : Addr} {vs ws : List Value} {Q : Value → Shared → Prop} (S : St g n h L m fs) (ha : Wls h.get? a vs) (hb : Wls h.get? b ws) (hz : vs.length + ws.length ≤ 1000000)
    (hQ : ∀ d h' tk', St g n h' L m ((d, lstP (vs ++ ws)) :: fs) → Q (.ref d) (mkS s h' tk')) : wpAny (model prog w) A (binaryOp .Add (.ref a) (.ref b)) Q E (mkS s h tk) := by
  obtain ⟨⟨c1, d1, D1, s1⟩, ho, e1, k1, e2⟩ := ha
  obtain ⟨⟨c2, d2, D2, s2⟩, ho2, e3, k2, e4⟩ := hb
  simp only at e1 e2 e3 e4
  subst e1 e2 e3 e4
  have zL : (1000000 : Nat) ≤ sizeLine := by rw [sizeLine_eq]; decide
  refine concat_meets ⟨_, ho, rfl⟩ ⟨_, ho2, rfl⟩ noFill_list_add seq_list_add PySem.F.slot_list_add PySem.F.entry_list_add (PySem.F.args_list_add_2 _ _) (list_addW a b vs.toArray ws.toArray k1 k2 d1 d2 s1 s2 (by simp; exact Nat.le_trans (by assumption) (by assumption))) ⟨ho, ho2, ?_⟩
  rw [show vs.toArray ++ ws.toArray = (vs ++ ws).toArray by simp]
  exact hQ _ _ _ (S.own (fresh_size h) (Le.push _ _) ⟨_, Heap.get?_push_size _ rfl, 0, rfl⟩)
theorem r_slice {value slice : Expr} {a : Addr} {vs ws : List Value} {vl vu : Value} {lo hi : Option Int} {Q : Value → Shared → Prop} (S : St g n h L m fs) (ha : Wls h.get? a vs) (pl : IsPart vl lo) (pu : IsPart vu hi) (hw : slicePick vs.toArray lo hi none = ws.toArray) (hz : vs.length ≤ 1000000)
    (hQ : ∀ d h' tk', St g n h' L m ((d, lstP ws) :: fs) → Q (.ref d) (mkS s h' tk'))
    (hs : subscripted slice false (.ref a) (.ref h.objs.size) = operate [.ref h.objs.size, .ref a] (getItem (.ref a) (.ref h.objs.size)) := by with_unfolding_all rfl)
    (ht : ∀ r, letTemporaryGo value (.ref a) r = pure () := by intro _; with_unfolding_all rfl) :
    wpAny (model prog w) A (subscriptTail value slice (.ref a) (.ref h.objs.size)) Q E (mkS s (h.push { cls := .type "slice", data := .fields #[vl, vu, .none] }) tk) := by
  have ha' : (h.push { cls := .type "slice", data := .fields #[vl, vu, .none] }).IsList a vs.toArray := Heap.IsList.push ha.isList _
  have zL : (1000000 : Nat) ≤ sizeLine := by rw [sizeLine_eq]; decide
  refine subscriptTail_ops (Heap.IsList.typeIs (s := mkS s _ tk) ha') slot_list_getitem.lookup
    (wpAny_getItem_list_slice (s := mkS s _ tk) ha' (Heap.IsSliceOf.new ..) pl pu .none (by simp) ?_ (by simp; exact Nat.le_trans (by assumption) (by assumption))) hs ht
  rw [hw]
  refine hQ _ _ _ (S.own ?_ ((Le.push _ _).trans (Le.push _ _)) ⟨_, Heap.get?_push_size _ rfl, 0, rfl⟩)
  cases q : h.get? (mkS s (h.push { cls := .type "slice", data := .fields #[vl, vu, .none] }) tk).heap.objs.size with
  | none => rfl
  | some o =>
    have h1 := Heap.lt_size q
    have h2 : (h.push { cls := .type "slice", data := .fields #[vl, vu, .none] }).objs.size = h.objs.size + 1 := Heap.size_push ..
    exact absurd h1 (by show ¬ (h.push _).objs.size < h.objs.size; rw [h2]; (first | exact z60 | omega))
theorem r_titem {value slice : Expr} {a : Addr} {vs : List Value} {k : Int} {u : Tok} {j : Nat} {v : Value} {Q : Value → Shared → Prop} (hl : Tup h.get? a vs) (hk : k = (j : Int)) (hx : vs[j]? = some v) (hz : vs.length ≤ 1000000) (hQ : Q v (mkS s h tk))
    (hs : subscripted slice false (.ref a) (.int k u) = operate [.ref a, .int k u] (getItem (.ref a) (.int k u)) := by with_unfolding_all rfl) :
    wpAny (model prog w) A (subscriptTail value slice (.ref a) (.int k u)) Q E (mkS s h tk) := by
  subst hk
  obtain ⟨hj, -⟩ := List.getElem?_eq_some_iff.mp hx
  have h0 : ¬ ((j : Int) < 0) := by (first | exact z122 | omega)
  have e : seqIndex? (j : Int) vs.length = some j := by simp [seqIndex?, hj, h0]
  exact item_tupleT (s := mkS s h tk) hl.isTup (by (first | exact z246 | omega)) (by exact lt63 (ltle (by assumption) (Nat.le_trans (by assumption) (by decide)))) e hx hQ hs
theorem r_setItem {a : Addr} {vs : List Value} {k : Int} {t : Tok} {v : Value} {i : Nat} {Q : Unit → Shared → Prop} (S : St g n h L m fs) (R : Rep a (wlsP vs) (wlsP (vs.set i v)) fs fs') (hk : k = (i : Int)) (hi : i < vs.length) (hz : vs.length ≤ 1000000)
    (hQ : ∀ h' tk', St g n h' L m fs' → Q () (mkS s h' tk')) : wpAny (model prog w) A (setItem (.ref a) (.int k t) v) Q E (mkS s h tk) := by
  subst hk
  have hl : Wls h.get? a vs := S.fAt R.mem
  refine wpAny_setItem_list (s := mkS s h tk) hl.isList (by exact Int.natCast_nonneg _) (by exact lt63 (ltle (by assumption) (Nat.le_trans (by assumption) (by decide)))) (by simpa using hi) fun h' hl' hs => hQ _ _ (S.change R ?_ hs)
  have : vs.toArray.setIfInBounds (i : Int).toNat v = (vs.set i v).toArray := by simp
  rw [this] at hl'
  exact hl'

/-! comparisons of what can be read -/
theorem r_eqD {a b : Value} {da db : PyData} {as bs : List Addr} {Q : Value → Shared → Prop} (ha : Reads h a da as) (hb : Reads h b db bs) (sa : SeqAt.shaped da = true) (sb : SeqAt.shaped db = true) (hu : A.units + 64 < cLine) (hQ : Q (.bool (da.eqv db)) (mkS s h tk)) :
    wpAny (model prog w) A (compareOp .Eq a b) Q E (mkS s h tk) := eq_dataH (s := mkS s h tk) ha hb sa sb hu hQ
theorem r_neD {a b : Value} {da db : PyData} {as bs : List Addr} {Q : Value → Shared → Prop} (ha : Reads h a da as) (hb : Reads h b db bs) (sa : SeqAt.shaped da = true) (sb : SeqAt.shaped db = true) (hu : A.units + 64 < cLine) (hQ : Q (.bool (!da.eqv db)) (mkS s h tk)) :
    wpAny (model prog w) A (compareOp .NotEq a b) Q E (mkS s h tk) := ne_dataH (s := mkS s h tk) ha hb sa sb hu hQ

/-! dicts of ints -/
noncomputable abbrev dctP (prog : Program) (w : World) (kvs : List (Int × Value)) : Obj → Prop := fun o => o.IsDictOf (intKind prog w) kvs
theorem r_dict0 {pos : Pos} {Q : Value → Shared → Prop} (S : St g n h L m fs) (G : Gn w h.get?) (hQ : ∀ d h' tk', St g n h' L m ((d, dctP prog w []) :: fs) → (d == sysModules) = false → Q (.ref d) (mkS s h' tk')) :
    wpAny (model prog w) A (eval (.Dict [] [] pos) env) Q E (mkS s h tk) := by
  have hlo : (h.objs.size == sysModules) = false := beq_eq_false_iff_ne.mpr (Nat.ne_of_gt (modules_low G.nolimit))
  refine wpAny_Dict_empty (hQ _ _ _ (S.own (fresh_size h) (Le.push _ _) ?_) hlo)
  obtain ⟨o, ho, hd⟩ := Heap.dictOf_iff.mp (Heap.DictOf.new (knd := intKind prog w) h)
  exact ⟨o, ho, hd⟩
theorem r_dictSet {d : Addr} {kvs : List (Int × Value)} {k : Int} {t : Tok} {v : Value} {Q : Unit → Shared → Prop} (S : St g n h L m fs) (R : Rep d (dctP prog w kvs) (dctP prog w (stored kvs k v)) fs fs') (hz : kvs.length ≤ 1000000)
    (hQ : ∀ h' tk', St g n h' L m fs' → Q () (mkS s h' tk')) : wpAny (model prog w) A (setItem (.ref d) (.int k t) v) Q E (mkS s h tk) := by
  have zL : (1000000 : Nat) ≤ sizeLine := by rw [sizeLine_eq]; decide
  refine wpAny_setItem_pairs (s := mkS s h tk) (intKind_is prog w k t) (Heap.dictOf_iff.mpr (S.fAt R.mem)) (fun h' hd hs => hQ _ _ (S.change R (Heap.dictOf_iff.mp hd) hs)) (Nat.le_trans hz zL)
end
end Mine
end

section
open PySem PySem.W PyProof.Rows
set_option maxRecDepth 100000
namespace Mine

section
variable {M : Model} {prog : Program} {w : World} {A : Around} {E : Value → Shared → Prop} {s : Shared} {env : Env} {g n : PM} {h h' : Heap} {tk : Nat} {m : Str → Option Value} {fs fs' : Fs} {L : Addr}

/-- a tuple is made: frozen at once -/
theorem r_tup {vs : List Value} {Q : Value → Shared → Prop} (S : St g n h L m fs) (hz : vs.length ≤ 1000000) (hQ : ∀ d n' h' tk', Le n n' → Tup n' d vs → h.get? d = none → St g n' h' L m fs → Q (.ref d) (mkS s h' tk')) :
    wpAny M A (newTuple vs) Q E (mkS s h tk) := by
  have zL : (1000000 : Nat) ≤ sizeLine := by rw [sizeLine_eq]; decide
  refine wpAny_newObj_type ?_ (by show vs.toArray.size ≤ sizeLine; simpa using Nat.le_trans hz zL)
  obtain ⟨n', a, b, c⟩ := (S.own (P := tupP vs) (h' := h.push { cls := .type "tuple", data := .seq vs.toArray }) (fresh_size h) (Le.push _ _) ⟨_, Heap.get?_push_size _ rfl, rfl, 0, rfl⟩).freeze
  exact hQ _ _ _ _ a b (fresh_size h) c

/-- x.append(e) -/
theorem x_append {x : Str} {e : Expr} {np ap cp sp : Pos} {d : Addr} {vs : List Value} {Q : Flow → Shared → Prop} (S : St g n h L m fs) (hx : m x = some (.ref d)) (hd : (d, lstP vs) ∈ fs)
    (hQ : wpAny (model prog w) A (eval e env) (fun v s₂ => wpAny (model prog w) A (call (.builtin "list.append") [.ref d, v]) (fun r s₃ => match r with | .ref _ => False | _ => Q .next s₃) E s₂) E (mkS s h tk))
    (hL : env.locals = L := by rfl) (hk : env.scope.kind = .function := by rfl) (hl : env.kindOf x = some .local := by rfl) (hdb : (x == ("__debug__" : Str)) = false := by decide)
    (he : starEach [e] env = (false, eval e env) :: starEach [] env := by rfl)
    (hi : interactive env = false := by rfl) (hs : swapsWith (.Call (.Attribute (.Name x np) "append" ap) [e] [] cp) none sp.line env = pure false := by rfl)
    (hm : ∃ pl, eval (.Call (.Attribute (.Name x np) "append" ap) [e] [] cp) env = (do
          let ov ← eval (.Name x np) env
          standAt ap.atName
          match ← holding [ov] (getMethod ov "append" pl) with
          | (f, first) => callWith cp f first (backTo cp (starEach [e] env)) []) := by exact ⟨_, rfl⟩) :
    wpAny (model prog w) A (exec (.Expr (.Call (.Attribute (.Name x np) "append" ap) [e] [] cp) sp) env) Q E (mkS s h tk) := by
  obtain ⟨pl, hm⟩ := hm
  refine wpAny_Expr ?_ hi hs
  refine MethodCall_ (pl := pl) (r_name S hx (r_lmeth (S.fAt hd) PySem.F.slot_list_append PySem.F.type_list_append ?_) hL hk hl hdb) hm
  exact PyProof.Rows.callWith_method1 (spliced_more (wpAny_mono hQ (fun v s₂ h₂ => Calls.spliced_nil h₂) fun _ _ e => e) he) he

theorem x_appendS {x : Str} {e : Expr} {np ap cp sp : Pos} {rest : List Stmt} {d : Addr} {vs : List Value} {P : Flow → Shared → Prop} (S : St g n h L m fs) (hx : m x = some (.ref d)) (hd : (d, lstP vs) ∈ fs)
    (hQ : ∀ N : Value → Shared → Prop, (∀ v s₂, wpAny (model prog w) A (call (.builtin "list.append") [.ref d, v]) (fun r s₃ => match r with | .ref _ => False | _ => wpAny (model prog w) A (execs rest env) P E s₃) E s₂ → N v s₂) → wpAny (model prog w) A (eval e env) N E (mkS s h tk))
    (hL : env.locals = L := by rfl) (hk : env.scope.kind = .function := by rfl) (hl : env.kindOf x = some .local := by rfl) (hdb : (x == ("__debug__" : Str)) = false := by decide)
    (he : starEach [e] env = (false, eval e env) :: starEach [] env := by rfl)
    (hi : interactive env = false := by rfl) (hs : swapsWith (.Call (.Attribute (.Name x np) "append" ap) [e] [] cp) none sp.line env = pure false := by rfl)
    (hm : ∃ pl, eval (.Call (.Attribute (.Name x np) "append" ap) [e] [] cp) env = (do
          let ov ← eval (.Name x np) env
          standAt ap.atName
          match ← holding [ov] (getMethod ov "append" pl) with
          | (f, first) => callWith cp f first (backTo cp (starEach [e] env)) []) := by exact ⟨_, rfl⟩) :
    wpAny (model prog w) A (execs (.Expr (.Call (.Attribute (.Name x np) "append" ap) [e] [] cp) sp :: rest) env) P E (mkS s h tk) :=
  wpAny_execs_cons (x_append S hx hd (hQ _ fun _ _ x => x) hL hk hl hdb he hi hs hm)

/-- an owned object joins what stands still -/
theorem St.freezeG {a : Addr} {P : Obj → Prop} (S : St g n h L m ((a, P) :: fs)) : ∃ g', Le g g' ∧ At g' a P ∧ St g' n h L m fs := by
  classical
  obtain ⟨⟨o, ho, hP⟩, hL, hg, hn⟩ := S.fx (a, P) (.head _)
  have hnd := S.nd
  rw [List.map_cons, List.nodup_cons] at hnd
  let q : PM := fun b => if b = a then some o else none
  have hq : ∀ b x, q b = some x → b = a ∧ x = o := fun b x e => by
    by_cases z : b = a
    · exact ⟨z, by simp [q, z] at e; exact e.symm⟩
    · simp [q, z] at e
  have S' := (S.sub (List.sublist_cons_self ..)).hold (q := q) (fun b x e => by obtain ⟨rfl, rfl⟩ := hq b x e; exact ho) (by simp [q, Ne.symm hL]) (fun b x e => by obtain ⟨rfl, rfl⟩ := hq b x e; exact hn)
    (fun p hp => by
      have : p.1 ≠ a := fun z => hnd.1 (List.mem_map.mpr ⟨p, hp, z⟩)
      simp [q, this])
  exact ⟨_, fun b x e => by simp [e], ⟨o, by simp [q, hg], hP⟩, S'⟩

theorem St.freezeG' {a : Addr} {P : Obj → Prop} (S : St g n h L m ((a, P) :: fs)) {p : Prop} (k : ∀ g', Le g g' → At g' a P → St g' n h L m fs → p) : p := let ⟨g', a, b, c⟩ := S.freezeG; k g' a b c
theorem r_eqInts {a b : Addr} {vs us : List Value} {ns ms : List Int} {Q : Value → Shared → Prop} (ha : Wls h.get? a vs) (hb : Wls h.get? b us) (hi : IntsAre vs ns) (hj : IntsAre us ms) (hu : A.units + 64 < cLine) (hQ : Q (.bool (decide (ns = ms))) (mkS s h tk)) :
    wpAny (model prog w) A (compareOp .Eq (.ref a) (.ref b)) Q E (mkS s h tk) := eq_intsK (s := mkS s h tk) ha.isList hi hb.isList hj hu hQ

/-! instances -/
noncomputable abbrev insP (C dx : Addr) : Obj → Prop := fun o => o = instObj C dx
noncomputable abbrev dicP (es : List DictEntry) : Obj → Prop := fun o => ∃ k, o = dictOf es k
structure Ins (p : PM) (x C dx : Addr) (es : List DictEntry) : Prop where
  i : At p x (insP C dx)
  d : At p dx (dicP es)
theorem Ins.le {p q : PM} {x C dx : Addr} {es : List DictEntry} (I : Ins p x C dx es) (k : Le p q) : Ins q x C dx es := ⟨I.i.le k, I.d.le k⟩
theorem Ins.at {x C dx : Addr} {es : List DictEntry} (I : Ins h.get? x C dx es) : ∃ k, W.InstAt h x (instObj C dx) C (some (dictOf es k)) := by
  obtain ⟨⟨o, e, rfl⟩, ⟨o', e', k, rfl⟩⟩ := I
  exact ⟨k, e, rfl, rfl, e'⟩
theorem r_attr {x C dx : Addr} {es : List DictEntry} {name : Str} {expr : Bool} {v : Value} {Q : Value → Shared → Prop} (G : Gn w h.get?) (I : Ins h.get? x C dx es)
    (hg : findIn (KK w) (.ref C) "__getattribute__" = some (some (.builtin "object.__getattribute__"))) (hh : hasDictIn (KK w) C = true) (ha : findIn (KK w) (.ref C) name = some none)
    (hl : getL name es = some (some v)) (hv : handedIn v = true) (hQ : ∀ tk', Q v (mkS s h tk')) : wpAny (model prog w) A (getAttr (.ref x) name expr) Q E (mkS s h tk) := by
  obtain ⟨k, I⟩ := I.at
  exact get_value (s := mkS s h tk) G.in I hg (findObj_own hh ha rfl (by rw [lookIn_dict]; exact hl)) hv (hQ _)

/-! cells -/
noncomputable abbrev celP (v : Value) : Obj → Prop := fun o => o.data = .cell (some v)
theorem r_cell {x : Str} {pos : Pos} {c : Addr} {v : Value} {Q : Value → Shared → Prop} (hc : At h.get? c (celP v)) (hQ : Q v (mkS s h tk))
    (hk : env.scope.kind = .function := by rfl) (hl : env.kindOf x = some .cell := by rfl) (hn : env.cells.lookup x = some c := by rfl) (hd : (x == ("__debug__" : Str)) = false := by decide) :
    wpAny M A (eval (.Name x pos) env) Q E (mkS s h tk) := wpAny_Name (wpAny_loadName_cell hk hl hn hc hQ) hd
end
end Mine
end

section
open PySem PySem.W PyProof.Rows PyProof.V
set_option maxRecDepth 100000
namespace Mine

/-! dicts from ints to ints -/
noncomputable def encD (D : List (Int × Int)) : List (PyData × PyData) := D.map fun p => (.int p.1, .int p.2)
noncomputable abbrev dP (prog : Program) (w : World) (D : List (Int × Int)) : Obj → Prop := fun o => ∃ kvs, o.IsDictOf (intKind prog w) kvs ∧ FlatPairs PyData.int kvs (encD D)
theorem lookup_encD (i : Int) : ∀ D : List (Int × Int), PySem.Spec.lookup (.int i) (encD D) = (D.lookup i).map PyData.int
  | [] => rfl
  | (a, b) :: r => by
    show (if PySem.Spec.same (.int a) (.int i) = true then some (PyData.int b) else PySem.Spec.lookup (.int i) (encD r)) = _
    rw [same_int, List.lookup_cons, lookup_encD i r]
    by_cases q : a = i
    · subst q; simp
    · have : (i == a) = false := by simpa using Ne.symm q
      simp [q, this]
theorem flat_int {v : Value} {n : Int} (F : PyProof.V.Flat v (.int n)) : ∃ t, v = .int n t := by
  cases F {} with
  | int i t => exact ⟨t, rfl⟩

section
variable {M : Model} {prog : Program} {w : World} {A : Around} {E : Value → Shared → Prop} {s : Shared} {env : Env} {g n : PM} {h h' : Heap} {tk : Nat} {m : Str → Option Value} {fs fs' : Fs} {L : Addr} {d : Addr} {D : List (Int × Int)}

theorem dP.tab (x : At h.get? d (dP prog w D)) (lo : (d == sysModules) = false) : IntTab prog w h d (encD D) := by
  obtain ⟨o, ho, kvs, a, b⟩ := x
  exact ⟨lo, kvs, Heap.dictOf_iff.mpr ⟨o, ho, a⟩, b⟩
theorem r_dNew {pos : Pos} {Q : Value → Shared → Prop} (S : St g n h L m fs) (G : Gn w h.get?) (hQ : ∀ d h' tk', St g n h' L m ((d, dP prog w []) :: fs) → (d == sysModules) = false → Q (.ref d) (mkS s h' tk')) :
    wpAny M A (eval (.Dict [] [] pos) env) Q E (mkS s h tk) := by
  have hlo : (h.objs.size == sysModules) = false := beq_eq_false_iff_ne.mpr (Nat.ne_of_gt (modules_low G.nolimit))
  refine wpAny_Dict_empty (hQ _ _ _ (S.own (fresh_size h) (Le.push _ _) ?_) hlo)
  obtain ⟨o, ho, hd⟩ := Heap.dictOf_iff.mp (Heap.DictOf.new (knd := intKind prog w) h)
  exact ⟨o, ho, [], hd, .nil⟩
theorem r_dIn {i : Int} {t : Tok} {Q : Value → Shared → Prop} (x : At h.get? d (dP prog w D)) (lo : (d == sysModules) = false) (hQ : ∀ tk', Q (.bool (D.lookup i).isSome) (mkS s h tk')) :
    wpAny (model prog w) A (compareOp .In (.int i t) (.ref d)) Q E (mkS s h tk) := by
  refine in_intTab (s := mkS s h tk) (dP.tab x lo) ?_
  rw [lookup_encD, Option.isSome_map]
  exact hQ _
theorem r_dGet {i e : Int} {t u : Tok} {Q : Value → Shared → Prop} (x : At h.get? d (dP prog w D)) (lo : (d == sysModules) = false) (hQ : ∀ t tk', Q (.int ((D.lookup i).getD e) t) (mkS s h tk')) :
    wpAny (model prog w) A (call (.builtin "dict.get") [.ref d, .int i t, .int e u]) Q E (mkS s h tk) := by
  refine call_get2_intTab (s := mkS s h tk) (dP.tab x lo) (PyProof.V.Flat.int e u) fun v F => ?_
  rw [lookup_encD] at F
  have : ((D.lookup i).map PyData.int).getD (.int e) = PyData.int ((D.lookup i).getD e) := by cases D.lookup i <;> rfl
  rw [this] at F
  obtain ⟨t, rfl⟩ := flat_int F
  exact hQ _ _
theorem r_dGetM {pl : Sem Bool} {Q : Value × List Value → Shared → Prop} (x : At h.get? d (dP prog w D)) (lo : (d == sysModules) = false) (hQ : Q (.builtin "dict.get", [.ref d]) (mkS s h tk)) :
    wpAny (model prog w) A (getMethod (.ref d) "get" pl) Q E (mkS s h tk) := getMethod_intTab_get (s := mkS s h tk) (dP.tab x lo) hQ
theorem r_dSet {k v : Int} {t u : Tok} {Q : Unit → Shared → Prop} (S : St g n h L m fs) (R : Rep d (dP prog w D) (dP prog w (D ++ [(k, v)])) fs fs') (hk : D.lookup k = none) (hz : D.length ≤ 1000000)
    (hQ : ∀ h' tk', St g n h' L m fs' → Q () (mkS s h' tk')) : wpAny (model prog w) A (setItem (.ref d) (.int k t) (.int v u)) Q E (mkS s h tk) := by
  have zL : (1000000 : Nat) ≤ sizeLine := by rw [sizeLine_eq]; decide
  obtain ⟨o, ho, kvs, a, b⟩ := S.fAt R.mem
  have hlen : kvs.length = D.length := by have := b.length; simp [encD] at this; exact Eq.symm (by assumption)
  refine wpAny_setItem_pairs (s := mkS s h tk) (intKind_is prog w k t) (Heap.dictOf_iff.mpr ⟨o, ho, a⟩) (fun h' hd hs => hQ _ _ (S.change R ?_ hs)) (by exact eqle (by assumption) (Nat.le_trans (by assumption) (by decide)))
  obtain ⟨o', ho', a'⟩ := Heap.dictOf_iff.mp hd
  refine ⟨o', ho', _, a', ?_⟩
  have hf := b.stored same_int k (PyProof.V.Flat.int v u)
  have : putD (.int k) (.int v) (encD D) = encD (D ++ [(k, v)]) := by
    unfold putD
    have hn : ((encD D).any fun p => PySem.Spec.same p.1 (.int k)) = false := by
      clear hf a' a b hlen hQ R
      induction D with
      | nil => rfl
      | cons p r ih =>
        rw [List.lookup_cons] at hk
        by_cases q : (k == p.1) = true
        · rw [q] at hk; cases hk
        · have q' : (k == p.1) = false := by simpa using q
          rw [q'] at hk
          have q'' : ¬ p.1 = k := fun e => q (by rw [e]; simp)
          have := ih hk (by simp at hz; exact Nat.le_trans (by assumption) (by decide))
          show (PySem.Spec.same (.int p.1) (.int k) || (encD r).any fun p => PySem.Spec.same p.1 (.int k)) = false
          rw [this, same_int]
          simp [q'']
    rw [hn]
    simp [encD]
  rw [this] at hf
  exact hf
end

/-- a test whose ways meet -/
theorem cut_test {M : Model} {A : Around} {E : Value → Shared → Prop} {s : Shared} {h : Heap} {tk : Nat} {t : Sem Bool} {Q : Bool → Shared → Prop} (b₀ : Bool) (h1 : ∀ N : Bool → Shared → Prop, (∀ b tk', b = b₀ → N b (mkS s h tk')) → wpAny M A t N E (mkS s h tk)) (h2 : ∀ tk', Q b₀ (mkS s h tk')) :
    wpAny M A t Q E (mkS s h tk) := h1 Q fun b tk e => e ▸ h2 tk

/-! the table -/
structure Tbl where
  codes : List (Int × Int)
  turned : Bool
  barred : List Int
  becomes : List Int
  del : Bool
  sq : Bool
structure IsTbl (prog : Program) (w : World) (p : PM) (x : Addr) (T : Tbl) : Prop where
  ok : X7 fun dx es cd b c bs cs => N8 (Ins p x 71 dx es) (getL "codes" es = some (some (.ref cd))) (getL "is_turned" es = some (some (.bool T.turned))) (getL "barred" es = some (some (.ref b))) (getL "becomes" es = some (some (.ref c)))
    (getL "is_deleting" es = some (some (.bool T.del))) (getL "is_squeezing" es = some (some (.bool T.sq))) (N6 (At p cd (dP prog w T.codes)) ((cd == sysModules) = false) (Lst p b bs) (IntsAre bs T.barred) (Lst p c cs) (IntsAre cs T.becomes))
theorem IsTbl.le {prog : Program} {w : World} {p q : PM} {x : Addr} {T : Tbl} (I : IsTbl prog w p x T) (k : Le p q) : IsTbl prog w q x T := by
  obtain ⟨dx, es, cd, b, c, bs, cs, i, h1, h2, h3, h4, h5, h6, h7, h8, h9, h10, h11, h12⟩ := I.ok
  exact ⟨dx, es, cd, b, c, bs, cs, i.le k, h1, h2, h3, h4, h5, h6, h7.le k, h8, h9.le k, h10, h11.le k, h12⟩
end Mine
end

section
open PySem PySem.W PyProof.Rows PyProof.V
set_option maxRecDepth 100000
set_option linter.all false
namespace Mine

/-! frames that stand, and an exception that flies through them -/
noncomputable def Frs (h : Heap) (outer : List Env) : Prop := ∀ env ∈ outer, env.scope.kind ≠ .module ∧ ∃ L o, env.frame = some L ∧ h.get? L = some o ∧ ∀ vs, o.data ≠ .fields vs
noncomputable abbrev frs (outer : List Env) : List Addr := outer.filterMap (·.frame)
theorem Frs.le {h h' : Heap} {outer : List Env} (F : Frs h outer) (k : Le h.get? h'.get?) : Frs h' outer := fun env he =>
  let ⟨a, L, o, b, c, d⟩ := F env he; ⟨a, L, o, b, k _ _ c, d⟩
theorem Frs.fun {h : Heap} : ∀ {outer : List Env} {base : Heap}, Frs h outer → (∀ a ∈ frs outer, base.get? a = none) → h.FunFrames base outer
  | [], _, _, _ => trivial
  | env :: r, base, F, hb => by
    obtain ⟨a, L, o, b, c, d⟩ := F env (.head _)
    refine ⟨a, ⟨L, o, b, hb L (List.mem_filterMap.mpr ⟨env, .head _, b⟩), c, d⟩, Frs.fun (fun e he => F e (.tail _ he)) fun x hx => hb x ?_⟩
    obtain ⟨e, he, q⟩ := List.mem_filterMap.mp hx
    exact List.mem_filterMap.mpr ⟨e, .tail _ he, q⟩
theorem Frs.mem {h : Heap} {outer : List Env} (F : Frs h outer) {a : Addr} (ha : a ∈ frs outer) : ∃ o, h.get? a = some o := by
  obtain ⟨env, he, q⟩ := List.mem_filterMap.mp ha
  obtain ⟨_, L, o, b, c, _⟩ := F env he
  rw [b] at q; cases q
  exact ⟨o, c⟩

/-- an exception of class 51 has left: what stood (but the frames) stands -/
noncomputable def Raised (h : Heap) (outer : List Env) (e : Addr) (h' : Heap) : Prop := (∃ a0, Heap.FlyingW (hideAll h (frs outer)) outer e (.ref 51) a0 h') ∧ h.UpToSlots h'
/-- a new one -/
structure DieAt (h h' : Heap) (e : Addr) : Prop where
  k : Le h.get? h'.get?
  new : h.get? e = none
  obj : X3 fun (oe : Obj) (vs : Array Value) (a0 : Value) => N5 (h'.get? e = some oe) (oe.cls = .ref 51) (oe.data = .fields vs) (vs[0]? = some a0) (vs[1]? = some .none)

section
variable {M : Model} {prog : Program} {w : World} {A : Around} {E : Value → Shared → Prop} {s : Shared} {env : Env} {g n : PM} {h h₀ h₁ h' : Heap} {tk : Nat} {m : Str → Option Value} {fs : Fs} {L e : Addr} {outer : List Env}

theorem frs_cons (hf : env.frame = some L) : frs (env :: outer) = L :: frs outer := by simp [frs, hf]
theorem St.frames (S : St g n h L m fs) (F : Frs h outer) (hf : env.frame = some L) (hk : env.scope.kind = .function) : Frs h (env :: outer) := fun x hx => by
  rcases List.mem_cons.mp hx with rfl | hx
  · obtain ⟨o, es, ep, e, d, _⟩ := S.ns
    exact ⟨by rw [hk]; decide, L, o, hf, e, fun vs q => by rw [d] at q; cases q⟩
  · exact F x hx
/-- the base of the outer frames lies in the base of the inner ones -/
theorem base_in (k : Le h₀.get? h.get?) (hL : h₀.get? L = none) : (hideAll h₀ (frs outer)).StaysIn (hideAll h (L :: frs outer)) := fun b o q => by
  have q' := of_hideAll _ q
  refine hideAll_get _ (k _ _ q') fun hm => ?_
  rcases List.mem_cons.mp hm with rfl | hm
  · rw [hL] at q'; cases q'
  · rw [hideAll_none _ hm] at q; cases q

/-- a new exception leaves the frame in which it was raised -/
theorem leave_new {Q : Unit → Shared → Prop} (hA : A.frames = some (env :: outer)) (hf : env.frame = some L) (hk : env.scope.kind = .function)
    (F : Frs h outer) (kh : Le h₀.get? h.get?) (hL₀ : h₀.get? L = none) (S : St g n h L m fs) (D : DieAt h h₁ e)
    (hQ : ∀ h', Raised h₀ outer e h' → Q () (mkS s h' tk)) : wpAny M A (leaving env (.ref e)) Q E (mkS s h₁ tk) := by
  obtain ⟨k1, new, oe, vs, a0, he, hc, hd, h0, h1⟩ := D
  have F' : Frs h₁ (env :: outer) := (S.frames F hf hk).le k1
  have none0 : ∀ a, a ∈ L :: frs outer → (hideAll h₀ (frs outer)).get? a = none := fun a ha => by
    rcases List.mem_cons.mp ha with rfl | ha
    · cases q : (hideAll h₀ (frs outer)).get? a with
      | none => rfl
      | some o => rw [of_hideAll _ q] at hL₀; cases hL₀
    · exact hideAll_none _ ha
  have kk : Le h₀.get? h₁.get? := kh.trans k1
  refine wpAny_leaving_firstW (s := mkS s h₁ tk) (base := hideAll h₀ (frs outer)) (a0 := a0) hA (F'.fun fun a ha => none0 a (by rw [frs_cons hf] at ha; exact ha)) hf he (fun b o q => kk _ _ (of_hideAll _ q)) ?_ hd h1 h0 fun h' hL => ?_
  · cases q : (hideAll h₀ (frs outer)).get? e with
    | none => rfl
    | some o => rw [kh _ _ (of_hideAll _ q)] at new; cases new
  · obtain ⟨x1, ⟨_, _, x2⟩, x3, x4⟩ := hL
    refine hQ h' ⟨⟨a0, x1, ?_, x2, by rw [hc] at x3; exact x3⟩, (Heap.UpToSlots.of_keeps kk).trans x4⟩
    cases q : (hideAll h₀ (frs outer)).get? e with
    | none => rfl
    | some o => rw [kh _ _ (of_hideAll _ q)] at new; cases new
/-- one that a callee raised leaves the caller's frame too -/
theorem leave_on {Q : Unit → Shared → Prop} (hA : A.frames = some (env :: outer)) (hf : env.frame = some L) (kh : Le h₀.get? h.get?) (hL₀ : h₀.get? L = none) (R : Raised h (env :: outer) e h₁)
    (hQ : ∀ h', Raised h₀ outer e h' → Q () (mkS s h' tk)) : wpAny M A (leaving env (.ref e)) Q E (mkS s h₁ tk) := by
  obtain ⟨⟨a0, fl⟩, up⟩ := R
  rw [frs_cons hf] at fl
  exact wpAny_leaves_onW (s := mkS s h₁ tk) hA hf fl fun h' x1 x2 => hQ h' ⟨⟨a0, flyingW_base (base_in kh hL₀) x1⟩, ((Heap.UpToSlots.of_keeps kh).trans up).trans x2⟩

/-- the frame's own state behind an exception -/
theorem St.landed (S : St g n h L m fs) (hb : ∀ b o, h.get? b = some o → b ∉ L :: frs outer → h'.get? b = some o) (hg : ∀ a ∈ frs outer, g a = none ∧ n a = none ∧ ∀ p ∈ fs, p.1 ≠ a) (up : h.UpToSlots h') : St g n h' L m fs where
  ns := up.ns S.ns
  kg := fun b o e => hb b o (S.kg b o e) fun q => by
    rcases List.mem_cons.mp q with rfl | q
    · rw [S.gL] at e; cases e
    · rw [(hg b q).1] at e; cases e
  kn := fun b o e => hb b o (S.kn b o e) fun q => by
    rcases List.mem_cons.mp q with rfl | q
    · rw [S.nL] at e; cases e
    · rw [(hg b q).2.1] at e; cases e
  gL := S.gL
  nL := S.nL
  dj := S.dj
  fx := fun p hp => by
    obtain ⟨⟨o, e, r⟩, z⟩ := S.fx p hp
    refine ⟨⟨o, hb _ o e fun q => ?_, r⟩, z⟩
    rcases List.mem_cons.mp q with q | q
    · exact z.1 q
    · exact (hg _ q).2.2 p hp rfl
  nd := S.nd

/-- what a frame does with an exception: it lets it out -/
noncomputable abbrev LeaveE (M : Model) (A : Around) (env : Env) (E : Value → Shared → Prop) : Value → Shared → Prop := fun e s' => wpAny M A (leaving env e) (fun _ s'' => E e s'') (fun e' s'' => E e' s'') s'

/-- a call of a def of the text's that may raise -/
theorem enterE {Q : Value → Shared → Prop} {f : Addr} {oc : Value} {od an : Option Addr} {osl : Array (Option Value)} {name qual : Str} {params : Arguments} {body : List Stmt} {scope : Scope} {dV kV doc pm cdv ct : Value} {args : List Value} (binds : List (Str × Value))
    (G : Gn w h.get?) (ho : (KK w).lookup f = some ⟨oc, od, .func (fnOf name qual params body scope dV kV doc pm an cdv ct), osl⟩) (hcd : codeIn (KK w) cdv qual = true) (hroom : A.depth < recursionLimit)
    (hbind : bindArgs (fnOf name qual params body scope dV kV doc pm an cdv ct) ⟨args, []⟩ = pure binds) (hloc : (binds.all fun x => decide (scope.names.lookup x.1 = some .local)) = true)
    (hcell : (scope.names.all fun x => x.2 != .cell) = true)
    (hw : ∀ L h' tk', h.get? L = none → St h.get? (fun _ => none) h' L (fun y => binds.reverse.lookup y) [] →
      wpAny (model prog w) (A.deeper (envOf qual scope L f cdv)) (execs body (envOf qual scope L f cdv)) (rx Q) (LeaveE (model prog w) (A.deeper (envOf qual scope L f cdv)) (envOf qual scope L f cdv) E) (mkS s h' tk'))
    (hco : scope.isCoroutine = false := by rfl) (hgen : scope.isGenerator = false := by rfl) (hk : scope.kind = .function := by rfl) :
    wpAny (model prog w) A (call (.ref f) args) Q E (mkS s h tk) := by
  refine wpAny_call (codeAny_call_def (fd := fnOf name qual params body scope dV kV doc pm an cdv ct) (body := body) (binds := binds) hroom (G.kin _ _ ho) rfl G.nolimit (codeRec_of G.in hcd) rfl (BindsTo.of_eq hbind)
    (fun x hx => by simpa using List.all_eq_true.mp hcell x hx) (locs hloc) (fun h₁ hns hk₁ => ?_) hco hgen hk)
  refine wpAny_mono (hw h.objs.size h₁ (tk + binds.length) (fresh_size h) ⟨hns, hk₁, (fun _ _ e => nomatch e), fresh_size h, rfl, (fun _ _ e => nomatch e), (fun _ hp => nomatch hp), .nil⟩) (fun fl s' q => ?_) fun _ _ e => e
  cases fl <;> exact q
end
end Mine
end

section
open PySem PySem.W PyProof.Rows PyProof.V
set_option maxRecDepth 100000
set_option linter.all false
namespace Mine

/-! Die(..): the class 51, its making -/
section
variable {prog : Program} {w : World} {A : Around} {E : Value → Shared → Prop} {h : Heap} {g : Array GenState} {d : Drawn} {t : Nat} {os : OsState}
theorem die_cls' {p : Prop} (G : Gn w h.get?) (c : ∀ nm q bs sn sub ab col dd k0 k1 k2 k3 k5, h.get? 51 = some (excClassObj nm q 51 50 bs [.ref 31, .type "Exception", .type "BaseException", .type "object"] true sn sub ab col dd k0 k1 k2 k3 k5 "Exception.__new__") → p) : p := c _ _ _ _ _ _ _ _ _ _ _ _ _ (G.kin 51 _ rfl)

theorem die_made {rest : List Value} {Q : Fin → Shared → Prop} (G : Gn w h.get?) (hrest : rest.length ≤ sizeLine)
    (hq : ∀ h' e, Heap.MadeExcOf h h' e (.ref 51) rest → wpAny (model prog w) A (call (.ref 48) (.ref e :: rest)) (fun r s' => r = .none ∧ Q (.done (.ret (.ref e))) s') E ⟨h', g, d, t, os⟩) :
    wpAny (model prog w) A (Builtin.«type.__call__» ⟨.ref 51 :: rest, []⟩) Q E ⟨h, g, d, t, os⟩ := by
  have F := PySem.F.excBase_Exception
  refine die_cls' G fun nm q bs sn sub ab col dd k0 k1 k2 k3 k5 hC => ?_
  have c1 : ([Value.ref 51, .ref 31, .type "Exception", .type "BaseException", .type "object"]).contains (.type "Exception") = true := by decide
  have c2 : ([Value.ref 51, .ref 31, .type "Exception", .type "BaseException", .type "object"]).contains (.type "AttributeError") = false := by decide
  have c3 : ([Value.ref 51, .ref 31, .type "Exception", .type "BaseException", .type "object"]).contains (.type "NameError") = false := by decide
  have c4 : ([Value.ref 51, .ref 31, .type "Exception", .type "BaseException", .type "object"]).contains (.ref 51) = true := by decide
  repeat (first | with_reducible refine wpAny_loadPart_at hC ?_ | with_reducible refine wpAny_madeBy_exc hC ?_ | wp_step)
  refine codeAny_call_builtin_code (Code.quiet_builtin _ F.quiet) ?_
  have hstar := F.noStar
  simp only [checkBuiltinCall, F.newKind, F.newSplit, F.newRow]
  repeat (first | with_reducible refine wpAny_loadPart_at hC ?_ | (with_reducible refine wpAny_isSubtype_exc hC ?_; rw [c1]) | with_reducible refine wpAny_staticBase_exc hC ?_ | with_reducible refine wpAny_madeBy_exc hC ?_ | simp only [bne_self_eq_false, Bool.false_eq_true, if_false] | wp_step)
  have hends := F.ends
  refine codeAny_builtinAt F.entry ?_
  unfold Builtin.«BaseException.__new__»
  refine PySem.wpAt_bind ?_
  show PySem.wpAt _ _ _ (stack >>= _) _ _ _
  refine PySem.wpAt_bind (PySem.wpAt_stack fun p below => PySem.wpAt_of_wpAny ?_)
  wp_walk
  refine PySem.wpAt_of_wpAny ?_
  rw [F.owner]
  repeat (first | with_reducible refine wpAny_madeHere_exc F.canon hC ?_ | with_reducible refine wpAny_loadPart_at hC ?_ | (with_reducible refine wpAny_isSubtype_exc hC ?_; first | rw [c1] | rw [c2] | rw [c3]) | wp_step)
  have hgE : ((h.push { cls := .type "tuple", data := .seq rest.toArray }).push { cls := .ref 51, data := .fields #[.ref h.objs.size, .none, .none, .none, .bool false, .none] }).get? (h.push { cls := .type "tuple", data := .seq rest.toArray }).objs.size = some
      { cls := .ref 51, data := .fields #[.ref h.objs.size, .none, .none, .none, .bool false, .none] } := Heap.get?_push_size _ rfl
  have k : Le h.get? ((h.push { cls := .type "tuple", data := .seq rest.toArray }).push { cls := .ref 51, data := .fields #[.ref h.objs.size, .none, .none, .none, .bool false, .none] }).get? :=
    fun b o e => Heap.get?_push_of_some _ (Heap.get?_push_of_some _ e)
  have X := (G.le k).in
  have I : W.InstAt ((h.push { cls := .type "tuple", data := .seq rest.toArray }).push { cls := .ref 51, data := .fields #[.ref h.objs.size, .none, .none, .none, .bool false, .none] }) (h.push { cls := .type "tuple", data := .seq rest.toArray }).objs.size
      { cls := .ref 51, data := .fields #[.ref h.objs.size, .none, .none, .none, .bool false, .none] } 51 none := ⟨hgE, rfl, rfl, trivial⟩
  refine Looks.here (looks_subIn X (r := true) rfl) ?_
  rw [if_neg (by decide)]
  refine wpAny_bind (wpAny_holding (special_fn X I (f := 48) rfl rfl ?_))
  refine wpAny_mono (hq _ (h.push { cls := .type "tuple", data := .seq rest.toArray }).objs.size ⟨k, ?_, h.objs.size, hgE, fresh_size h, Heap.get?_push_of_some _ (Heap.get?_push_size _ rfl)⟩) (fun r s' hr => ?_) fun _ _ e => e
  · exact Heap.get?_none_of_le (by rw [Heap.size_push]; exact Nat.le_succ _)
  · obtain ⟨rfl, hQ⟩ := hr
    wp_walk
    exact hQ

theorem die_call {rest : List Value} {Q : Value → Shared → Prop} (G : Gn w h.get?) (hrest : rest.length ≤ sizeLine)
    (hq : ∀ h' e, Heap.MadeExcOf h h' e (.ref 51) rest → wpAny (model prog w) (A.under (.builtin "type.__call__" ⟨.ref 51 :: rest, []⟩)) (call (.ref 48) (.ref e :: rest)) (fun r s' => r = .none ∧ Q (.ref e) s') E ⟨h', g, d, t, os⟩) :
    wpAny (model prog w) A (call (.ref 51) rest) Q E ⟨h, g, d, t, os⟩ := by
  refine die_cls' G fun nm q bs sn sub ab col dd k0 k1 k2 k3 k5 hC => ?_
  have f1 := tc_lookup
  have f2 := tc_bind (.ref 51)
  have hT : (⟨h, g, d, t, os⟩ : Shared).TypeIs (.ref 51) "type" := ⟨_, hC, rfl⟩
  refine wpAny_call (codeAny_of_tree ?_)
  show wpAny _ _ (callAny (.ref 51) _) _ _ _
  repeat (any_goals (first | assumption | with_reducible refine wpAny_loadPart_at hC ?_ | wp_step))
  refine ⟨rfl, ?_⟩
  exact codeAny_call_builtin_at (Code.quiet_builtin _ (by decide +kernel)) entry_typeCall (wpAny_check_type_call_sub hC (die_made G hrest fun h' e hm => hq h' e hm))
end
end Mine
end

section
open PySem PySem.W PyProof.Rows PyProof.V
set_option maxRecDepth 100000
set_option linter.all false
namespace Mine
open Builtin Builtin.ObjectAttr

noncomputable abbrev PM0 : PM := fun _ => none
/-- the exception at work -/
structure Exc (g : PM) (L : Addr) (h : Heap) (e : Addr) (mA : Str → Option Value) : Prop where
  obj : X3 fun (o : Obj) (vs : Array Value) (a0 : Addr) => N6 (h.get? e = some o) (o.cls = .ref 51) (o.data = .fields vs) (vs[0]? = some (.ref a0)) (vs[1]? = some .none)
    ((o.dict = none ∧ ∀ x, mA x = none) ∨ X1 fun (d : Addr) => N5 (o.dict = some d) (d ≠ e) (g d = none) (d ≠ L) (h.Ns1 d mA))
  g : g e = none
  L : e ≠ L

section
variable {prog : Program} {w : World} {A : Around} {E : Value → Shared → Prop} {s : Shared} {g : PM} {h h' : Heap} {tk : Nat} {m mA : Str → Option Value} {L e : Addr} {name : Str} {v : Value}

theorem St.upd0 (S : St g PM0 h L m []) (k : ∀ b o, b ≠ e → h.get? b = some o → h'.get? b = some o) (he : g e = none) (hL : e ≠ L) : St g PM0 h' L m [] := by
  obtain ⟨o, es, ep, q, r⟩ := S.ns
  exact ⟨⟨o, es, ep, k _ _ (Ne.symm hL) q, r⟩, fun b o q => k _ _ (fun z => by rw [z, he] at q; cases q) (S.kg b o q), (fun _ _ q => nomatch q), S.gL, rfl, (fun _ _ q => nomatch q), (fun _ q => nomatch q), .nil⟩

theorem wpAny_ite_not {α : Type} {M : Model} {A : Around} {E : Value → Shared → Prop} {s : Shared} {a b : Sem α} {Q : α → Shared → Prop} (h : wpAny M A b Q E s) : wpAny M A (if (!true) = true then a else b) Q E s := by
  rw [if_neg (by decide)]; exact h
theorem exc_osa {R : Result → Shared → Prop} {ns : List Str} {tn : Tok} (S : St g PM0 h L m []) (G : Gn w h.get?) (X : Exc g L h e mA) (ht : takerIn (KK w) 51 name = some none) (hw : Within mA ns) (hsz : ns.length < 100)
    (hQ : ∀ h' tk', St g PM0 h' L m [] → Exc g L h' e (fun y => if y = name then some v else mA y) → R (.ok (.ret .none)) (mkS s h' tk')) :
    codeAny (model prog w) A (.call (.builtin "object.__setattr__") ⟨[.ref e, .str name tn, v], []⟩) R (mkS s h tk) := by
  obtain ⟨⟨o, vs, a0, he, hc, hd, h0, h1, hdict⟩, hg, hL⟩ := X
  have zL : (1000 : Nat) ≤ sizeLine := by rw [sizeLine_eq]; decide
  have SF := PySem.F.store_Exception
  have T : ∀ {h'' : Heap}, h''.get? e = some o → Looks (model prog w) h'' (typeOf (.ref e)) (.ref 51) := fun q => hc ▸ (Looks.ld q).andThen .now
  have X := G.in
  obtain ⟨cd, hcd, hmro, hhd⟩ : ∃ cd, clsIn (KK w) 51 = some cd ∧ cd.mro = [.ref 51, .ref 31, .type "Exception", .type "BaseException", .type "object"] ∧ cd.hasDict = true := ⟨_, rfl, rfl, rfl⟩
  have hm : Looks (model prog w) h (mroOf (.ref 51)) cd.mro := (looks_clsIn X hcd).andThen .now
  have sub : Looks (model prog w) h (isInstance (.ref e) (.type "object")) true := (T he).andThen (looks_subIn X rfl)
  refine codeAny_call_builtin PySem.F.store_object.slot.plain PySem.F.store_object.entry (@check_slot (model prog w) _ _ (mkS s h tk) "object.__setattr__" "object" "__setattr__" (.ref e) [.str name tn, v] [] _ PySem.F.store_object.kind PySem.F.store_object.split sub (PySem.F.store_object.args (.ref e) (.str name tn) v) ?_)
  obtain ⟨attr, ha, hr⟩ := Option.bind_eq_some_iff.mp ht
  have L3 : Looks (model prog w) h (storeTaker? attr) none := by
    cases attr with
    | none => exact .now
    | some a =>
      obtain ⟨b, hb, hbb⟩ := Option.map_eq_some_iff.mp hr
      refine (looks_takesIn X hb).andThen ?_
      cases b
      · exact .now
      · cases hbb
  rw [osa_eq, refuse_eq]
  refine wpAny_bind (wpAny_bind (Looks.here (s := mkS s h tk) (T he) (wpAny_bind (Looks.here (s := mkS s h tk) hm ?_))))
  rw [hmro, refuseLoop_ref, refuseLoop_ref, SF.passes]
  refine wpAny_pure (wpAny_bind (Looks.here (s := mkS s h tk) (T he) (wpAny_bind (Looks.here (s := mkS s h tk) (looks_findIn X ha) (wpAny_bind (Looks.here (s := mkS s h tk) L3 ?_))))))
  -- the store
  have fin : ∀ (A' : Around) (d : Addr) (h₁ : Heap) (tk₁ : Nat), St g PM0 h₁ L m [] → g d = none → d ≠ L → d ≠ e → h₁.Ns1 d mA → h₁.get? e = some { o with dict := some d } →
      wpAny (model prog w) A' (storeInDict d (.str name tn) name v) (fun fin s' => match fin with
        | .done f => R (.ok f) s' | .again c' => c'.quiet = true ∧ codeAny (model prog w) A c' R s') (fun x s' => R (.error x) s') (mkS s h₁ tk₁) := by
    intro A' d h₁ tk₁ S₁ hgd hdL hde hns he₁
    unfold storeInDict newKeyGuard
    refine wpAny_bind (wpAny_pure (wpAny_bind (wpAny_nsSet1 (s := mkS s h₁ tk₁) hns fun h₂ hn₂ hs₂ => ?_)))
    obtain ⟨oD, esD, epD, hoD, hdD, hcD⟩ := hn₂.count (Within.cons name v hw)
    refine wpAny_bind (wpAny_lookBehind (s := mkS s h₂ _) hoD (by rw [hdD]; exact pastItsLine_dict (Nat.le_trans hcD (by rw [List.length_cons]; (first | exact z236 hsz zL | omega)))) ?_)
    have S₂ : St g PM0 h₂ L m [] := S₁.upd0 (e := d) (fun b o hb q => (hs₂.2 b hb).trans q) hgd hdL
    refine wpAny_pure ?_
    exact hQ h₂ _ S₂ ⟨⟨{ o with dict := some d }, vs, a0, (hs₂.2 e (Ne.symm hde)).trans he₁, hc, hd, h0, h1, .inr ⟨d, rfl, hde, hgd, hdL, hn₂⟩⟩, hg, hL⟩
  unfold storeInOwnDict ownStreamTells ownDictForStores instanceDict
  refine wpAny_bind (wpAny_pure (wpAny_bind (wpAny_bind (wpAny_loadPart (s := mkS s h tk) he ?_))))
  rw [hc]
  refine wpAny_bind (Looks.here (s := mkS s h tk) (looks_clsIn X hcd) ?_)
  rw [hhd]
  rcases hdict with ⟨hdn, hmA⟩ | ⟨d, hdx, hde, hgd, hdL, hns⟩
  · rw [hdn]
    refine wpAny_ite_not ?_
    dsimp only
    have th : typeHasDict (.ref 51) = true := by decide
    rw [th, hd]
    refine wpAny_ite_not ?_
    dsimp only
    have he₁ : (h.push { cls := .type "dict", data := .dict #[] }).get? e = some o := Heap.get?_push_of_some _ he
    have hne : e ≠ h.objs.size := Nat.ne_of_lt (Heap.lt_size he)
    refine wpAny_bind (wpAny_alloc (wpAny_bind (wpAny_update (s := mkS s _ tk) he₁ (wpAny_pure ?_))))
    have hE : ((h.push { cls := .type "dict", data := .dict #[] }).update e fun o => { cls := o.cls, dict := some h.objs.size, data := o.data, slots := o.slots }).get? e = some { o with dict := some h.objs.size } :=
      Heap.get?_update_self _ he₁ (Obj.isFreed_of_fields (vs := vs) hd)
    have hD : ((h.push { cls := .type "dict", data := .dict #[] }).update e fun o => { cls := o.cls, dict := some h.objs.size, data := o.data, slots := o.slots }).get? h.objs.size = some { cls := .type "dict", data := .dict #[] } :=
      (Heap.get?_update_ne _ _ _ _ hne.symm).trans (Heap.get?_push_at rfl rfl)
    have S₁ : St g PM0 ((h.push { cls := .type "dict", data := .dict #[] }).update e fun o => { cls := o.cls, dict := some h.objs.size, data := o.data, slots := o.slots }) L m [] :=
      S.upd0 (e := e) (fun b o hb q => (Heap.get?_update_ne _ _ _ _ hb).trans (Heap.get?_push_of_some _ q)) hg hL
    have hmA' : mA = fun _ => none := funext hmA
    refine fin _ h.objs.size _ tk S₁ (S.gno (fresh_size h)) (fun q => ?_) hne.symm (hmA' ▸ Heap.Ns1.of_empty ⟨_, #[], _, hD, rfl, fun e he => absurd he (by simp), fun _ => rfl⟩) hE
    obtain ⟨x, y⟩ := S.Lin
    rw [← q, fresh_size] at y; cases y
  · rw [hdx]
    refine wpAny_ite_not ?_
    refine wpAny_pure ?_
    have : { o with dict := some d } = o := by obtain ⟨a, b, c, f⟩ := o; dsimp only at hdx; rw [hdx]
    exact fin _ d h tk S hgd hdL hde hns (this ▸ he)

theorem exc_set {Q : Unit → Shared → Prop} {ns : List Str} (S : St g PM0 h L m []) (G : Gn w h.get?) (X : Exc g L h e mA) (ht : takerIn (KK w) 51 name = some none) (hw : Within mA ns) (hsz : ns.length < 100)
    (hQ : ∀ h' tk', St g PM0 h' L m [] → Exc g L h' e (fun y => if y = name then some v else mA y) → Q () (mkS s h' tk')) :
    wpAny (model prog w) A (setAttr (.ref e) name v) Q E (mkS s h tk) := by
  have X' := X
  obtain ⟨⟨o, vs, a0, he, hc, hd, h0, h1, hdict⟩, hg, hL⟩ := X'
  obtain ⟨od, I⟩ : ∃ od, W.InstAt h e o 51 od := by
    have no : notCls o = true := by unfold notCls; rw [hd]
    rcases hdict with ⟨q, _⟩ | ⟨d, q, _, _, _, ⟨x, _, _, y, _⟩⟩
    · exact ⟨none, he, hc, no, by rw [q]; trivial⟩
    · exact ⟨some x, he, hc, no, by rw [q]; exact y⟩
  exact set_plain (s := mkS s h tk) G.in I rfl (exc_osa S G X ht hw hsz fun h' tk' S' X' => hQ h' tk' S' X')
end
end Mine
end

section
open PySem PySem.W PyProof.Rows PyProof.V
set_option maxRecDepth 100000
set_option linter.all false
namespace Mine

section
variable {prog : Program} {w : World} {A : Around} {E : Value → Shared → Prop} {s : Shared} {g : PM} {h h' : Heap} {tk : Nat} {m mA : Str → Option Value} {L e : Addr} {name : Str} {v : Value}

theorem Exc.type {M : Model} (X : Exc g L h e mA) : Looks M h (typeOf (.ref e)) (.ref 51) := by
  obtain ⟨⟨o, vs, a0, he, hc, _⟩, _⟩ := X
  exact hc ▸ (Looks.ld he).andThen .now

/-- Exception.__init__(self, x) -/
theorem exc_init {Q : Value → Shared → Prop} (S : St g PM0 h L m []) (G : Gn w h.get?) (X : Exc g L h e mA)
    (hQ : ∀ h', St g PM0 h' L m [] → Exc g L h' e mA → Q .none (mkS s h' tk)) :
    wpAny (model prog w) A (call (.builtin "Exception.__init__") [.ref e, v]) Q E (mkS s h tk) := by
  have F := PySem.F.excBase_Exception
  refine die_cls' G fun nm q bs sn sub ab col dd k0 k1 k2 k3 k5 hC => ?_
  have c1 : ([Value.ref 51, .ref 31, .type "Exception", .type "BaseException", .type "object"]).contains (.type "Exception") = true := by decide
  obtain ⟨⟨o, vs, a0, he, hc, hd, h0, h1, hdict⟩, hg, hL⟩ := X
  have hsz : 0 < vs.size := (Array.getElem?_eq_some_iff.mp h0).1
  have zL : (1 : Nat) ≤ sizeLine := by rw [sizeLine_eq]; decide
  have he₁ := Heap.get?_push_of_some (h := h) { cls := .type "tuple", data := .seq [v].toArray } he
  have hne : e ≠ h.objs.size := Nat.ne_of_lt (Heap.lt_size he)
  have chk : ∀ {Q : Unit → Shared → Prop} {E : Value → Shared → Prop} {A : Around}, Q () (mkS s h tk) → wpAny (model prog w) A (checkBuiltinCall "Exception.__init__" ⟨[.ref e, v], []⟩) Q E (mkS s h tk) := by
    intro Q E A hq
    have hshort := F.noStar
    simp only [checkBuiltinCall, F.initKind, F.initSplit, F.initRow]
    repeat (first | (with_reducible refine wpAny_loadPart_at he ?_; rw [hc]) | with_reducible refine wpAny_loadPart_at hC ?_ | (with_reducible refine wpAny_isSubtype_exc hC ?_; rw [c1]) | wp_step)
    exact hq
  refine wpAny_call (codeAny_call_builtin F.init.plain F.initEntry (chk ?_))
  unfold Builtin.«BaseException.__init__»
  dsimp only
  rw [if_neg (by simp)]
  unfold newTuple Builtin.BaseException.bexcPut
  refine wpAny_bind (wpAny_newObj_type (wpAny_bind (wpAny_bind (wpAny_field (s := mkS s _ tk) he₁ hd h0 (wpAny_bind (wpAny_setField (s := mkS s _ tk) he₁ hd hsz ?_))))) (by show [v].toArray.size ≤ sizeLine; simpa using zL))
  refine wpAny_letGo (wpAny_pure ?_)
  have hd₂ := Obj.data_mapFields hd (·.setIfInBounds 0 (Value.ref h.objs.size))
  have he₂ := Heap.get?_update_self (Obj.mapFields (·.setIfInBounds 0 (Value.ref h.objs.size))) he₁ (Obj.isFreed_of_fields hd₂)
  have k : ∀ b o, b ≠ e → h.get? b = some o → ((h.push { cls := .type "tuple", data := .seq [v].toArray }).update e (Obj.mapFields (·.setIfInBounds 0 (Value.ref h.objs.size)))).get? b = some o :=
    fun b o hb q => (Heap.get?_update_ne _ _ _ _ hb).trans (Heap.get?_push_of_some _ q)
  refine hQ _ (S.upd0 k hg hL) ⟨⟨_, _, h.objs.size, he₂, (Obj.cls_mapFields _ _).trans hc, hd₂, by simp [hsz], ?_, ?_⟩, hg, hL⟩
  · rw [Array.getElem?_setIfInBounds_ne (by decide)]; exact h1
  · have hdd : (Obj.mapFields (·.setIfInBounds 0 (Value.ref h.objs.size)) o).dict = o.dict := by
      obtain ⟨a, b, c, f⟩ := o; dsimp only at hd; subst hd; rfl
    rw [hdd]
    rcases hdict with z | ⟨d, z1, z2, z3, z4, z5⟩
    · exact .inl z
    · obtain ⟨x, es, ep, y1, y2⟩ := z5
      exact .inr ⟨d, z1, z2, z3, z4, x, es, ep, k _ _ z2 y1, y2⟩

/-- Exception.__init__ as a name -/
theorem exc_meth {pl : Sem Bool} {Q : Value × List Value → Shared → Prop} (G : Gn w h.get?) (hQ : ∀ tk', Q (.builtin "Exception.__init__", []) (mkS s h tk')) :
    wpAny (model prog w) A (getMethod (.type "Exception") "__init__" pl) Q E (mkS s h tk) := by
  have X := G.in
  have L0 : Looks (model prog w) h (typeOf (.type "Exception")) (.type "type") := Looks.of_pure (by kernel_rfl)
  have LO : Looks (model prog w) h (opaqueClassAbove (.type "Exception")) none := by
    have hs : Manifest.isStub "Exception" = false := by decide +kernel
    refine Looks.of_pure ?_
    unfold opaqueClassAbove
    dsimp only
    rw [hs]; rfl
  unfold getMethod specialOf
  refine wpAny_bind (wpAny_bind (Looks.here (s := mkS s h tk) L0 (Looks.here (s := mkS s h tk) (looks_findIn X (t := .type "type") (r := some (.builtin "type.__getattribute__")) type_tga) ?_)))
  dsimp only
  rw [if_pos canon_tga]
  refine wpAny_bind (cls_open (s := mkS s h tk) (mc := .type "type") X LO L0 type_tga (looks_hook X (r := none) (by rfl)) (by rfl) (r := .val (.builtin "Exception.__init__")) (by rfl) (wpAny_pure ?_))
  show wpAny _ _ (handedOut _) _ _ _
  rw [handedOut_of (by rfl)]
  exact wpAny_pure (wpAny_pure (hQ _))
theorem perl_meth {pl : Sem Bool} {Q : Value × List Value → Shared → Prop} (G : Gn w h.get?) (hQ : ∀ tk', Q (.ref 28, []) (mkS s h tk')) :
    wpAny (model prog w) A (getMethod (.ref 31) "__init__" pl) Q E (mkS s h tk) :=
  method_cls (s := mkS s h tk) G.in rfl (cls_value (s := mkS s h tk) (mc := .type "type") G.in rfl rfl rfl (hQ _))
end
end Mine
end

section
open PySem PySem.W PyProof.Rows PyProof.V
set_option maxRecDepth 100000
set_option linter.all false
namespace Mine
open Builtin Builtin.ObjectAttr

/-- an object of the text's own class, whose dict is being filled -/
structure Inst1 (g : PM) (L : Addr) (h : Heap) (x dx : Addr) (es : List DictEntry) (k : Nat) : Prop where
  i : h.get? x = some (instObj 71 dx)
  d : h.get? dx = some (dictOf es k)
  gd : g dx = none
  dL : dx ≠ L
  xL : x ≠ L
  xd : x ≠ dx
section
variable {prog : Program} {w : World} {A : Around} {E : Value → Shared → Prop} {s : Shared} {g : PM} {h h' : Heap} {tk : Nat} {m mA : Str → Option Value} {L x dx : Addr} {name : Str} {v : Value} {es : List DictEntry} {k : Nat}
theorem Inst1.keep (I : Inst1 g L h x dx es k) (kk : ∀ b o, b ≠ L → h.get? b = some o → h'.get? b = some o) : Inst1 g L h' x dx es k := ⟨kk _ _ I.xL I.i, kk _ _ I.dL I.d, I.gd, I.dL, I.xL, I.xd⟩
theorem inst_set {Q : Unit → Shared → Prop} (S : St g PM0 h L m []) (G : Gn w h.get?) (I : Inst1 g L h x dx es k) (ht : takerIn (KK w) 71 name = some none) (hl : (getL name es).isSome = true) (hz : es.length ≤ 100)
    (hQ : ∀ h' tk' tn, St g PM0 h' L m [] → Inst1 g L h' x dx (putL name (PyData.keyHash w.params name) (.str name tn) v es) (putN name es k) → Q () (mkS s h' tk')) :
    wpAny (model prog w) A (setAttr (.ref x) name v) Q E (mkS s h tk) := by
  have zL : (1000 : Nat) ≤ sizeLine := by rw [sizeLine_eq]; decide
  have X := G.in
  obtain ⟨hx, hdx, hgd, hdL, hxL, hxd⟩ := I
  have J : W.InstAt h x (instObj 71 dx) 71 (some (dictOf es k)) := ⟨hx, rfl, rfl, hdx⟩
  refine set_plain (s := mkS s h tk) X J rfl ?_
  refine osa_open (s := mkS s h (tk + 1)) X J rfl ht fun b => ?_
  obtain ⟨cd, hc, hd'⟩ : ∃ cd, clsIn (KK w) 71 = some cd ∧ cd.hasDict = true := ⟨_, rfl, rfl⟩
  unfold storeInOwnDict ownStreamTells ownDictForStores instanceDict
  refine wpAny_bind (wpAny_pure (wpAny_bind (wpAny_bind (wpAny_loadPart (s := mkS s h _) hx (wpAny_bind (Looks.here (s := mkS s h _) (looks_clsIn X hc) ?_))))))
  rw [hd']
  refine wpAny_ite_not ?_
  refine wpAny_pure ?_
  unfold storeInDict newKeyGuard nsSet
  refine wpAny_bind (wpAny_pure (wpAny_bind (wpAny_bind (wpAny_bind (wpAny_askSetting (wpAny_pure (wpAny_bind (wpAny_mkText (wpAny_bind (wpAny_loadPart (s := mkS s h _) hdx ?_))))))))))
  dsimp only
  have c : (!es.toArray.any (·.key.isStr name) && es.toArray.any (·.refKey)) = false := by
    unfold getL at hl
    rw [← Array.any_toList, ← Array.any_toList]
    split at hl
    · rename_i en he
      have : (es.toArray.toList.any fun y => y.key.isStr name) = true := List.any_eq_true.mpr ⟨en, by simpa using List.mem_of_find?_eq_some he, by simpa using List.find?_some he⟩
      rw [this]; rfl
    · split at hl
      · cases hl
      · rename_i z; rw [Bool.not_eq_true] at z
        have z' : (es.toArray.toList.any fun y => y.refKey) = false := by simpa using z
        rw [z', Bool.and_false]
  rw [aRefKeyMayBeTheName_at, c]
  refine wpAny_updatePart (s := mkS s h _) hdx ?_
  have e := putName_dict name (PyData.keyHash w.params name) (.str name (tk + 1)) v es k
  have hd₂ : (h.update dx (Obj.putName name (PyData.keyHash w.params name) (.str name (tk + 1)) v)).get? dx = some (dictOf (putL name (PyData.keyHash w.params name) (.str name (tk + 1)) v es) (putN name es k)) := by
    rw [← e]; exact Heap.get?_update_self _ hdx (by rw [e]; rfl)
  have lz : (putL name (PyData.keyHash w.params name) (.str name (tk + 1)) v es).length ≤ es.length + 1 := by
    generalize PyData.keyHash w.params name = hs
    clear hQ hd₂ e c hdx hl hz J
    induction es with
    | nil => simp [putL]
    | cons a r ih =>
      unfold putL
      split
      · simp
      · simp only [List.length_cons]; (first | exact z186 ih | omega)
  refine wpAny_bind (wpAny_lookBehind (s := mkS s _ _) hd₂ (pastItsLine_dict (by rw [List.size_toArray]; (first | exact z187 hz zL lz | omega))) (wpAny_pure ?_))
  refine hQ _ _ _ (S.upd0 (e := dx) (fun b o hb q => (Heap.get?_update_ne _ _ _ _ hb).trans q) hgd hdL) ⟨(Heap.get?_update_ne _ _ _ _ hxd).trans hx, hd₂, hgd, hdL, hxL, hxd⟩
end
end Mine
end

section
open PySem PySem.W PyProof.Rows PyProof.V
set_option maxRecDepth 100000
set_option linter.all false
namespace Mine
section
variable {prog : Program} {w : World} {A : Around} {E : Value → Shared → Prop} {s : Shared} {h : Heap} {tk : Nat}
/-- enter, for what a built-in function calls -/
theorem enterR {R : Result → Shared → Prop} {f : Addr} {oc : Value} {od an : Option Addr} {osl : Array (Option Value)} {name qual : Str} {params : Arguments} {body : List Stmt} {scope : Scope} {dV kV doc pm cdv ct : Value} {args : List Value} (binds : List (Str × Value))
    (G : Gn w h.get?) (ho : (KK w).lookup f = some ⟨oc, od, .func (fnOf name qual params body scope dV kV doc pm an cdv ct), osl⟩) (hcd : codeIn (KK w) cdv qual = true) (hroom : A.depth < recursionLimit)
    (hbind : bindArgs (fnOf name qual params body scope dV kV doc pm an cdv ct) ⟨args, []⟩ = pure binds) (hloc : (binds.all fun x => decide (scope.names.lookup x.1 = some .local)) = true)
    (hcell : (scope.names.all fun x => x.2 != .cell) = true)
    (hw : ∀ L h' tk', St h.get? (fun _ => none) h' L (fun y => binds.reverse.lookup y) [] →
      wpAny (model prog w) (A.deeper (envOf qual scope L f cdv)) (execs body (envOf qual scope L f cdv)) (fun fl s' => R (.ok (.ret (match fl with | .ret v => v | _ => .none))) s') (fun _ _ => False) (mkS s h' tk'))
    (hco : scope.isCoroutine = false := by rfl) (hgen : scope.isGenerator = false := by rfl) (hk : scope.kind = .function := by rfl) :
    codeAny (model prog w) A (.call (.ref f) ⟨args, []⟩) R (mkS s h tk) := by
  refine codeAny_call_def (fd := fnOf name qual params body scope dV kV doc pm an cdv ct) (body := body) (binds := binds) hroom (G.kin _ _ ho) rfl G.nolimit (codeRec_of G.in hcd) rfl (BindsTo.of_eq hbind)
    (fun x hx => by simpa using List.all_eq_true.mp hcell x hx) (locs hloc) (fun h₁ hns hk₁ => ?_) hco hgen hk
  refine wpAny_mono (hw h.objs.size h₁ (tk + binds.length) ⟨hns, hk₁, (fun _ _ e => nomatch e), fresh_size h, rfl, (fun _ _ e => nomatch e), (fun _ hp => nomatch hp), .nil⟩) (fun fl s' q => ?_) fun _ _ e => e.elim
  cases fl <;> exact q
end
end Mine
end

section
open PySem PySem.W PyProof.Rows PyProof.V
set_option maxRecDepth 100000
set_option linter.all false
namespace Mine
section
variable {M : Model} {prog : Program} {w : World} {A : Around} {E : Value → Shared → Prop} {s : Shared} {env : Env} {g n : PM} {h h' : Heap} {tk : Nat} {m : Str → Option Value} {fs fs' : Fs} {L : Addr}
/-- range(..) -/
theorem r_crange {e : Expr} {rest : List Expr} {np pos : Pos} {Q : Value → Shared → Prop} (G : Gn w h.get?) (hn : nsIn (KK w) mainGlobals "range" = some none)
    (hQ : wpAny M A (spliced (backTo pos (starEach (e :: rest) env))) (fun vs s₁ => wpAny M A (call (.type "range") vs) Q E s₁) E (mkS s h tk))
    (hx : env.kindOf "range" = some .globalImplicit := by rfl) (he : starEach (e :: rest) env = (false, eval e env) :: starEach rest env := by rfl) (hplain : (backTo pos (starEach rest env)).any (·.1) = false := by rfl)
    (hg : env.globals = mainGlobals := by rfl) (hb : env.builtins = builtinsNs := by rfl) (hk : env.scope.kind = .function := by rfl) :
    wpAny M A (eval (.Call (.Name "range" np) (e :: rest) [] pos) env) Q E (mkS s h tk) := by
  refine Call_ (r_bi G hn boot_range ?_ (by decide) hg hb hk hx)
  exact PyProof.Rows.callWith_type1 hQ he hplain
theorem r_range2 {a b : Int} {t u : Tok} {Q : Value → Shared → Prop} (S : St g n h L m fs) (hQ : ∀ d h' tk', St g n h' L m fs → At h'.get? d (rngP a b) → Q (.ref d) (mkS s h' tk')) :
    wpAny (model prog w) A (call (.type "range") [.int a t, .int b u]) Q E (mkS s h tk) :=
  call_range_2 (hQ _ _ _ (S.ext (Le.push _ _)) ⟨_, Heap.get?_push_size _ rfl, _, _, _, rfl⟩)
theorem r_range1 {b : Int} {u : Tok} {Q : Value → Shared → Prop} (S : St g n h L m fs) (hQ : ∀ d h' tk', St g n h' L m fs → At h'.get? d (rngP 0 b) → Q (.ref d) (mkS s h' tk')) :
    wpAny (model prog w) A (call (.type "range") [.int b u]) Q E (mkS s h tk) :=
  call_range_1 (hQ _ _ _ (S.ext (Le.push _ _)) ⟨_, Heap.get?_push_size _ rfl, _, _, _, rfl⟩)
/-- two pairs of an int and a bool -/
theorem reads_pair {p : PM} {a : Addr} {c : Int} {x : Bool} {t : Tok} (k : Le p h.get?) (ha : Tup p a [.int c t, .bool x]) : Reads h (.ref a) (.tuple [.int c, .bool x]) [] := by
  obtain ⟨o, e, hc, n, hd⟩ := ha
  exact reads_tuple_at (k _ _ e) hc hd (readsAll_cons_val (.int _ _) (readsAll_cons_val (.bool _) .nil))
theorem r_pairEq {a b : Addr} {c d : Int} {x y : Bool} {t u : Tok} {Q : Value → Shared → Prop} (ha : Tup h.get? a [.int c t, .bool x]) (hb : Tup h.get? b [.int d u, .bool y]) (hu : A.units + 64 < cLine) (hQ : Q (.bool (decide (c = d ∧ x = y))) (mkS s h tk)) :
    wpAny (model prog w) A (compareOp .Eq (.ref a) (.ref b)) Q E (mkS s h tk) := by
  refine r_eqD (reads_pair (Le.refl _) ha) (reads_pair (Le.refl _) hb) (by rfl) (by rfl) hu ?_
  have : (PyData.tuple [.int c, .bool x]).eqv (.tuple [.int d, .bool y]) = decide (c = d ∧ x = y) := by
    simp [PyData.eqv, PyData.eqvAll]
    by_cases q : c = d <;> by_cases z : x = y <;> simp [q, z]
  rw [this]; exact hQ
end
end Mine
end

section
open PySem PySem.W PyProof.Rows PyProof.V
set_option maxRecDepth 100000
set_option linter.all false
namespace Mine
section
variable {M : Model} {prog : Program} {w : World} {A : Around} {E : Value → Shared → Prop} {s : Shared} {env : Env} {g n : PM} {h h' h₁ : Heap} {tk : Nat} {m : Str → Option Value} {fs fs' fsK : Fs} {L d : Addr} {P P' : Obj → Prop}
theorem r_mod {a b : Int} {t u : Tok} {Q : Value → Shared → Prop} (hb : 0 < b) (hQ : ∀ t tk', Q (.int (a % b) t) (mkS s h tk')) : wpAny (model prog w) A (binaryOp .Mod (.int a t) (.int b u)) Q E (mkS s h tk) := by
  refine PyProof.Rows.mod_int (by (first | exact z184 hb | omega)) ?_
  rw [Int.fmod_eq_emod_of_nonneg _ (by exact Int.le_of_lt (by assumption))]
  exact hQ _ _
theorem r_fdiv {a b : Nat} {t u : Tok} {Q : Value → Shared → Prop} (hb : 0 < b) (hz : b < 1000000) (hQ : ∀ t tk', Q (.int ((a / b : Nat) : Int) t) (mkS s h tk')) : wpAny (model prog w) A (binaryOp .FloorDiv (.int a t) (.int b u)) Q E (mkS s h tk) := by
  refine PyProof.Rows.floordiv_int (by (first | exact z185 hb | omega)) ?_ (.inl (PyProof.noPylong_small (by omega)))
  rw [Int.fdiv_eq_ediv_of_nonneg _ (by exact Int.natCast_nonneg _)]
  exact hQ _ _
theorem r_mul7 {b : Int} {t u : Tok} {Q : Value → Shared → Prop} (hQ : ∀ t tk', Q (.int (7 * b) t) (mkS s h tk')) : wpAny (model prog w) A (binaryOp .Mult (.int 7 t) (.int b u)) Q E (mkS s h tk) :=
  mul_int (hQ _ _) (IntMulOk.of_left (by decide))

/-- a callee takes one object of the caller's to work on -/
theorem St.take (S : St h.get? PM0 h₁ L m []) (x : At h.get? d P) : St (Mine.less h [d]) PM0 h₁ L m [(d, P)] := by
  obtain ⟨o, e, p⟩ := x
  have S' := S.less (less_le (h := h) (as := [d]))
  exact { S' with
    fx := fun q hq => by
      rw [List.mem_singleton] at hq; subst hq
      exact ⟨⟨o, S.kg _ _ e, p⟩, fun z => (by have := S.gL; rw [← z, e] at this; cases this), less_no (by simp), rfl⟩
    nd := by simp }
/-- what a callee made of it, in the caller's frame -/
theorem St.touch (S : St g n h L m fs) (k : Rep d P P' fs fs') (x : At h'.get? d P') (hs : Le (Mine.less h [d]) h'.get?) : St g n h' L m fs' := by
  have D := S.fx _ k.mem
  have kk : ∀ b o, b ≠ d → h.get? b = some o → h'.get? b = some o := fun b o hb q => hs _ _ (less_of (as := [d]) (by simpa using hb) q)
  obtain ⟨oL, es, ep, e, r⟩ := S.ns
  refine ⟨⟨oL, es, ep, kk _ _ (Ne.symm D.2.1) e, r⟩, fun b o e => kk _ _ (fun q => ?_) (S.kg b o e), fun b o e => kk _ _ (fun q => ?_) (S.kn b o e), S.gL, S.nL, S.dj, fun p hp => ?_, by rw [k.keys]; exact S.nd⟩
  · have := D.2.2.1; rw [q] at e; rw [e] at this; cases this
  · have := D.2.2.2; rw [q] at e; rw [e] at this; cases this
  · rcases k.cases S.nd p hp with e | e
    · subst e; exact ⟨x, D.2⟩
    · obtain ⟨⟨o, e1, e2⟩, z⟩ := S.fx p e.1
      exact ⟨⟨o, kk _ _ e.2 e1, e2⟩, z⟩
theorem St.weak (S : St g n h L m fs) (k : Rep d P P' fs fs') (w : ∀ o, P o → P' o) : St g n h L m fs' := by
  refine S.touch k ?_ less_le
  obtain ⟨⟨o, e, p⟩, _⟩ := S.fx _ k.mem
  exact ⟨o, e, w o p⟩
end
end Mine
end

section
open PySem PySem.W PyProof.Rows PyProof.V
set_option maxRecDepth 100000
set_option linter.all false
namespace Mine
noncomputable abbrev celO (v : Option Value) : Obj → Prop := fun o => o.data = .cell v
section
variable {M : Model} {prog : Program} {w : World} {A : Around} {E : Value → Shared → Prop} {s : Shared} {env : Env} {g n : PM} {h h' h₁ : Heap} {tk : Nat} {m : Str → Option Value} {fs fs' fsK : Fs} {L d c : Addr} {P P' : Obj → Prop}
theorem St.take' (S : St h.get? n h₁ L m fs) (x : At h.get? d P) : St (Mine.less h [d]) n h₁ L m ((d, P) :: fs) := by
  obtain ⟨o, e, p⟩ := x
  have S' := S.less (less_le (h := h) (as := [d]))
  have hnd : n d = none := by
    cases q : n d with
    | none => rfl
    | some z => have := S.dj d z q; rw [e] at this; cases this
  exact { S' with
    fx := fun q hq => by
      rcases List.mem_cons.mp hq with rfl | hq
      · exact ⟨⟨o, S.kg _ _ e, p⟩, fun z => (by have := S.gL; rw [← z, e] at this; cases this), less_no (by simp), hnd⟩
      · exact S'.fx q hq
    nd := by
      rw [List.map_cons, List.nodup_cons]
      refine ⟨fun q => ?_, S'.nd⟩
      obtain ⟨z, hz, q⟩ := List.mem_map.mp q
      have := (S.fx z hz).2.2.1
      rw [q, e] at this; cases this }

/-- a call of a def that has cells and may raise -/
theorem enterC {Q : Value → Shared → Prop} {f : Addr} {oc : Value} {od an : Option Addr} {osl : Array (Option Value)} {name qual : Str} {params : Arguments} {body : List Stmt} {scope : Scope} {dV kV doc pm cdv ct : Value} {args : List Value} (binds : List (Str × Value))
    (G : Gn w h.get?) (ho : (KK w).lookup f = some ⟨oc, od, .func (fnOf name qual params body scope dV kV doc pm an cdv ct), osl⟩) (hcd : codeIn (KK w) cdv qual = true) (hroom : A.depth < recursionLimit)
    (hbind : bindArgs (fnOf name qual params body scope dV kV doc pm an cdv ct) ⟨args, []⟩ = pure binds)
    (hkind : ∀ k, ∀ x ∈ binds, scope.names.lookup x.1 = some .local ∨ (scope.names.lookup x.1 = some .cell ∧ ((cellsFrom k scope.names []).lookup x.1).isSome = true))
    (hnd : ((cellsFrom 0 scope.names []).map (·.1)).Nodup)
    (hw : ∀ L h' tk', h.get? L = none → St h.get? PM0 h' L (bindL (envOfC qual scope L f cdv).kindOf binds fun _ => none) ((cellsFrom (L + 1) scope.names []).map fun p => (p.2, celO (bindC (envOfC qual scope L f cdv).kindOf binds (fun _ => none) p.1))) →
      wpAny (model prog w) (A.deeper (envOfC qual scope L f cdv)) (execs body (envOfC qual scope L f cdv)) (rx Q) (LeaveE (model prog w) (A.deeper (envOfC qual scope L f cdv)) (envOfC qual scope L f cdv) E) (mkS s h' tk'))
    (hco : scope.isCoroutine = false := by rfl) (hgen : scope.isGenerator = false := by rfl) (hk : scope.kind = .function := by rfl) :
    wpAny (model prog w) A (call (.ref f) args) Q E (mkS s h tk) := by
  refine wpAny_call (codeAny_call_cells (s := mkS s h tk) (fd := fnOf name qual params body scope dV kV doc pm an cdv ct) (body := body) (binds := binds) hroom (G.kin _ _ ho) rfl G.nolimit (codeRec_of G.in hcd) rfl hbind rfl
    (hkind _) (fun s₁ X => ?_) hco hgen hk)
  obtain ⟨h₁, tk₁, rfl, kk⟩ := X.done
  have hcn : ∀ x, x ∈ cellsFrom (h.objs.size + 1) scope.names [] → (cellsFrom (h.objs.size + 1) scope.names []).lookup x.1 = some x.2 := fun x hx =>
    lookup_of_mem_nodup (cellsFrom_names scope.names 0 (h.objs.size + 1) [] [] rfl ▸ hnd) hx
  refine wpAny_mono (hw h.objs.size h₁ tk₁ (fresh_size h) ⟨X.toInCall.ns, kk, (fun _ _ e => nomatch e), fresh_size h, rfl, (fun _ _ e => nomatch e), fun p hp => ?_, ?_⟩) (fun fl s' q => ?_) fun _ _ e => e
  · obtain ⟨x, hx, rfl⟩ := List.mem_map.mp hp
    have ab : h.objs.size < x.2 := X.above x.1 x.2 hx
    refine ⟨?_, Nat.ne_of_gt ab, Heap.get?_none_of_le (Nat.le_of_lt ab), rfl⟩
    obtain ⟨o, e, q⟩ := X.cell x.1 x.2 (hcn x hx)
    exact ⟨o, e, q⟩
  · rw [List.map_map, show ((fun p : Addr × (Obj → Prop) => p.1) ∘ fun p : Str × Addr => (p.2, celO (bindC (envOfC qual scope h.objs.size f cdv).kindOf binds (fun _ => none) p.1))) = fun p => p.2 from rfl]
    exact List.pairwise_map.mpr X.apart
  · cases fl <;> exact q

/-- a cell's name -/
theorem r_cellN {x : Str} {pos : Pos} {v : Value} {Q : Value → Shared → Prop} (hc : At h.get? c (celO (some v))) (hQ : Q v (mkS s h tk))
    (hk : env.scope.kind = .function := by rfl) (hl : env.kindOf x = some .cell := by rfl) (hn : env.cells.lookup x = some c := by rfl) (hd : (x == ("__debug__" : Str)) = false := by decide) :
    wpAny M A (eval (.Name x pos) env) Q E (mkS s h tk) := wpAny_Name (wpAny_loadName_cell hk hl hn hc hQ) hd
/-- a store into a cell -/
theorem r_cellS {x : Str} {v : Value} {v₀ : Option Value} {Q : Unit → Shared → Prop} (S : St g n h L m fs) (R : Rep c (celO v₀) (celO (some v)) fs fs') (hQ : ∀ h', St g n h' L m fs' → Q () (mkS s h' tk))
    (hk : env.scope.kind = .function := by rfl) (hl : env.kindOf x = some .cell := by rfl) (hn : env.cells.lookup x = some c := by rfl) :
    wpAny M A (storeName env x v) Q E (mkS s h tk) := by
  obtain ⟨o, e, q⟩ := S.fAt R.mem
  exact wpAny_storeName_cell (s := mkS s h tk) hk hl hn ⟨o, e, q⟩ fun h' hv hs => hQ h' (S.change R hv hs)

/-- a list comprehension, to its first iterator -/
theorem x_comp {elt iter target : Expr} {ifs : List Expr} {scope : Scope} (cl : List (Str × Addr)) {pos : Pos} {Q : Value → Shared → Prop}
    (h : ∀ N : Value → Shared → Prop, (∀ it s₂, wpAny M A (newList []) (fun acc s₃ =>
      wpAny M A (newFunctionEnv scope env.globals cl [] env.qual none .none (some env)) (fun cenv s₄ =>
        codeAny M A (.compStart (.ListComp elt [⟨target, iter, ifs, 0⟩] scope pos) 0 it acc { cenv with scope := relabel scope env }) (compPost M A E none Q acc cenv.locals) s₄) E s₃) E s₂ → N it s₂) →
      wpAny M A (eval iter env) (fun xv s₁ => wpAny M A (pyIter xv) N E s₁) E s)
    (hclos : closureFor scope env = pure cl := by rfl) (hkind : scope.kind = .function := by rfl) (hnames : (scope.names.all fun x => x.2 != .local || decide (scope.names.lookup x.1 = some .local)) = true := by rfl)
    (hs : ∀ x, foldedSetIterable iter env x = pure x := by intro _; rfl) :
    wpAny M A (eval (.ListComp elt [⟨target, iter, ifs, 0⟩] scope pos) env) Q E s := by
  rw [eval_ListComp]
  refine wpAny_comprehension_free (use := none) rfl hs hclos hkind (fun x hx hl => ?_) (h _ fun _ _ x => x)
  have := List.all_eq_true.mp hnames x hx
  simpa [hl] using this
end
end Mine
end

section
open PySem PySem.W PyProof.Rows PyProof.V
set_option maxRecDepth 100000
set_option linter.all false
namespace Mine

/-! pairs of a sign and a bool -/
noncomputable abbrev sPair (p : PM) (a : Addr) (q : Nat × Bool) : Prop := ∃ t, Tup p a [.str (ch q.1) t, .bool q.2]
inductive RowsS (p : PM) : List Value → List (Nat × Bool) → Prop
  | nil : RowsS p [] []
  | cons {a : Addr} {q : Nat × Bool} {vs : List Value} {ps : List (Nat × Bool)} : sPair p a q → RowsS p vs ps → RowsS p (.ref a :: vs) (q :: ps)
theorem RowsS.le {p q : PM} {vs : List Value} {ps : List (Nat × Bool)} (R : RowsS p vs ps) (k : Le p q) : RowsS q vs ps := by
  induction R with
  | nil => exact .nil
  | cons x _ ih => obtain ⟨t, x⟩ := x; exact .cons ⟨t, x.le k⟩ ih
theorem RowsS.snoc {p : PM} {vs : List Value} {ps : List (Nat × Bool)} {a : Addr} {q : Nat × Bool} (R : RowsS p vs ps) (x : sPair p a q) : RowsS p (vs ++ [.ref a]) (ps ++ [q]) := by
  induction R with
  | nil => exact .cons x .nil
  | cons y _ ih => exact .cons y ih
theorem RowsS.length {p : PM} {vs : List Value} {ps : List (Nat × Bool)} (R : RowsS p vs ps) : vs.length = ps.length := by
  induction R with
  | nil => rfl
  | cons y _ ih => simp [ih]
theorem RowsS.get {p : PM} {vs : List Value} {ps : List (Nat × Bool)} (R : RowsS p vs ps) : ∀ {i : Nat} (_ : i < ps.length), ∃ a, vs[i]? = some (.ref a) ∧ sPair p a ps[i] := by
  induction R with
  | nil => intro i hi; exact absurd hi (Nat.not_lt_zero _)
  | cons y _ ih =>
    intro i hi
    cases i with
    | zero => exact ⟨_, rfl, y⟩
    | succ i => obtain ⟨a, e, x⟩ := ih (i := i) (by simpa using hi); exact ⟨a, by simpa using e, by simpa using x⟩
theorem RowsS.drop {p : PM} : ∀ {vs : List Value} {ps : List (Nat × Bool)}, RowsS p vs ps → ∀ k, RowsS p (vs.drop k) (ps.drop k)
  | _, _, R, 0 => by simpa using R
  | _, _, .nil, k + 1 => by simpa using RowsS.nil
  | _, _, .cons x R, k + 1 => by simpa using R.drop k

noncomputable def datP (q : Nat × Bool) : PyData := .tuple [.str (ch q.1), .bool q.2]
theorem reads_sPair {p : PM} {h : Heap} {a : Addr} {q : Nat × Bool} (k : Le p h.get?) (x : sPair p a q) : Reads h (.ref a) (datP q) [] := by
  obtain ⟨t, o, e, hc, n, hd⟩ := x
  exact reads_tuple_at (k _ _ e) hc hd (readsAll_cons_val (.str _ _) (readsAll_cons_val (.bool _) .nil))
theorem reads_rowsS {p : PM} {h : Heap} (k : Le p h.get?) {vs : List Value} {ps : List (Nat × Bool)} (R : RowsS p vs ps) : ReadsAll h vs (ps.map datP) [] := by
  induction R with
  | nil => exact .nil
  | cons x _ ih => exact readsAll_cons_val (reads_sPair k x) ih
theorem strOk_ch {c : Nat} (h : c ≤ 1000) : PyData.strOk (ch c) = true := by
  unfold PyData.strOk
  simp; (first | exact z61 h | omega)
theorem shaped_datP {q : Nat × Bool} (h : q.1 ≤ 1000) : SeqAt.shaped (datP q) = true := by
  unfold SeqAt.shaped datP
  simp [PyData.canLay0, PyData.canLayAll0, PyData.depth, PyData.depthAll, strOk_ch h]
theorem shaped_rows {ps : List (Nat × Bool)} (h : ∀ q ∈ ps, q.1 ≤ 1000) : SeqAt.shaped (.list (ps.map datP)) = true := by
  have h1 : PyData.canLayAll0 (ps.map datP) = true := by
    induction ps with
    | nil => rfl
    | cons q r ih =>
      rw [List.map_cons, PyData.canLayAll0, ih fun x hx => h x (.tail _ hx)]
      simp [datP, PyData.canLay0, PyData.canLayAll0, strOk_ch (h q (.head _))]
  have h2 : PyData.depthAll (ps.map datP) ≤ 1 := by
    clear h h1
    induction ps with
    | nil => simp [PyData.depthAll]
    | cons q r ih =>
      rw [List.map_cons, PyData.depthAll]
      have : PyData.depth (datP q) = 1 := by simp [datP, PyData.depth, PyData.depthAll]
      (first | exact z62 ih this | omega)
  unfold SeqAt.shaped
  rw [Bool.and_eq_true, decide_eq_true_iff]
  refine ⟨by rw [PyData.canLay0]; exact h1, ?_⟩
  rw [PyData.depth]; (first | exact z63 h2 | omega)
theorem shaped_strs {xs : List Str} (h : ∀ x ∈ xs, PyData.strOk x = true) : SeqAt.shaped (.list (xs.map PyData.str)) = true := by
  have h1 : PyData.canLayAll0 (xs.map PyData.str) = true := by
    induction xs with
    | nil => rfl
    | cons q r ih =>
      rw [List.map_cons, PyData.canLayAll0, ih fun x hx => h x (.tail _ hx)]
      simp [PyData.canLay0, h q (.head _)]
  have h2 : PyData.depthAll (xs.map PyData.str) = 0 := by
    clear h h1
    induction xs with
    | nil => rfl
    | cons q r ih =>
      rw [List.map_cons, PyData.depthAll, ih]; simp [PyData.depth]
  unfold SeqAt.shaped
  rw [Bool.and_eq_true, decide_eq_true_iff]
  refine ⟨by rw [PyData.canLay0]; exact h1, ?_⟩
  rw [PyData.depth]; (first | exact z64 h2 | omega)
theorem eqv_nil (xs : List PyData) : (PyData.list xs).eqv (.list []) = xs.isEmpty := by
  cases xs <;> rfl
theorem eqv_datP (p q : Nat × Bool) : (datP p).eqv (datP q) = decide (p = q) := by
  obtain ⟨a, x⟩ := p
  obtain ⟨b, y⟩ := q
  unfold datP
  simp only [PyData.eqv, PyData.eqvAll, ch_eq, Prod.mk.injEq]
  by_cases h1 : a = b <;> by_cases h2 : x = y <;> simp [h1, h2]

section
variable {M : Model} {prog : Program} {w : World} {A : Around} {E : Value → Shared → Prop} {s : Shared} {env : Env} {g n : PM} {h h' h₁ : Heap} {tk : Nat} {m : Str → Option Value} {fs fs' fsK : Fs} {L d : Addr} {P P' : Obj → Prop}
theorem reads_listR {a : Addr} {vs : List Value} {ps : List (Nat × Bool)} (ha : Wls h.get? a vs) (R : RowsS h.get? vs ps) : Reads h (.ref a) (.list (ps.map datP)) [a] := by
  obtain ⟨o, e, hc, n, hd⟩ := ha
  exact reads_list_at e hc hd (by simpa using reads_rowsS (Le.refl _) R)
theorem reads_listN {a : Addr} (ha : Wls h.get? a []) : Reads h (.ref a) (.list []) [a] := by
  obtain ⟨o, e, hc, n, hd⟩ := ha
  exact reads_list_at e hc hd .nil
theorem readsAll_strs {vs : List Value} {xs : List Str} (H : Strs vs xs) : ReadsAll h vs (xs.map PyData.str) [] := by
  induction H with
  | nil => exact .nil
  | cons x t _ ih => exact readsAll_cons_val (.str _ _) ih
theorem reads_listS {a : Addr} {vs : List Value} {xs : List Str} (ha : Wls h.get? a vs) (H : Strs vs xs) : Reads h (.ref a) (.list (xs.map PyData.str)) [a] := by
  obtain ⟨o, e, hc, n, hd⟩ := ha
  exact reads_list_at e hc hd (by simpa using readsAll_strs H)
/-- rows == [] and its kin -/
theorem r_rowsNe {a b : Addr} {vs : List Value} {ps : List (Nat × Bool)} {Q : Value → Shared → Prop} (ha : Wls h.get? a vs) (R : RowsS h.get? vs ps) (hb : Wls h.get? b []) (hps : ∀ q ∈ ps, q.1 ≤ 1000) (hu : A.units + 64 < cLine) (hQ : Q (.bool (!ps.isEmpty)) (mkS s h tk)) :
    wpAny (model prog w) A (compareOp .NotEq (.ref a) (.ref b)) Q E (mkS s h tk) := by
  refine r_neD (reads_listR ha R) (reads_listN hb) (shaped_rows hps) (by rfl) hu ?_
  rw [eqv_nil, List.isEmpty_map]; exact hQ
theorem r_rowsEq {a b : Addr} {vs : List Value} {ps : List (Nat × Bool)} {Q : Value → Shared → Prop} (ha : Wls h.get? a vs) (R : RowsS h.get? vs ps) (hb : Wls h.get? b []) (hps : ∀ q ∈ ps, q.1 ≤ 1000) (hu : A.units + 64 < cLine) (hQ : Q (.bool ps.isEmpty) (mkS s h tk)) :
    wpAny (model prog w) A (compareOp .Eq (.ref a) (.ref b)) Q E (mkS s h tk) := by
  refine r_eqD (reads_listR ha R) (reads_listN hb) (shaped_rows hps) (by rfl) hu ?_
  rw [eqv_nil, List.isEmpty_map]; exact hQ
theorem r_strsNe {a b : Addr} {vs : List Value} {xs : List Str} {Q : Value → Shared → Prop} (ha : Wls h.get? a vs) (H : Strs vs xs) (hb : Wls h.get? b []) (hps : ∀ x ∈ xs, PyData.strOk x = true) (hu : A.units + 64 < cLine) (hQ : Q (.bool (!xs.isEmpty)) (mkS s h tk)) :
    wpAny (model prog w) A (compareOp .NotEq (.ref a) (.ref b)) Q E (mkS s h tk) := by
  refine r_neD (reads_listS ha H) (reads_listN hb) (shaped_strs hps) (by rfl) hu ?_
  rw [eqv_nil, List.isEmpty_map]; exact hQ
theorem r_sPairEq {a b : Addr} {p q : Nat × Bool} {Q : Value → Shared → Prop} (ha : sPair h.get? a p) (hb : sPair h.get? b q) (hp : p.1 ≤ 1000) (hq : q.1 ≤ 1000) (hu : A.units + 64 < cLine) (hQ : Q (.bool (decide (p = q))) (mkS s h tk)) :
    wpAny (model prog w) A (compareOp .Eq (.ref a) (.ref b)) Q E (mkS s h tk) := by
  refine r_eqD (reads_sPair (Le.refl _) ha) (reads_sPair (Le.refl _) hb) (shaped_datP hp) (shaped_datP hq) hu ?_
  rw [eqv_datP]; exact hQ
theorem r_sPairNe {a b : Addr} {p q : Nat × Bool} {Q : Value → Shared → Prop} (ha : sPair h.get? a p) (hb : sPair h.get? b q) (hp : p.1 ≤ 1000) (hq : q.1 ≤ 1000) (hu : A.units + 64 < cLine) (hQ : Q (.bool (!decide (p = q))) (mkS s h tk)) :
    wpAny (model prog w) A (compareOp .NotEq (.ref a) (.ref b)) Q E (mkS s h tk) := by
  refine r_neD (reads_sPair (Le.refl _) ha) (reads_sPair (Le.refl _) hb) (shaped_datP hp) (shaped_datP hq) hu ?_
  rw [eqv_datP]; exact hQ
theorem r_ltCh {a b : Nat} {t u : Tok} {Q : Value → Shared → Prop} (hQ : Q (.bool (decide (a < b))) (mkS s h tk)) : wpAny (model prog w) A (compareOp .Lt (.str (ch a) t) (.str (ch b) u)) Q E (mkS s h tk) := by
  refine PyProof.Rows.lt_str ?_
  have : decide ((ch a).cps.toList < (ch b).cps.toList) = decide (a < b) := by
    show decide ([a] < [b]) = _
    by_cases h : a < b
    · rw [decide_eq_true h, decide_eq_true]
      exact List.Lex.rel h
    · rw [decide_eq_false h, decide_eq_false]
      intro z
      cases z with
      | rel z => exact h z
      | cons z => cases z
  rw [this]; exact hQ
/-- v[e:] -/
theorem x_sliceF {v e : Expr} {p pos : Pos} {Q : Value → Shared → Prop}
    (hv : wpAny M A (eval v env) (fun o s₁ => wpAny M A (eval e env) (fun k s₂ => wpAny M A (subscriptTail v (.Slice (some e) none none p) o (.ref s₂.heap.objs.size)) Q E { s₂ with heap := s₂.heap.push { cls := .type "slice", data := .fields #[k, .none, .none] } }) E s₁) E s) :
    wpAny M A (eval (.Subscript v (.Slice (some e) none none p) pos) env) Q E s := by
  refine Subscript_ (wpAny_mono hv (fun o s₁ h₁ => wpAny_Slice ?_) fun _ _ z => z)
  exact wpAny_mono h₁ (fun k s₂ h₂ => wpAny_pure (wpAny_pure h₂)) fun _ _ z => z
theorem r_sliceF {v e : Expr} {p : Pos} {a : Addr} {vs : List Value} {k : Nat} {t : Tok} {Q : Value → Shared → Prop} (S : St g n h L m fs) (ha : Wls h.get? a vs) (hz : vs.length ≤ 1000000)
    (hQ : ∀ d h' tk', St g n h' L m ((d, lstP (vs.drop k)) :: fs) → Q (.ref d) (mkS s h' tk'))
    (ht : ∀ r, letTemporaryGo v (.ref a) r = pure () := by intro _; with_unfolding_all rfl) :
    wpAny (model prog w) A (subscriptTail v (.Slice (some e) none none p) (.ref a) (.ref h.objs.size)) Q E (mkS s (h.push { cls := .type "slice", data := .fields #[.int k t, .none, .none] }) tk) :=
  r_slice S ha (.int k t) .none (by have := slicePick_from' vs.toArray k; simpa using this) hz hQ (by with_unfolding_all rfl) ht
/-- v[:e] -/
theorem x_sliceU {v e : Expr} {p pos : Pos} {Q : Value → Shared → Prop}
    (hv : wpAny M A (eval v env) (fun o s₁ => wpAny M A (eval e env) (fun k s₂ => wpAny M A (subscriptTail v (.Slice none (some e) none p) o (.ref s₂.heap.objs.size)) Q E { s₂ with heap := s₂.heap.push { cls := .type "slice", data := .fields #[.none, k, .none] } }) E s₁) E s) :
    wpAny M A (eval (.Subscript v (.Slice none (some e) none p) pos) env) Q E s := by
  refine Subscript_ (wpAny_mono hv (fun o s₁ h₁ => wpAny_Slice (wpAny_pure ?_)) fun _ _ z => z)
  exact wpAny_mono h₁ (fun k s₂ h₂ => wpAny_pure h₂) fun _ _ z => z
theorem r_sliceU {v e : Expr} {p : Pos} {a : Addr} {vs : List Value} {k : Nat} {t : Tok} {Q : Value → Shared → Prop} (S : St g n h L m fs) (ha : Wls h.get? a vs) (hz : vs.length ≤ 1000000)
    (hQ : ∀ d h' tk', St g n h' L m ((d, lstP (vs.take k)) :: fs) → Q (.ref d) (mkS s h' tk'))
    (ht : ∀ r, letTemporaryGo v (.ref a) r = pure () := by intro _; with_unfolding_all rfl) :
    wpAny (model prog w) A (subscriptTail v (.Slice none (some e) none p) (.ref a) (.ref h.objs.size)) Q E (mkS s (h.push { cls := .type "slice", data := .fields #[.none, .int k t, .none] }) tk) :=
  r_slice S ha .none (.int k t) (by have := slicePick_upto' vs.toArray k; simpa using this) hz hQ (by with_unfolding_all rfl) ht
end
end Mine
end

section
open PySem PySem.W PyProof.Rows PyProof.V
set_option maxRecDepth 100000
set_option linter.all false
namespace Mine
section
variable {M : Model} {prog : Program} {w : World} {A : Around} {E : Value → Shared → Prop} {s : Shared} {env : Env} {g n : PM} {h h' : Heap} {tk : Nat} {m m' : Str → Option Value} {fs fsK : Fs} {L I : Addr}
/-- an item of a list, counted from its end -/
theorem r_itemNeg {value slice : Expr} {a : Addr} {vs : List Value} {k : Int} {u : Tok} {v : Value} {Q : Value → Shared → Prop} (hl : Wls h.get? a vs) (h0 : k < 0) (h1 : -(vs.length : Int) ≤ k) (hx : vs[(k + vs.length).toNat]? = some v) (hb : -(2 ^ 63) ≤ k) (hQ : Q v (mkS s h tk))
    (hs : subscripted slice false (.ref a) (.int k u) = operate [.ref a, .int k u] (getItem (.ref a) (.int k u)) := by with_unfolding_all rfl) :
    wpAny (model prog w) A (subscriptTail value slice (.ref a) (.int k u)) Q E (mkS s h tk) :=
  have hl' : Heap.IsList (mkS s h tk).heap a vs.toArray := hl
  tail_any hl'.typeIs slot_list_getitem.lookup (wpAny_getItem_list_neg hl' h0 (by simpa using h1) hb (by simpa using hx) hQ) hs

theorem r_iter_listL {a : Addr} {vs : List Value} {Q : Value → Shared → Prop} (S : St g n h L m fs) (hh : A.handled = none) (hl : Wls g a vs)
    (hQ : ∀ I h' fp Sti, St g n h' L m fs → Itr prog w A g n h' L fs I vs.length (fun i v => vs[i]? = some v) fp Sti → (∀ i h, Sti i h → ∃ o, h.get? I = some o ∧ o.cls = .type "list_iterator") → Le h.get? h'.get? → Q (.ref I) (mkS s h' tk)) : wpAny (model prog w) A (pyIter (.ref a)) Q E (mkS s h tk) := by
  have hls : Heap.IsList (mkS s h tk).heap a vs.toArray := S.gAt hl
  have hne : a ≠ h.objs.size := fun e => by
    obtain ⟨o, q, _⟩ := S.gAt hl
    rw [e, fresh_size] at q; cases q
  have W := Walks.list (prog := prog) (w := w) hh h.objs.size a hne vs.toArray
  simp only [List.size_toArray, List.getElem?_toArray] at W
  obtain ⟨S', T⟩ := S.itr (o := { cls := Value.type "list_iterator", data := Data.fields #[Value.ref a, Value.int 0 0] }) W ⟨⟨_, Heap.get?_push_size _ rfl, rfl, rfl⟩, hls.push _⟩ (by
    intro b hb
    rcases List.mem_cons.mp hb with e | e
    · exact .inl e
    · rw [List.mem_singleton] at e; obtain ⟨o, q, _⟩ := hl; exact .inr ⟨o, e ▸ q⟩) (fun i h' ⟨⟨o, e, _⟩, _⟩ => ⟨o, e⟩)
  exact wpAny_pyIter_list hls (hQ _ _ _ _ S' T (fun i h' ⟨⟨o, e, c, _⟩, _⟩ => ⟨o, e, c⟩) (Le.push _ _))

theorem letGo_list {elts : List Expr} {x1 : Nat} {pos : Pos} {T : Addr} {Q : Unit → Shared → Prop} (hI : ∃ o, h.get? I = some o ∧ o.cls = .type "list_iterator") (hQ : Q () (mkS s h tk)) :
    wpAny M A (letOwnedTupleGo (.Tuple elts x1 pos) (.ref I) (.ref T)) Q E (mkS s h tk) := by
  obtain ⟨⟨c, d, dt, sl⟩, e, hc⟩ := hI
  dsimp only at hc
  subst hc
  unfold letOwnedTupleGo
  dsimp only
  refine wpAny_bind (wpAny_load (s := mkS s h tk) e ?_)
  cases dt with
  | fields vs =>
    dsimp only
    rw [if_neg (by rw [show (["enumerate", "zip", "dict_itemiterator", "dict_reverseitemiterator", "odict_iterator", "itertools.zip_longest", "itertools.pairwise"].contains "list_iterator") = false from by decide +kernel]; simp)]
    exact wpAny_pure hQ
  | _ => exact wpAny_pure hQ

theorem St.storeX (S : St g n h L m fs) (hn : h'.Ns L m') (k : ∀ b o, b ≠ L → h.get? b = some o → h'.get? b = some o) : St g n h' L m' fs where
  ns := hn
  kg := fun b o e => k b o (fun q => by rw [q, S.gL] at e; cases e) (S.kg b o e)
  kn := fun b o e => k b o (fun q => by rw [q, S.nL] at e; cases e) (S.kn b o e)
  gL := S.gL
  nL := S.nL
  dj := S.dj
  fx := fun p hp => let ⟨⟨o, e, r⟩, z⟩ := S.fx p hp; ⟨⟨o, k _ _ z.1 e, r⟩, z⟩
  nd := S.nd

/-- [a for a, b in rows] -/
theorem comp_firsts {a b : Str} {pa pb pe tp : Pos} {kk : Nat} {iter : Expr} {scope : Scope} {cl : List (Str × Addr)} {pos : Pos} {fp : List Addr} {Sti : Nat → Heap → Prop} {Q : Value → Shared → Prop} {vs : List Value} {ps : List (Nat × Bool)}
    (hh : A.handled = none) (S : St g n h L m fsK) (T : Itr prog w A g n h L fsK I vs.length (fun i v => vs[i]? = some v) fp Sti) (hcls : ∀ i h, Sti i h → ∃ o, h.get? I = some o ∧ o.cls = .type "list_iterator")
    (R : RowsS h.get? vs ps) (hsz : vs.length ≤ 1000000)
    (done : ∀ D ys h tk, Strs ys (ps.map fun p => ch p.1) → St g n h L m ((D, lstP ys) :: fsK) → Q (.ref D) (mkS s h tk))
    (hcell : (scope.names.all fun y => y.2 != .cell) = true) (hkind : scope.kind = .function := by rfl) (hxa : scope.names.lookup a = some .local := by rfl) (hxb : scope.names.lookup b = some .local := by rfl) (hab : ¬ a = b := by decide) (hda : (a == ("__debug__" : Str)) = false := by decide) :
    wpAny (model prog w) A (newList []) (fun acc s₃ => wpAny (model prog w) A (newFunctionEnv scope env.globals cl [] env.qual none .none (some env)) (fun cenv s₄ =>
      codeAny (model prog w) A (.compStart (.ListComp (.Name a pe) [⟨.Tuple [.Name a pa, .Name b pb] kk tp, iter, [], 0⟩] scope pos) 0 (.ref I) acc { cenv with scope := relabel scope env }) (compPost (model prog w) A E none Q acc cenv.locals) s₄) E s₃) E (mkS s h tk) := by
  classical
  have zL : (1000000 : Nat) ≤ sizeLine := by rw [sizeLine_eq]; decide
  have W := T.W
  have hst := T.st
  have hfp := T.fp
  have hal := T.al
  have hI1 := T.L
  have hI2 := T.g
  have hI3 := T.n
  have hI4 := T.fs
  clear T
  have hcell' : ∀ y ∈ scope.names, y.2 ≠ .cell := fun y hy => by simpa using List.all_eq_true.mp hcell y hy
  refine hide fun q₀ kq => ?_
  obtain ⟨oI, hoI⟩ := hal _ _ hst
  refine kq ?_; clear kq q₀
  have hrl := R.length
  let gC : PM := less h [I]
  have out : ∀ b, b ≠ I → ∀ o, h.get? b = some o → gC b = some o := fun b q o e => less_of (by simpa using q) e
  have hg : Le g gC := fun b o e => out b (fun q => by rw [q, hI2] at e; cases e) o (S.kg b o e)
  have hn : Le n gC := fun b o e => out b (fun q => by rw [q, hI3] at e; cases e) o (S.kn b o e)
  have hLC : ∃ o, gC L = some o ∧ h.get? L = some o := by
    obtain ⟨o, e⟩ := S.Lin
    exact ⟨o, out L (Ne.symm hI1) o e, e⟩
  have hKC : ∀ p ∈ fsK, ∃ o, gC p.1 = some o ∧ h.get? p.1 = some o := fun p hp => by
    obtain ⟨o, e, _⟩ := (S.fx p hp).1
    exact ⟨o, out _ (hI4 p hp) o e, e⟩
  have rowsC : RowsS gC vs ps := by
    obtain ⟨oI', e1, c1⟩ := hcls _ _ hst
    clear hrl hsz done W hst hcls
    induction R with
    | nil => exact .nil
    | cons x _ ih =>
      obtain ⟨t, o, e, c, r⟩ := x
      refine .cons ⟨t, o, out _ (fun q => ?_) o e, c, r⟩ ih
      rw [q, e1] at e; cases e; rw [c1] at c; exact absurd (Value.type.inj c) (by decide)
  refine wpAny_newObj_type (wpAny_newFunctionEnv hcell' (by intro y hy; simp at hy) (fun h₁ hns₁ hsb₁ => ?_) hkind)
  dsimp only at hns₁ hsb₁ ⊢
  generalize hD : h.objs.size = D at *
  have hDf : h.get? D = none := hD ▸ fresh_size h
  generalize hH2 : h.push { cls := .type "list", dict := none, data := .seq ([] : List Value).toArray } = H2 at hns₁ hsb₁ ⊢
  generalize hCC : H2.objs.size = C at *
  have hC1 : C = D + 1 := by rw [← hCC, ← hH2, Heap.size_push, hD]
  have hCf : H2.get? C = none := hCC ▸ fresh_size H2
  have k₂ : Le h.get? H2.get? := hH2 ▸ Le.push h _
  have hCh : h.get? C = none := by
    cases e : h.get? C with
    | none => rfl
    | some o => rw [k₂ _ _ e] at hCf; cases hCf
  have old : Le H2.get? h₁.get? := fun b o e => hsb₁.extBut b o (fun q => by rw [q, hCf] at e; cases e) (Heap.get?_push_of_some _ e)
  have hlD : At H2.get? D (lstP []) := ⟨_, by rw [← hH2, ← hD]; exact Heap.get?_push_size _ rfl, 0, rfl⟩
  have hDC : D ≠ C := by (first | exact z27 hC1 | omega)
  have S₁ : St gC (fun _ => none) h₁ C (fun x => ([] : List (Str × Value)).reverse.lookup x) [(D, lstP [])] := by
    refine ⟨hns₁, less_le.trans (k₂.trans old), (fun _ _ e => nomatch e), less_none hCh, rfl, (fun _ _ e => nomatch e), fun p hp => ?_, by simp⟩
    rw [List.mem_singleton] at hp; subst hp
    exact ⟨hlD.le old, hDC, less_none hDf, rfl⟩
  have hIC : I ≠ C := fun q => by rw [q, hCh] at hoI; cases hoI
  have hID : I ≠ D := fun q => by rw [q, hDf] at hoI; cases hoI
  have hfpC : ∀ b ∈ fp, b ≠ C ∧ (b = I ∨ ∃ o, gC b = some o) := fun b hb => by
    rcases hfp b hb with e | ⟨o, e⟩
    · exact ⟨e ▸ hIC, .inl e⟩
    · refine ⟨fun q => ?_, .inr ⟨o, hg _ _ e⟩⟩
      have := S.kg _ _ e; rw [q, hCh] at this; cases this
  have hfpD : ∀ b ∈ fp, b ≠ D := fun b hb q => by
    rcases (hfpC b hb).2 with e | ⟨o, e⟩
    · exact hID (e.symm.trans q)
    · have := less_le _ _ e; rw [q, hDf] at this; cases this
  have hst₁ : Sti 0 h₁ := W.frame _ _ _ hst fun b hb o e => old _ _ (k₂ _ _ e)
  have loop : ∀ s₃ : Shared, s₃ = mkS s h₁ (tk + ([] : List (Str × Value)).length) →
      codeAny (model prog w) A (.compLoop (.ListComp (.Name a pe) [⟨.Tuple [.Name a pa, .Name b pb] kk tp, iter, [], 0⟩] scope pos) 0 (.ref I) (.ref D) (compEnvC scope cl C env)) (compPost (model prog w) A E none Q (.ref D) C) s₃ := by
    rintro s₃ rfl
    refine kcp_loop (fun k s' => X5 fun i ys mC h tk => N7 (s' = mkS s h tk) (i ≤ vs.length) (k = vs.length + 1 - i) (St gC PM0 h C mC [(D, lstP ys)]) (Sti i h) (ys.length = i) (Strs ys ((ps.take i).map fun p => ch p.1))) ?_ (vs.length + 1)
      ⟨0, [], _, h₁, _, rfl, Nat.zero_le _, rfl, S₁, hst₁, rfl, .nil⟩
    intro k s' hJ
    refine hide fun q₀ kq => ?_
    obtain ⟨i, ys, mC, h₂, tk₂, rfl, hic, rfl, S₂, hst₂, hyl, hys⟩ := hJ
    refine kq ?_; clear kq q₀
    have hgI : gC I = none := less_no (List.mem_cons_self ..)
    have hfI' : ∀ p ∈ [(D, lstP ys)], p.1 ≠ I := fun p hp => by rw [List.mem_singleton] at hp; subst hp; exact Ne.symm hID
    by_cases hlt : i < vs.length
    · refine hide fun q₀ kq => ?_
      obtain ⟨r, e, ⟨t, tup⟩⟩ := rowsC.get (i := i) (by exact eqlt' (by assumption) (by assumption))
      refine kq ?_; clear kq q₀
      refine W.item i _ _ _ hlt hst₂ fun v h₃ tk₃ hv hst₃ hk₃ => ?_
      have hv : vs[i]? = some v := hv
      rw [e] at hv; cases hv
      have S₃ := S₂.but (h' := h₃) (.inr ⟨hIC, hgI, rfl, hfI'⟩) hk₃
      refine letGo_list (hcls _ _ hst₃) ?_
      have ht : (mkS s h₃ tk₃).heap.IsTuple r #[.str (ch ps[i].1) t, .bool ps[i].2] := S₃.gAt tup
      refine kcp_assign (env := compEnvC scope cl C env) hh ht (lookup_relabel_local hxa) (lookup_relabel_local hxb) (by simp [compEnvC, relabel, hkind]) S₃.ns fun h₄ tk₄ hn₄ hs₄ => ?_
      have S₄ := S₃.storeX hn₄ hs₄
      have hst₄ : Sti (i + 1) h₄ := W.frame _ _ _ hst₃ fun b hb o e => hs₄ b o (hfpC b hb).1 e
      refine wpAny_Name (wpAny_loadName_local (v := .str (ch ps[i].1) t) (by simp [compEnvC, relabel, hkind]) (lookup_relabel_local hxa) S₄.ns (by simp [hab]) ?_) hda
      have hl : Lst h₄.get? D ys := (S₄.fx _ (.head _)).1
      refine wpAny_list_append_plain (s := mkS s h₄ tk₄) hl.plain (fun h₆ hp hs => ?_) (by simpa using (by exact eqle (by assumption) (Nat.le_trans (by assumption) (Nat.le_trans (by assumption) (by decide))) : ys.length ≤ sizeLine))
      have S₆ : St gC PM0 h₆ C _ [(D, lstP (ys ++ [.str (ch ps[i].1) t]))] := S₄.change .head (Lst.of (by simpa using hp)) hs
      refine ⟨vs.length + 1 - (i + 1), by exact msr1 (by assumption), i + 1, _, _, h₆, _, rfl, hlt, rfl, S₆, ?_, by simp [hyl], ?_⟩
      · exact W.frame _ _ _ hst₄ fun b hb o e => (hs.2 b (hfpD b hb)).trans e
      · rw [List.take_add_one, List.getElem?_eq_getElem (by exact eqlt' (by assumption) (by assumption)), List.map_append]
        exact hys.append' (.cons _ t .nil)
    · have : i = vs.length := by (first | exact z28 hic hlt | omega)
      subst this
      refine W.done _ _ _ hst₂ fun h₃ tk₃ hk₃ => ?_
      have S₃ := S₂.but (h' := h₃) (.inr ⟨hIC, hgI, rfl, hfI'⟩) hk₃
      refine ⟨mC, S₃.ns, fun h₄ hs₄ => ?_⟩
      have S₅ := St.back (fsM := []) S S₃ hg hn hLC hKC
      have S₆ := S₅.but (I := C) (h' := h₄) (.inr ⟨fun q => ?_, ?_, ?_, fun p hp q => ?_⟩) (fun b o q e => (hs₄.2 b (by simpa using q)).trans e)
      · refine done D ys h₄ tk₃ ?_ S₆
        rw [List.take_of_length_le (by (first | exact z29 hrl | omega))] at hys
        exact hys
      · obtain ⟨o, e⟩ := S.Lin; rw [← q, hCh] at e; cases e
      · exact S.gno hCh
      · exact S.nno hCh
      · have := S₃.gL
        rcases List.mem_append.mp hp with hp | hp
        · exact (S₃.fx p hp).2.1 q
        · obtain ⟨o, e, _⟩ := hKC p hp; rw [q, this] at e; cases e
  exact codeAny_compStart_list (loop _ rfl) (W.self 0 _ _ _ hst₁ (loop _ rfl))
end
end Mine
end

section
open PySem PySem.W PyProof.Rows PyProof.V
set_option maxRecDepth 100000
set_option linter.all false
namespace Mine
section
variable {prog : Program} {w : World} {A : Around} {E : Value → Shared → Prop} {s : Shared} {env : Env} {g n : PM} {h h₁ : Heap} {tk : Nat} {m : Str → Option Value} {fs : Fs} {L e : Addr}
/-- Die is caught in the frame that stands lowest -/
theorem caught_die {b₀ : Stmt} {suite : List Stmt} {pos np : Pos} {rest : List ExceptHandler} {Q : Flow → Shared → Prop} (hA : A.frames = some [env]) (G : Gn w g) (S : St g n h L m fs) (R : Raised h [env] e h₁)
    (k : ∀ h' tk', St g n h' L m fs → wpAny (model prog w) (A.mark (some (.ref e))) (execs (b₀ :: suite) env) Q (fun _ _ => False) (mkS s h' tk'))
    (hL : env.locals = L := by rfl) (hf : env.frame = some L := by rfl) (hg : env.globals = mainGlobals := by rfl) (hk : env.scope.kind = .function := by rfl) (hx : env.kindOf (Str.ofString "Die") = some .globalImplicit := by rfl) :
    wpAny (model prog w) A (noteFrame (.ref e) env) (fun _ s₂ => wpAny (model prog w) A (setFlight (.ref e) none) (fun _ s₃ =>
      wpAny (model prog w) A (handleBy (.ref e) env (.ExceptHandler (some (.Name (Str.ofString "Die") np)) none (b₀ :: suite) pos :: rest)) Q E s₃) E s₂) E (mkS s h₁ tk) := by
  obtain ⟨⟨a0, hfl⟩, up⟩ := R
  rw [frs_cons hf] at hfl
  have hfl : Heap.FlyingW (hideAll h [L]) [env] e (.ref 51) a0 h₁ := hfl
  have land : ∀ h', (∀ b o, (hideAll h [L]).get? b = some o → h'.get? b = some o) → h.UpToSlots h' → St g n h' L m fs := fun h' k1 k2 =>
    S.landed (outer := []) (fun b o hb hn => k1 b o (hideAll_get _ hb hn)) (fun a ha => nomatch ha) k2
  refine wpAny_looks_onW (s := mkS s h₁ tk) hA hf hfl fun h₄ hheld₄ up₄ => ?_
  refine wpAny_landsW hheld₄ fun h₅ hheld up₅ => ?_
  have S₅ := land h₅ hheld.1 ((up.trans up₄).trans up₅)
  obtain ⟨ob, hob, hobc⟩ := hheld.there
  refine wpAny_handleBy_cons (codeAny_handlers_test (r_glob (v := .ref 51) (S₅.gn G) rfl ?_ hg hk hx)) (by intro q; cases q)
  refine die_cls' (S₅.gn G) fun nm q bs sn sub ab col dd k0 k1 k2 k3 k5 hC => ?_
  refine wpAny_excMatches_sub_self hC hob hobc (by decide) (codeAny_handlers_suite ?_)
  refine lands_againW hheld fun h₆ hfl₆ up₆ => ?_
  exact wpAny_mono (k h₆ tk (land h₆ hfl₆.1 (((up.trans up₄).trans up₅).trans up₆))) (fun _ _ x => x) fun _ _ x => x.elim
end
section
variable {M : Model} {prog : Program} {w : World} {A : Around} {E : Value → Shared → Prop} {s : Shared} {env : Env} {g n : PM} {h : Heap} {tk : Nat} {m : Str → Option Value} {fs : Fs} {L : Addr}
/-- a def of the text's, called with nothing -/
theorem r_cdef0 {fn : Str} {f : Addr} {np pos : Pos} {Q : Value → Shared → Prop} (G : Gn w h.get?) (hn : nsIn (KK w) mainGlobals fn = some (some (.ref f))) (hf : keepIn (KK w) (.ref f) = true)
    (hQ : wpAny M A (call (.ref f) []) Q E (mkS s h tk))
    (hx : env.kindOf fn = some .globalImplicit := by rfl)
    (hg : env.globals = mainGlobals := by rfl) (hk : env.scope.kind = .function := by rfl) (hd : (fn == ("__debug__" : Str)) = false := by decide) :
    wpAny M A (eval (.Call (.Name fn np) [] [] pos) env) Q E (mkS s h tk) := by
  refine Call_ (r_glob G hn ?_ hg hk hx hd)
  exact callWith_K0 (s := mkS s h tk) G.in hf hQ
/-- e[k:] where e is a call -/
theorem r_sliceFG {v e : Expr} {p : Pos} {a : Addr} {vs : List Value} {k : Nat} {t : Tok} {Q : Value → Shared → Prop} (S : St g n h L m fs) (ha : Wls h.get? a vs) (hz : vs.length ≤ 1000000)
    (hQ : ∀ d h' tk', St g n h' L m ((d, lstP (vs.drop k)) :: fs) → Q (.ref d) (mkS s h' tk')) :
    wpAny (model prog w) A (subscriptTail v (.Slice (some e) none none p) (.ref a) (.ref h.objs.size)) Q E (mkS s (h.push { cls := .type "slice", data := .fields #[.int k t, .none, .none] }) tk) := by
  have ha' : (h.push { cls := .type "slice", data := .fields #[.int k t, .none, .none] }).IsList a vs.toArray := Heap.IsList.push ha.isList _
  have zL : (1000000 : Nat) ≤ sizeLine := by rw [sizeLine_eq]; decide
  have hT := Heap.IsList.typeIs (s := mkS s _ tk) ha'
  have hw : slicePick vs.toArray (some (k : Int)) none none = (vs.drop k).toArray := by have := slicePick_from' vs.toArray k; simpa using this
  have inner : wpAny (model prog w) A (getItem (.ref a) (.ref h.objs.size)) Q E (mkS s (h.push { cls := .type "slice", data := .fields #[.int k t, .none, .none] }) tk) := by
    refine wpAny_getItem_list_slice (s := mkS s _ tk) ha' (Heap.IsSliceOf.new ..) (.int k t) .none .none (by simp) ?_ (by simp; exact Nat.le_trans (by assumption) (by assumption))
    rw [hw]
    refine hQ _ _ _ (S.own ?_ ((Le.push _ _).trans (Le.push _ _)) ⟨_, Heap.get?_push_size _ rfl, 0, rfl⟩)
    cases q : h.get? (mkS s (h.push { cls := .type "slice", data := .fields #[.int k t, .none, .none] }) tk).heap.objs.size with
    | none => rfl
    | some o =>
      have h1 := Heap.lt_size q
      have h2 : (h.push { cls := .type "slice", data := .fields #[.int k t, .none, .none] }).objs.size = h.objs.size + 1 := Heap.size_push ..
      exact absurd h1 (by show ¬ (h.push _).objs.size < h.objs.size; rw [h2]; (first | exact z60 | omega))
  unfold subscriptTail
  refine wpAny_bind ?_
  rw [getitemInPython_of_ne hT.not_modules]
  refine wpAny_bind (wpAny_specialOf hT slot_list_getitem.lookup ?_)
  have fin : wpAny (model prog w) A (subscripted (.Slice (some e) none none p) false (.ref a) (.ref h.objs.size)) (fun r s₃ => wpAny (model prog w) A (letTemporaryGo v (.ref a) r >>= fun _ => pure r) Q E s₃) E (mkS s (h.push { cls := .type "slice", data := .fields #[.int k t, .none, .none] }) tk) := by
    rw [show subscripted (.Slice (some e) none none p) false (.ref a) (.ref h.objs.size) = operate [.ref h.objs.size, .ref a] (getItem (.ref a) (.ref h.objs.size)) from by with_unfolding_all rfl]
    exact wpAny_operating (wpAny_mono inner (fun r s₃ h₃ => wpAny_bind (wpAny_letTemporaryGo (wpAny_pure h₃))) fun _ _ x => x)
  first
    | exact wpAny_pure (wpAny_bind fin)
    | exact wpAny_bind (wpAny_pure (wpAny_bind fin))
    | exact wpAny_bind fin
theorem IntsAre.take' {vs : List Value} {ns : List Int} (I : IntsAre vs ns) : ∀ k, IntsAre (vs.take k) (ns.take k) := by
  induction I with
  | nil => intro k; simp; exact .nil
  | cons n t _ ih =>
    intro k
    cases k with
    | zero => exact .nil
    | succ k => exact .cons n t (ih k)
theorem IntsAre.drop' {vs : List Value} {ns : List Int} (I : IntsAre vs ns) : ∀ k, IntsAre (vs.drop k) (ns.drop k) := by
  induction I with
  | nil => intro k; simp; exact .nil
  | cons n t I ih =>
    intro k
    cases k with
    | zero => exact .cons n t I
    | succ k => exact ih k
theorem IntsAre.app {vs us : List Value} {ns ms : List Int} (I : IntsAre vs ns) (J : IntsAre us ms) : IntsAre (vs ++ us) (ns ++ ms) := by
  induction I with
  | nil => exact J
  | cons n t _ ih => exact .cons n t ih
theorem strOk_tx {x : List Nat} (h : ∀ z ∈ x, z ≤ 1000) : PyData.strOk (tx x) = true := by
  unfold PyData.strOk
  simp
  intro z hz
  have := h z hz
  (first | exact z61 this | omega)
/-- two pairs of a text and a count -/
theorem r_textsEq {a b : Addr} {x y : List Nat} {c d : Int} {t1 t2 t3 t4 : Tok} {Q : Value → Shared → Prop} (ha : Tup h.get? a [.str (tx x) t1, .int c t2]) (hb : Tup h.get? b [.str (tx y) t3, .int d t4]) (hx : ∀ z ∈ x, z ≤ 1000) (hy : ∀ z ∈ y, z ≤ 1000)
    (he : x = y ∧ c = d) (hu : A.units + 64 < cLine) (hQ : Q (.bool true) (mkS s h tk)) :
    wpAny (model prog w) A (compareOp .Eq (.ref a) (.ref b)) Q E (mkS s h tk) := by
  obtain ⟨rfl, rfl⟩ := he
  have rd : ∀ {a : Addr} {t1 t2 : Tok}, Tup h.get? a [.str (tx x) t1, .int c t2] → Reads h (.ref a) (.tuple [.str (tx x), .int c]) [] := fun ha => by
    obtain ⟨o, e, hc, n, hd⟩ := ha
    exact reads_tuple_at e hc hd (readsAll_cons_val (.str _ _) (readsAll_cons_val (.int _ _) .nil))
  have so : PyData.strOk (tx x) = true := strOk_tx hx
  have sh : SeqAt.shaped (.tuple [.str (tx x), .int c]) = true := by
    unfold SeqAt.shaped
    simp [PyData.canLay0, PyData.canLayAll0, PyData.depth, PyData.depthAll, so]
  refine r_eqD (rd ha) (rd hb) sh sh hu ?_
  have : (PyData.tuple [.str (tx x), .int c]).eqv (.tuple [.str (tx x), .int c]) = true := by
    simp [PyData.eqv, PyData.eqvAll]
  rw [this]; exact hQ
end
end Mine
end

section
open PySem PySem.W PyProof.Rows
set_option maxRecDepth 100000
set_option linter.all false
namespace Mine
theorem wpS_ifn {σ α : Type} {M : Model} {A : Around} {E : Value → Shared → Prop} {s : Shared} {c : Prop} [Decidable c] {t e : StateT σ Sem α} {Q : α → σ → Prop} {st : σ} (hc : ¬ c) (h : wpS M A E s e Q st) : wpS M A E s (if c then t else e) Q st := by rw [if_neg hc]; exact h
theorem wpS_ifp {σ α : Type} {M : Model} {A : Around} {E : Value → Shared → Prop} {s : Shared} {c : Prop} [Decidable c] {t e : StateT σ Sem α} {Q : α → σ → Prop} {st : σ} (hc : c) (h : wpS M A E s t Q st) : wpS M A E s (if c then t else e) Q st := by rw [if_pos hc]; exact h
theorem wpS_meet {σ α : Type} {M : Model} {A : Around} {E : Value → Shared → Prop} {s : Shared} {c : Prop} [Decidable c] {t e : StateT σ Sem α} {Q : α → σ → Prop} {st : σ} (he : wpS M A E s e Q st) (ht : c → wpS M A E s e Q st → wpS M A E s t Q st) : wpS M A E s (if c then t else e) Q st := by
  by_cases hc : c
  · rw [if_pos hc]; exact ht hc he
  · rw [if_neg hc]; exact he

/-! sorted() of a list that rises already, of any length -/
theorem numOf_pairs {vs : List Value} {ns : List Int} (hI : IntsAre vs ns) : ∀ i, K (pairsOf vs) i = ns.getD i 0 := by
  intro i
  have h1 : (pairsOf vs)[i]? = vs[i]?.map fun v => (v, v) := by
    unfold pairsOf
    rw [← Array.getElem?_toList]
    simp [Array.toList_zip]
    induction vs generalizing i ns with
    | nil => simp
    | cons v r ih =>
      cases hI with
      | cons n t hr =>
        cases i with
        | zero => rfl
        | succ i => simpa using ih hr i
  unfold K
  rw [h1]
  clear h1
  induction hI generalizing i with
  | nil => rfl
  | cons n t _ ih =>
    cases i with
    | zero => rfl
    | succ i => simpa using ih i
section
variable {prog : Program} {w : World} {A : Around} {E : Value → Shared → Prop} {s : Shared} {a₀ : Array Keyed}
theorem wpS_runsAsc {st : SortSt} {Q : Unit → SortSt → Prop} (h0 : IntKeys a₀) (hB : SBase a₀ st) (h2 : 2 ≤ a₀.size) (hs : SortedTo (arrOf st) a₀.size)
    (h : ∀ st', (arrOf st').Perm a₀ → failedOf st' = none → SortedTo (arrOf st') a₀.size → Q () st') : wpS (model prog w) A E s sortRuns' Q st := by
  rw [sortRuns'_eq]
  refine wpS_bind (wpS_get ?_)
  dsimp only
  simp only [hB.size]
  generalize minRun' a₀.size a₀.size 0 = mr
  refine wpS_bind (wpS_mono (wpS_forRange
    (I := fun x c st' => (x = 0 ∧ c = (none, 0) ∧ st' = st) ∨ (1 ≤ x ∧ c = (none, a₀.size) ∧ SDone a₀ st'))
    (Q := fun c st' => c = (none, a₀.size) ∧ SDone a₀ st') ?step ?fin (.inl ⟨rfl, rfl, rfl⟩)) ?post)
  case fin =>
    rintro c st' (⟨hx, _, _⟩ | ⟨_, hc, hD⟩)
    · omega
    · exact ⟨hc, hD⟩
  case step =>
    rintro x c st' _ hx (⟨rfl, rfl, rfl⟩ | ⟨hx1, rfl, hD⟩)
    · dsimp only
      refine wpS_ifn (by (first | exact z30 h2 | omega)) ?_
      simp only [Nat.sub_zero, Nat.zero_add]
      rw [countRun0_eq]
      refine wpS_bind (wpS_bind (wpS_ascLoop h0 (Nat.le_refl _) (Nat.le_refl 1) (by exact Nat.succ_le_of_lt (by assumption)) hB (fun i j hij hj => hs i j hij (by (first | exact z31 h2 hj | omega))) fun n hn1 hn2 hsn hor => ?_))
      have hn : n = a₀.size := by
        rcases hor with e | e
        · exact e
        · apply Classical.byContradiction
          intro hne
          have := hs (n - 1) n (by (first | exact z32 | omega)) (by (first | exact z0 hn2 hne | omega))
          (first | exact z33 e this | omega)
      subst hn
      dsimp only
      refine wpS_ifp (by simp) ?_
      refine wpS_pure ?_
      dsimp only
      by_cases hlt : a₀.size < mr
      · refine wpS_ifp hlt ?_
        refine wpS_bind (wpS_lift (wpAny_rule ⟨rfl, ?_⟩))
        simp only [show min a₀.size mr = a₀.size from by (first | exact z34 hlt | omega)]
        refine wpS_bind (wpS_binarySort h0 (Nat.le_refl _) (Nat.le_refl _) hB hs fun st3 hB3 hs3 => ?_)
        simp only [Bool.not_true, Bool.false_eq_true, if_false]
        refine wpS_bind (wpS_get ?_)
        have hb : (pendingOf st3).back? = none := by rw [hB3.pend]; rfl
        rw [hb]
        dsimp only
        exact wpS_bind (wpS_modify (wpS_pure (.inr ⟨by exact Nat.le_refl _, rfl, hB3.done hs3⟩)))
      · refine wpS_ifn hlt ?_
        refine wpS_bind (wpS_get ?_)
        have hb : (pendingOf st').back? = none := by rw [hB.pend]; rfl
        rw [hb]
        dsimp only
        exact wpS_bind (wpS_modify (wpS_pure (.inr ⟨by exact Nat.le_refl _, rfl, hB.done hs⟩)))
    · dsimp only
      refine wpS_ifp (Nat.le_refl _) ?_
      exact wpS_pure ⟨rfl, hD⟩
  case post =>
    rintro c st' ⟨rfl, hD⟩
    dsimp only
    refine wpS_bind (wpS_mono (wpS_forRange (I := fun _ c st'' => st'' = st' ∧ c = (none, ())) (Q := fun c st'' => st'' = st' ∧ c = (none, ())) ?_ (fun _ _ hh => hh) ⟨rfl, rfl⟩) ?_)
    · rintro x c st'' _ _ ⟨rfl, rfl⟩
      refine wpS_bind (wpS_get ?_)
      refine wpS_ifp (by rw [hD.2.2.1]; exact Nat.le_refl 1) ?_
      exact wpS_pure ⟨rfl, rfl⟩
    · rintro c st'' ⟨rfl, rfl⟩
      exact wpS_pure (h _ hD.1 hD.2.1 hD.2.2.2)
end
theorem sortOk_asc {vs : List Value} {ns : List Int} (hI : IntsAre vs ns) (h2 : 2 ≤ vs.length) (hP : ns.Pairwise (· ≤ ·)) : SortOk vs := fun prog w A E s => by
  refine wpS_runsAsc (a₀ := pairsOf vs) hI.intKeys ⟨Array.Perm.refl _, rfl, rfl, rfl⟩ (by rw [pairsOf_size]; exact h2) ?_ fun st' a b c => ⟨a, b, c⟩
  intro i j hij hj
  show K (pairsOf vs) i ≤ K (pairsOf vs) j
  rw [numOf_pairs hI, numOf_pairs hI]
  rw [pairsOf_size, hI.length] at hj
  rw [List.pairwise_iff_getElem] at hP
  rw [List.getD_eq_getElem?_getD, List.getD_eq_getElem?_getD, List.getElem?_eq_getElem (by exact Nat.lt_of_le_of_lt (by assumption) (by assumption)), List.getElem?_eq_getElem hj]
  by_cases e : i = j
  · subst e; exact Int.le_refl _
  · exact hP i j (by exact Nat.lt_of_le_of_lt (by assumption) (by assumption)) hj (by (first | exact z0 hij e | omega))
end Mine
end

section
open PySem PySem.W PyProof.Rows
set_option maxRecDepth 100000
set_option linter.all false
namespace Mine
noncomputable def gallop' : Bool → Keyed → Array Keyed → Nat → Nat → Nat → StateT SortSt Sem (Option Nat) := sortPriv% PySem.Builtin.gallop
noncomputable def mergeHi' : Array Keyed → Array Keyed → StateT SortSt Sem (Array Keyed) := sortPriv% PySem.Builtin.mergeHi
noncomputable def Bey (left : Bool) (b a : Int) : Bool := if left then decide (a < b) else !decide (b < a)
theorem Bey.anti {left : Bool} {b a a' : Int} (h : a ≤ a') (x : Bey left b a' = true) : Bey left b a = true := by
  cases left <;> simp [Bey] at * <;> (first | exact z36 h x | exact z37 h x | omega)
section
variable {prog : Program} {w : World} {A : Around} {E : Value → Shared → Prop} {s : Shared}
theorem wpS_lt {st : SortSt} {x y : Keyed} {a b : Int} {t u : Tok} {Q : Option Bool → SortSt → Prop} (hk : kindOf st = oneType') (hx : x.1 = .int a t) (hy : y.1 = .int b u) (h : Q (some (decide (a < b))) st) : wpS (model prog w) A E s (lt' x y) Q st := by
  rw [lt'_eq]
  refine wpS_bind (wpS_get ?_)
  rw [hk, keyLt'_oneType, hx, hy]
  refine wpS_bind (wpS_lift (wpAny_attempt (oneLt_int ⟨rfl, ?_⟩)))
  exact wpS_pure h
theorem wpS_elem {st : SortSt} {arr : Array Keyed} {i : Nat} {x : Keyed} {Q : Keyed → SortSt → Prop} (hx : arr[i]? = some x) (h : Q x st) : wpS (model prog w) A E s (elem' arr i) Q st := by
  rw [elem'_eq, hx]; exact wpS_pure h
theorem wpS_beyond {st : SortSt} {left : Bool} {key : Keyed} {arr : Array Keyed} {j : Nat} {a b : Int} {t u : Tok} {q : Value} {Q : Option Bool → SortSt → Prop} (hk : kindOf st = oneType') (hx : arr[j]? = some (.int a t, q)) (hy : key.1 = .int b u)
    (h : Q (some (Bey left b a)) st) :
    wpS (model prog w) A E s (do let x ← elem' arr j; if left = true then lt' x key else do let y ← lt' key x; pure (y.map not)) Q st := by
  refine wpS_bind (wpS_elem hx ?_)
  cases left
  · rw [if_neg Bool.false_ne_true]
    refine wpS_bind (wpS_lt hk hy rfl (wpS_pure ?_))
    exact h
  · rw [if_pos rfl]
    exact wpS_lt hk rfl hy h

theorem wpS_halves {st : SortSt} {B : Nat → Bool} {n l₀ r₀ : Nat} {f : Nat → Option (Option Nat) × Nat × Nat → StateT SortSt Sem (ForInStep (Option (Option Nat) × Nat × Nat))} {Q : Option (Option Nat) × Nat × Nat → SortSt → Prop} (anti : ∀ i j, i ≤ j → j < n → B j = true → B i = true)
    (f1 : ∀ x l r R, r ≤ l → R (.done (none, l, r)) st → wpS (model prog w) A E s (f x (none, l, r)) R st)
    (f2 : ∀ x l r R, l < r → r ≤ n → (B (l + (r - l) / 2) = false → R (.yield (none, l, l + (r - l) / 2)) st) → (B (l + (r - l) / 2) = true → R (.yield (none, l + (r - l) / 2 + 1, r)) st) → wpS (model prog w) A E s (f x (none, l, r)) R st)
    (h1 : l₀ ≤ r₀) (h2 : r₀ ≤ n) (h3 : ∀ i, i < l₀ → B i = true) (h4 : ∀ i, r₀ ≤ i → i < n → B i = false)
    (h : ∀ k, k ≤ n → (∀ i, i < k → B i = true) → (∀ i, k ≤ i → i < n → B i = false) → Q (none, k, k) st) : wpS (model prog w) A E s (forIn [0:n] (none, l₀, r₀) f) Q st := by
  refine wpS_mono (wpS_forRange
      (I := fun x c st' => st = st' ∧ X2 fun l r => N6 (c = (none, l, r)) (l ≤ r) (r ≤ n) (r - l ≤ n - x) (∀ i, i < l → B i = true) (∀ i, r ≤ i → i < n → B i = false))
      (Q := fun c st' => st = st' ∧ X1 fun k => N4 (c = (none, k, k)) (k ≤ n) (∀ i, i < k → B i = true) (∀ i, k ≤ i → i < n → B i = false)) ?bstep ?bfin ?binit) ?bpost
  case bpost =>
    rintro c st' ⟨rfl, k, rfl, z2, z4, z5⟩
    exact h k z2 z4 z5
  case bfin =>
    rintro c st' ⟨rfl, l, r, rfl, z1, z2, z3, z4, z5⟩
    have : l = r := by (first | exact z38 z1 z3 | omega)
    subst this
    exact ⟨rfl, l, rfl, z2, z4, z5⟩
  case bstep =>
    rintro x c st' _ hx ⟨rfl, l, r, rfl, z1, z2, z3, z4, z5⟩
    by_cases hge : r ≤ l
    · refine f1 x l r _ hge ?_
      obtain rfl := Nat.le_antisymm z1 hge
      exact ⟨rfl, l, rfl, z2, z4, z5⟩
    · have hm : (r - l) / 2 < r - l := Nat.div_lt_self (by (first | exact z39 hge | omega)) (by decide)
      generalize hq : (r - l) / 2 = q at *
      refine f2 x l r _ (by (first | exact z40 hge | omega)) z2 (fun hb => ?_) (fun hb => ?_)
      · rw [hq] at hb ⊢
        refine ⟨rfl, l, l + q, rfl, by exact Nat.le_add_right _ _, by (first | exact z41 z2 hm | omega), by (first | exact z42 z3 hq | omega), z4, fun i h1 h2 => ?_⟩
        cases hc : B i
        · rfl
        · rw [anti _ _ h1 h2 hc] at hb; cases hb
      · rw [hq] at hb ⊢
        refine ⟨rfl, l + q + 1, r, rfl, by (first | exact z43 hm | omega), by assumption, by (first | exact z44 z3 | omega), fun i h1 => ?_, z5⟩
        exact anti _ _ (by exact Nat.le_of_lt_succ (by assumption)) (by (first | exact z45 z2 hm | omega)) hb
  case binit => exact ⟨rfl, l₀, r₀, rfl, h1, h2, by (first | exact z46 h2 | omega), h3, h4⟩

theorem wpS_double {st : SortSt} {G : Nat → Bool} {m n : Nat} {f : Nat → Option (Option Nat) × Nat × Nat → StateT SortSt Sem (ForInStep (Option (Option Nat) × Nat × Nat))} {Q : Option (Option Nat) × Nat × Nat → SortSt → Prop} (hm : m ≤ n) (h0 : 0 < m) (g0 : G 0 = true)
    (f1 : ∀ x l o R, m ≤ o → R (.done (none, l, o)) st → wpS (model prog w) A E s (f x (none, l, o)) R st)
    (f2 : ∀ x l o R, o < m → (G o = true → R (.yield (none, o, 2 * o + 1)) st) → (G o = false → R (.done (none, l, o)) st) → wpS (model prog w) A E s (f x (none, l, o)) R st)
    (h : ∀ l o, l < o → l < m → G l = true → (m ≤ o ∨ G o = false) → Q (none, l, o) st) : wpS (model prog w) A E s (forIn [0:n] (none, 0, 1) f) Q st := by
  refine wpS_mono (wpS_forRange
      (I := fun x c st' => st = st' ∧ X2 fun l o => N5 (c = (none, l, o)) (x + 1 ≤ o) (l < o) (l < m) (G l = true))
      (Q := fun c st' => st = st' ∧ X2 fun l o => N5 (c = (none, l, o)) (l < o) (l < m) (G l = true) (m ≤ o ∨ G o = false)) ?step ?fin ?init) ?post
  case init => exact ⟨rfl, 0, 1, rfl, by exact Nat.le_refl _, by decide, h0, g0⟩
  case post =>
    rintro c st' ⟨rfl, l, o, rfl, z2, z3, z4, z5⟩
    exact h l o z2 z3 z4 z5
  case fin =>
    rintro c st' ⟨rfl, l, o, rfl, z1, z2, z3, z4⟩
    exact ⟨rfl, l, o, rfl, z2, z3, z4, .inl (Nat.le_trans hm (Nat.le_of_succ_le z1))⟩
  case step =>
    rintro x c st' _ hx ⟨rfl, l, o, rfl, z1, z2, z3, z4⟩
    by_cases hge : m ≤ o
    · exact f1 x l o _ hge ⟨rfl, l, o, rfl, z2, z3, z4, .inl hge⟩
    · have hlt := Nat.lt_of_not_le hge
      exact f2 x l o _ hlt (fun hb => ⟨rfl, o, 2 * o + 1, rfl, by (first | exact z47 z1 | omega), by (first | exact z48 | omega), hlt, hb⟩) (fun hb => ⟨rfl, l, o, rfl, z2, z3, z4, .inr hb⟩)

theorem wpS_gallop {st : SortSt} {left : Bool} {key : Keyed} {arr : Array Keyed} {base n hint : Nat} {b : Int} {u : Tok} {Q : Option Nat → SortSt → Prop} (hk : kindOf st = oneType') (hy : key.1 = .int b u)
    (ha : ∀ i, i < n → ∃ t q, arr[base + i]? = some (.int (K arr (base + i)) t, q)) (hm : ∀ i j, i ≤ j → j < n → K arr (base + i) ≤ K arr (base + j)) (hh : hint < n)
    (h : ∀ k, k ≤ n → (∀ i, i < k → Bey left b (K arr (base + i)) = true) → (∀ i, k ≤ i → i < n → Bey left b (K arr (base + i)) = false) → Q (some k) st) :
    wpS (model prog w) A E s (gallop' left key arr base n hint) Q st := by
  have anti : ∀ i j, i ≤ j → j < n → Bey left b (K arr (base + j)) = true → Bey left b (K arr (base + i)) = true := fun i j h1 h2 => Bey.anti (hm i j h1 h2)
  unfold gallop'
  refine wpS_bind ?_
  obtain ⟨t, q, e⟩ := ha hint hh
  refine wpS_beyond hk e hy ?_
  dsimp only
  cases h1 : Bey left b (K arr (base + hint))
  · rw [if_neg Bool.false_ne_true]
    refine wpS_bind (wpS_double (G := fun j => !Bey left b (K arr (base + (hint - j)))) (m := hint + 1) hh (Nat.succ_pos _) (by rw [Nat.sub_zero, h1]; rfl) (fun x l o R hge hR => ?_) (fun x l o R hlt ht hf => ?_) fun l o z2 z3 z4 z5 => ?_)
    · dsimp only
      rw [if_pos hge]
      exact wpS_pure hR
    · dsimp only
      rw [if_neg (Nat.not_le_of_lt hlt)]
      obtain ⟨t, q, e⟩ := ha (hint - o) (Nat.lt_of_le_of_lt (Nat.sub_le _ _) hh)
      refine wpS_bind (wpS_beyond hk e hy ?_)
      dsimp only
      cases hb : Bey left b (K arr (base + (hint - o)))
      · rw [if_neg Bool.false_ne_true]
        exact wpS_pure (ht (by rw [hb]; rfl))
      · rw [if_pos rfl]
        exact wpS_pure (hf (by rw [hb]; rfl))
    dsimp only at z4 z5 ⊢
    rw [Bool.not_eq_true'] at z4
    rw [Bool.not_eq_false'] at z5
    replace z3 := Nat.le_of_lt_succ z3
    refine wpS_bind (wpS_halves (B := fun i => Bey left b (K arr (base + i))) anti (fun x l r R hge hR => ?_) (fun x l r R hlt hr hf ht => ?_) ?_ ?_ (fun i h2 => ?_) (fun i h2 h3 => ?_) fun k z2 z4 z5 => wpS_pure (h k z2 z4 z5))
    · dsimp only
      rw [if_pos hge]
      exact wpS_pure hR
    · dsimp only
      rw [if_neg (Nat.not_le_of_lt hlt)]
      obtain ⟨t, q, e⟩ := ha (l + (r - l) / 2) (by (first | exact z49 hlt hr | omega))
      refine wpS_bind (wpS_beyond hk e hy ?_)
      dsimp only
      cases hb : Bey left b (K arr (base + (l + (r - l) / 2)))
      · rw [if_neg Bool.false_ne_true]
        exact wpS_pure (hf hb)
      · rw [if_pos rfl]
        exact wpS_pure (ht hb)
    · (first | exact z50 z2 | omega)
    · (first | exact z51 hh | omega)
    · rcases z5 with z5 | z5
      · omega
      · exact anti _ _ (by (first | exact z52 h2 | omega)) (by (first | exact z53 hh | omega)) z5
    · cases hc : Bey left b (K arr (base + i))
      · rfl
      · rw [anti _ _ h2 h3 hc] at z4; cases z4
  · rw [if_pos rfl]
    refine wpS_bind (wpS_double (G := fun j => Bey left b (K arr (base + (hint + j)))) (m := n - hint) (Nat.sub_le _ _) (Nat.sub_pos_of_lt hh) (by rw [Nat.add_zero]; exact h1) (fun x l o R hge hR => ?_) (fun x l o R hlt ht hf => ?_) fun l o z2 z3 z4 z5 => ?_)
    · dsimp only
      rw [if_pos hge]
      exact wpS_pure hR
    · dsimp only
      rw [if_neg (Nat.not_le_of_lt hlt)]
      obtain ⟨t, q, e⟩ := ha (hint + o) (by (first | exact z54 hlt | omega))
      refine wpS_bind (wpS_beyond hk e hy ?_)
      dsimp only
      cases hb : Bey left b (K arr (base + (hint + o)))
      · rw [if_pos (by rfl)]
        exact wpS_pure (hf hb)
      · rw [if_neg (by decide)]
        exact wpS_pure (ht hb)
    dsimp only at z4 z5 ⊢
    replace z3 : hint + l < n := by omega
    refine wpS_bind (wpS_halves (B := fun i => Bey left b (K arr (base + i))) anti (fun x l r R hge hR => ?_) (fun x l r R hlt hr hf ht => ?_) ?_ ?_ (fun i h2 => ?_) (fun i h2 h3 => ?_) fun k z2 z4 z5 => wpS_pure (h k z2 z4 z5))
    · dsimp only
      rw [if_pos hge]
      exact wpS_pure hR
    · dsimp only
      rw [if_neg (Nat.not_le_of_lt hlt)]
      obtain ⟨t, q, e⟩ := ha (l + (r - l) / 2) (by (first | exact z49 hlt hr | omega))
      refine wpS_bind (wpS_beyond hk e hy ?_)
      dsimp only
      cases hb : Bey left b (K arr (base + (l + (r - l) / 2)))
      · rw [if_neg Bool.false_ne_true]
        exact wpS_pure (hf hb)
      · rw [if_pos rfl]
        exact wpS_pure (ht hb)
    · (first | exact z55 z2 z3 | omega)
    · (first | exact z56 hh | omega)
    · exact anti _ _ (by exact Nat.le_of_lt_succ (by assumption)) (by assumption) z4
    · rcases z5 with z5 | z5
      · omega
      · cases hc : Bey left b (K arr (base + i))
        · rfl
        · rw [anti (hint + o) i (by (first | exact z57 h2 h3 | omega)) h3 hc] at z5; cases z5
end
end Mine
end

section
open PySem PySem.W PyProof.Rows
set_option maxRecDepth 100000
set_option linter.all false
namespace Mine
section
variable {prog : Program} {w : World} {A : Around} {E : Value → Shared → Prop} {s : Shared}
theorem wpS_forNil {σ β : Type} {M : Model} {a b : Nat} {f : Nat → β → StateT σ Sem (ForInStep β)} {Q : β → σ → Prop} {c : β} {st : σ} (hab : b ≤ a) (h : Q c st) : wpS M A E s (forIn [a:b] c f) Q st := by
  rw [Std.Legacy.Range.forIn_eq_forIn_range']
  have hsz : ([a:b] : Std.Legacy.Range).size = 0 := by simp [Std.Legacy.Range.size]; (first | exact z278 hab | omega)
  show wpS M A E s (forIn (List.range' a ([a:b] : Std.Legacy.Range).size 1) c f) Q st
  rw [hsz]
  show wpS M A E s (forIn [] c f) Q st
  rw [List.forIn_nil]
  exact wpS_pure h
theorem wpS_forCons {σ β : Type} {M : Model} {a b : Nat} {f : Nat → β → StateT σ Sem (ForInStep β)} {Q : β → σ → Prop} {c : β} {st : σ} (hab : a < b)
    (h : wpS M A E s (f a c) (fun r st' => match r with | .done c' => Q c' st' | .yield c' => wpS M A E s (forIn [a + 1:b] c' f) Q st') st) : wpS M A E s (forIn [a:b] c f) Q st := by
  rw [Std.Legacy.Range.forIn_eq_forIn_range']
  have hsz : ([a:b] : Std.Legacy.Range).size = (b - (a + 1)) + 1 := by simp [Std.Legacy.Range.size]; (first | exact z279 hab | omega)
  show wpS M A E s (forIn (List.range' a ([a:b] : Std.Legacy.Range).size 1) c f) Q st
  rw [hsz, List.range'_succ, List.forIn_cons]
  refine wpS_bind (wpS_mono h fun r st' hr => ?_)
  cases r with
  | done c' => exact wpS_pure hr
  | yield c' =>
    dsimp only at hr ⊢
    rw [Std.Legacy.Range.forIn_eq_forIn_range'] at hr
    have hsz2 : ([a + 1:b] : Std.Legacy.Range).size = b - (a + 1) := by simp [Std.Legacy.Range.size]
    change wpS M A E s (forIn (List.range' (a + 1) ([a + 1:b] : Std.Legacy.Range).size 1) c' f) Q st' at hr
    rw [hsz2] at hr
    exact hr

theorem wpS_for3 {σ β : Type} {M : Model} {b : Nat} {f : Nat → β → StateT σ Sem (ForInStep β)} {Q : β → σ → Prop} {st : σ} (c : Nat → β) (d : β) (hab : 3 < b)
    (hw : ∀ j R, j < 3 → R (.yield (c (j + 1))) st → wpS M A E s (f j (c j)) R st) (hd : ∀ R, R (.done d) st → wpS M A E s (f 3 (c 3)) R st) (h : Q d st) : wpS M A E s (forIn [0:b] (c 0) f) Q st := by
  refine wpS_forCons (Nat.lt_trans (by decide) hab) (hw 0 _ (by decide) ?_)
  refine wpS_forCons (Nat.lt_trans (by decide) hab) (hw 1 _ (by decide) ?_)
  refine wpS_forCons (Nat.lt_trans (by decide) hab) (hw 2 _ (by decide) ?_)
  exact wpS_forCons hab (hd _ h)

theorem wpS_mergeHi1 {st : SortSt} {u : List Keyed} {p q0 : Keyed} {Q : Array Keyed → SortSt → Prop} (hu : 1 ≤ u.length)
    (h : Q ([q0] ++ u ++ [p]).toArray st) : wpS (model prog w) A E s (mergeHi' (u ++ [p]).toArray [q0].toArray) Q st := by
  unfold mergeHi'
  refine wpS_bind (wpS_lift (wpAny_rule ⟨rfl, ?_⟩))
  refine wpS_bind ?_
  have hs : (u ++ [p]).toArray.size - 1 = u.length := by simp
  refine wpS_elem (x := p) (by rw [hs]; simp) ?_
  dsimp only
  rw [hs]
  refine wpS_ifn (by rw [beq_iff_eq]; (first | exact z280 hu | omega)) ?_
  refine wpS_ifp (by simp) ?_
  refine wpS_pure ?_
  have e : [q0].toArray.extract 0 [q0].toArray.size ++ (u ++ [p]).toArray.extract 0 u.length ++ #[p].reverse = ([q0] ++ u ++ [p]).toArray := by
    apply Array.ext'
    simp
  rw [e]
  exact h
theorem wpS_mergeHi2 {st : SortSt} {u : List Keyed} {p a1 a2 a3 a4 q0 q1 : Keyed} {n1 n2 n3 n4 m : Int} {t1 t2 t3 t4 tm : Tok} {Q : Array Keyed → SortSt → Prop} (hk : kindOf st = oneType') (hg : gallopOf st = 7)
    (k1 : a1.1 = .int n1 t1) (k2 : a2.1 = .int n2 t2) (k3 : a3.1 = .int n3 t3) (k4 : a4.1 = .int n4 t4) (km : q1.1 = .int m tm) (l1 : m < n1) (l2 : m < n2) (l3 : m < n3) (l4 : ¬ m < n4)
    (h : Q ([q0] ++ u ++ [a4, q1, a3, a2, a1, p]).toArray st) : wpS (model prog w) A E s (mergeHi' (u ++ [a4, a3, a2, a1, p]).toArray [q0, q1].toArray) Q st := by
  have hs : (u ++ [a4, a3, a2, a1, p]).toArray.size = u.length + 5 := by simp
  have hs2 : [q0, q1].toArray.size = 2 := rfl
  have g0 : (u ++ [a4, a3, a2, a1, p]).toArray[u.length]? = some a4 := by simp
  have g1 : (u ++ [a4, a3, a2, a1, p]).toArray[u.length + 1]? = some a3 := by simp
  have g2 : (u ++ [a4, a3, a2, a1, p]).toArray[u.length + 2]? = some a2 := by simp
  have g3 : (u ++ [a4, a3, a2, a1, p]).toArray[u.length + 3]? = some a1 := by simp
  have g4 : (u ++ [a4, a3, a2, a1, p]).toArray[u.length + 4]? = some p := by simp
  have y1 : [q0, q1].toArray[1]? = some q1 := rfl
  have e : [q0, q1].toArray.extract 0 1 ++ (u ++ [a4, a3, a2, a1, p]).toArray.extract 0 (u.length + 1) ++ (#[p, a1, a2, a3, q1] : Array Keyed).reverse = ([q0] ++ u ++ [a4, q1, a3, a2, a1, p]).toArray := by
    apply Array.ext'
    have e1 : (u ++ [a4, a3, a2, a1, p]).take (u.length + 1) = u ++ [a4] := by rw [List.take_length_add_append]; rfl
    simp [e1]
  generalize (u ++ [a4, a3, a2, a1, p]).toArray = x at *
  generalize [q0, q1].toArray = y at *
  obtain ⟨kd, ar, pd, mg, fl⟩ := st
  obtain rfl : mg = 7 := hg
  have win : ∀ j, j < 3 → X3 fun (a : Keyed) (n : Int) (t : Tok) => N4 (x[x.size - 1 - j - 1]? = some a) (a.1 = .int n t) (m < n) (∀ o : List Keyed, o = [a1, a2, a3] → (p :: o.take j).toArray.push a = (p :: o.take (j + 1)).toArray) := fun j hj => by
    match j, hj with
    | 0, _ => exact ⟨a1, n1, t1, by rw [hs]; exact g3, k1, l1, fun o e => by subst e; rfl⟩
    | 1, _ => exact ⟨a2, n2, t2, by rw [hs]; exact g2, k2, l2, fun o e => by subst e; rfl⟩
    | 2, _ => exact ⟨a3, n3, t3, by rw [hs]; exact g1, k3, l3, fun o e => by subst e; rfl⟩
  generalize ho : [a1, a2, a3] = o at win
  unfold mergeHi'
  refine wpS_bind (wpS_lift (wpAny_rule ⟨rfl, ?_⟩))
  refine wpS_bind ?_
  refine wpS_elem (x := p) (by rw [hs]; exact g4) ?_
  dsimp only
  refine wpS_ifn (by rw [hs]; simp) ?_
  refine wpS_ifn (by rw [hs2]; simp) ?_
  refine wpS_bind (wpS_get ?_)
  dsimp only
  refine wpS_bind ?_
  refine wpS_forCons (by rw [hs]; (first | exact z281 | omega)) ?_
  refine wpS_bind ?_
  -- the three that win, and the one that does not
  refine wpS_for3 (c := fun j => (none, x.size - 1 - j, y.size, (p :: o.take j).toArray, j, 0)) (d := (some (y.extract 0 (y.size - 1) ++ x.extract 0 (x.size - 1 - 3) ++ ((p :: o.take 3).toArray.push q1).reverse), x.size - 1 - 3, y.size - 1, (p :: o.take 3).toArray.push q1, 0, 1)) (by show 3 < x.size + y.size; (first | exact z282 hs | omega)) (fun j R hj hR => ?_) (fun R hR => ?_) ?_
  · obtain ⟨a, n, t, g, k, l, ep⟩ := win j hj
    refine wpS_bind (wpS_elem (x := q1) (by rw [hs2]; exact y1) ?_)
    refine wpS_bind (wpS_elem g ?_)
    refine wpS_bind (wpS_lt hk km k ?_)
    dsimp only
    refine wpS_ifp (decide_eq_true l) ?_
    refine wpS_bind (wpS_elem g ?_)
    refine wpS_ifn (by rw [beq_iff_eq]; (first | exact z283 hs hj | omega)) ?_
    refine wpS_ifn (by show ¬ j + 1 ≥ 7; (first | exact z284 hj | omega)) ?_
    refine wpS_pure ?_
    rw [ep o rfl]
    exact hR
  · refine wpS_bind (wpS_elem (x := q1) (by rw [hs2]; exact y1) ?_)
    refine wpS_bind (wpS_elem (x := a4) (by rw [hs]; exact g0) ?_)
    refine wpS_bind (wpS_lt hk km k4 ?_)
    dsimp only
    refine wpS_ifn (by simpa using l4) ?_
    refine wpS_bind (wpS_elem (x := q1) (by rw [hs2]; exact y1) ?_)
    refine wpS_ifp (by rw [hs2]; rfl) ?_
    exact wpS_pure hR
  dsimp only
  refine wpS_pure ?_
  dsimp only
  refine wpS_pure ?_
  rw [← ho, hs, hs2]
  rw [← e] at h
  exact h
end
end Mine
end

section
open PySem PySem.W PyProof.Rows
set_option maxRecDepth 100000
set_option linter.all false
namespace Mine
noncomputable abbrev kn (p : Keyed) : Int := numOf p.1
theorem K_list (l : List Keyed) (i : Nat) (hi : i < l.length) : K l.toArray i = kn l[i] := by
  unfold K
  rw [show l.toArray[i]? = some l[i] by simp [hi]]
theorem foldset : ∀ (M Z P W : List Keyed) (sa j : Nat), Z.length = M.length → sa + j = P.length →
    (M.zipIdx j).foldl (fun a x => a.setIfInBounds (sa + x.2) x.1) (P ++ Z ++ W).toArray = (P ++ M ++ W).toArray
  | [], Z, P, W, sa, j, hz, _ => by
    obtain rfl : Z = [] := List.length_eq_zero_iff.mp (by simpa using hz)
    simp
  | m :: M, [], P, W, sa, j, hz, _ => by simp at hz
  | m :: M, z :: Z, P, W, sa, j, hz, hj => by
    rw [List.zipIdx_cons, List.foldl_cons]
    have e : ((P ++ z :: Z ++ W).toArray).setIfInBounds (sa + j) m = ((P ++ [m]) ++ Z ++ W).toArray := by
      rw [hj]
      apply Array.ext'
      simp
    rw [show ((m, j) : Keyed × Nat).2 = j from rfl, show ((m, j) : Keyed × Nat).1 = m from rfl, e]
    have ih := foldset M Z (P ++ [m]) W sa (j + 1) (by simpa using hz) (by simp; (first | exact z188 hj | omega))
    rw [ih]
    simp
section
variable {prog : Program} {w : World} {A : Around} {E : Value → Shared → Prop} {s : Shared}
theorem wpS_set {σ : Type} {M : Model} {Q : PUnit → σ → Prop} {st st' : σ} (h : Q ⟨⟩ st') : wpS M A E s (set st' : StateT σ Sem PUnit) Q st := by
  unfold wpS
  show wpAny M A (pure (PUnit.unit, st')) _ E s
  exact wpAny_pure ⟨rfl, h⟩
theorem at_int {l : List Keyed} (hi : ∀ x ∈ l, ∃ n t, x.1 = .int n t) {i : Nat} (h : i < l.length) : ∃ t q, l.toArray[i]? = some (.int (K l.toArray i) t, q) := by
  obtain ⟨n, t, e⟩ := hi l[i] (List.getElem_mem h)
  refine ⟨t, l[i].2, ?_⟩
  rw [K_list l i h]
  have e2 : l[i] = (.int n t, l[i].2) := Prod.ext e rfl
  have e3 : kn l[i] = n := by show numOf l[i].1 = n; rw [e]; rfl
  rw [e3]
  simp only [List.getElem?_toArray, List.getElem?_eq_getElem h]
  exact congrArg some e2
theorem wpS_mergeAt {P X out : List Keyed} {p q0 q1 : Keyed} {pw pz m nb : Nat} {Q : Bool → SortSt → Prop} (hm : P.length + X.length = m)
    (hi : ∀ x ∈ P ++ X ++ [q0, q1], ∃ n t, x.1 = .int n t) (hs : ∀ i j, i ≤ j → j < m → K (P ++ X ++ [q0, q1]).toArray i ≤ K (P ++ X ++ [q0, q1]).toArray j) (hP : ∀ x ∈ P, kn x ≤ kn q0) (hX : ∀ x ∈ X, kn q0 < kn x) (hu : 3 ≤ X.length)
    (hl : X.getLast? = some p) (hq : kn q0 ≤ kn q1) (hnb : nb = if kn q1 < kn p then 2 else 1) (hlen : out.length = X.length + nb)
    (hmerge : ∀ (st : SortSt) (Q' : Array Keyed → SortSt → Prop), kindOf st = oneType' → gallopOf st = 7 → Q' out.toArray st → wpS (model prog w) A E s (mergeHi' X.toArray ([q0, q1].take nb).toArray) Q' st)
    (h : Q true (SortSt.mk' oneType' (P ++ out ++ [q0, q1].drop nb).toArray #[(0, m + 2, pw)] 7 none)) :
    wpS (model prog w) A E s (mergeAt' 0) Q (SortSt.mk' oneType' (P ++ X ++ [q0, q1]).toArray #[(0, m, pw), (m, 2, pz)] 7 none) := by
  have hL : (P ++ X ++ [q0, q1]).length = m + 2 := by simp; (first | exact z189 hm | omega)
  have gm : (P ++ X ++ [q0, q1]).toArray[m]? = some q0 := by
    simp only [List.getElem?_toArray]
    rw [List.getElem?_append_right (by simp; exact Nat.le_of_eq (by assumption))]
    simp [hm]
  have gl : (P ++ X ++ [q0, q1]).toArray[m - 1]? = some p := by
    simp only [List.getElem?_toArray]
    rw [List.getElem?_append_left (by simp; (first | exact z190 hm hu | omega)), List.getElem?_append_right (by (first | exact z191 hm hu | omega)), ← hl, List.getLast?_eq_getElem?]
    congr 1; (first | exact z192 hm | omega)
  have km : K (P ++ X ++ [q0, q1]).toArray m = kn q0 := by unfold K; rw [gm]
  have km1 : K (P ++ X ++ [q0, q1]).toArray (m + 1) = kn q1 := by
    have : (P ++ X ++ [q0, q1]).toArray[m + 1]? = some q1 := by
      simp only [List.getElem?_toArray]
      rw [List.getElem?_append_right (by simp; (first | exact z193 hm | omega))]
      simp [hm]
    unfold K; rw [this]
  have kP : ∀ i, i < P.length → K (P ++ X ++ [q0, q1]).toArray i ≤ kn q0 := fun i hi => by
    rw [K_list _ i (by (first | exact z194 hm hL hi | omega))]
    refine hP _ ?_
    rw [List.getElem_append_left (by simp; (first | exact z1 hi | omega)), List.getElem_append_left hi]
    exact List.getElem_mem _
  have kX : ∀ i, P.length ≤ i → i < m → kn q0 < K (P ++ X ++ [q0, q1]).toArray i := fun i h1 h2 => by
    rw [K_list _ i (by (first | exact z195 hL h2 | omega))]
    refine hX _ ?_
    rw [List.getElem_append_left (by simp; exact eqlt (by assumption) (by assumption)), List.getElem_append_right h1]
    exact List.getElem_mem _
  have kp : kn q0 < kn p := hX p (List.mem_of_getLast? hl)
  have ex1 : (P ++ X ++ [q0, q1]).toArray.extract P.length m = X.toArray := by
    rw [List.append_assoc, List.extract_toArray, List.extract_eq_take_drop, List.drop_left, ← hm, Nat.add_sub_cancel_left, List.take_left]
  have ex2 : (P ++ X ++ [q0, q1]).toArray.extract m (m + nb) = ([q0, q1].take nb).toArray := by
    rw [List.extract_toArray, List.extract_eq_take_drop, show m = (P ++ X).length by simp; exact Eq.symm (by assumption), List.drop_left, Nat.add_sub_cancel_left]
  have fs := foldset out (X ++ [q0, q1].take nb) P ([q0, q1].drop nb) P.length 0 (by rw [hlen]; simp; rw [hnb]; split <;> decide) (by simp)
  have fe : P ++ (X ++ [q0, q1].take nb) ++ [q0, q1].drop nb = P ++ X ++ [q0, q1] := by
    rw [← List.append_assoc, List.append_assoc (P ++ X), List.take_append_drop]
  rw [fe] at fs
  obtain ⟨n0, t0, e0⟩ := hi q0 (by simp)
  obtain ⟨np, tp, ep⟩ := hi p (by have := List.mem_of_getLast? hl; simp [this])
  have kn0 : kn q0 = n0 := by show numOf q0.1 = n0; rw [e0]; rfl
  have knp : kn p = np := by show numOf p.1 = np; rw [ep]; rfl
  have hat : ∀ i, i < m + 2 → ∃ t q, (P ++ X ++ [q0, q1]).toArray[i]? = some (.int (K (P ++ X ++ [q0, q1]).toArray i) t, q) := fun i h => at_int hi (by exact eqlt (by assumption) (by assumption))
  clear fe hi hP hX hlen
  generalize (P ++ X ++ [q0, q1]).toArray = arr at *
  unfold mergeAt'
  refine wpS_bind (wpS_get ?_)
  dsimp only
  rw [show (#[(0, m, pw), (m, 2, pz)] : Array (Nat × Nat × Nat))[0]? = some (0, m, pw) from rfl, show (#[(0, m, pw), (m, 2, pz)] : Array (Nat × Nat × Nat))[0 + 1]? = some (m, 2, pz) from rfl]
  dsimp only
  refine wpS_bind (wpS_set ?_)
  refine wpS_bind (wpS_elem gm ?_)
  refine wpS_bind (wpS_gallop (b := n0) (hk := rfl) e0 (fun i h => by rw [Nat.zero_add]; exact hat i (by (first | exact z196 h | omega))) (fun i j h1 h2 => by rw [Nat.zero_add, Nat.zero_add]; exact hs i j h1 h2) (by (first | exact z197 hm hu | omega)) fun k hk1 hk2 hk3 => ?_)
  have hk : k = P.length := by
    apply Nat.le_antisymm
    · apply Nat.le_of_not_lt
      intro hlt
      have h1 := hk2 P.length hlt
      have h2 := kX P.length (Nat.le_refl _) (by exact Nat.lt_of_lt_of_le (by assumption) (by assumption))
      rw [Nat.zero_add] at h1
      simp [Bey] at h1
      (first | exact z198 kn0 h2 h1 | omega)
    · apply Nat.le_of_not_lt
      intro hlt
      have h1 := hk3 k (Nat.le_refl _) (by (first | exact z199 hm hlt | omega))
      have h2 := kP k hlt
      rw [Nat.zero_add] at h1
      simp [Bey] at h1
      (first | exact z200 kn0 h2 h1 | omega)
  subst hk
  dsimp only
  refine wpS_ifn (by rw [beq_iff_eq]; (first | exact z201 hm hu | omega)) ?_
  refine wpS_bind (wpS_elem (x := p) (by rw [← gl]; congr 1; (first | exact z202 hm | omega)) ?_)
  refine wpS_bind (wpS_gallop (b := np) (hk := rfl) ep (fun i h => hat (m + i) (by (first | exact z203 h | omega))) (fun i j h1 h2 => ?_) (by decide) fun k hk1 hk2' hk3' => ?_)
  · have : (i = 0 ∨ i = 1) ∧ (j = 0 ∨ j = 1) := by (first | exact z204 h1 h2 | omega)
    rcases this with ⟨rfl | rfl, rfl | rfl⟩
    · exact Int.le_refl _
    · rw [Nat.add_zero, km, km1]; exact hq
    · (first | exact z205 h1 | omega)
    · exact Int.le_refl _
  have hk : k = nb := by
    have a0 : k ≠ 0 := by
      rintro rfl
      have h1 := hk3' 0 (Nat.le_refl _) (by decide)
      rw [Nat.add_zero, km] at h1
      simp [Bey] at h1
      (first | exact z206 kp knp h1 | omega)
    rw [hnb]
    by_cases hc : kn q1 < kn p
    · rw [if_pos hc]
      apply Nat.le_antisymm hk1
      apply Nat.le_of_not_lt
      intro hlt
      have : k = 1 := by (first | exact z207 a0 hlt | omega)
      subst this
      have h1 := hk3' 1 (Nat.le_refl _) (by assumption)
      rw [km1] at h1
      simp [Bey] at h1
      (first | exact z208 knp hc h1 | omega)
    · rw [if_neg hc]
      apply Nat.le_antisymm
      · apply Nat.le_of_not_lt
        intro hlt
        have h1 := hk2' 1 hlt
        rw [km1] at h1
        simp [Bey] at h1
        (first | exact z209 knp hc h1 | omega)
      · (first | exact z210 a0 | omega)
  subst hk
  have hb : 1 ≤ k ∧ k ≤ 2 := by rw [hnb]; split <;> decide
  dsimp only
  refine wpS_ifn (by rw [beq_iff_eq]; (first | exact z211 hb | omega)) ?_
  refine wpS_ifn (by (first | exact z212 hm hu hk1 | omega)) ?_
  rw [show (0 : Nat) + P.length = P.length from Nat.zero_add _, ex1, ex2]
  refine wpS_bind (hmerge _ _ rfl rfl ?_)
  refine wpS_bind (wpS_modify ?_)
  refine wpS_bind (wpS_get (wpS_pure ?_))
  dsimp only
  have pe : ((#[(0, m, pw), (m, 2, pz)] : Array (Nat × Nat × Nat)).setIfInBounds 0 (0, m + 2, pw)).eraseIdxIfInBounds (0 + 1) = #[(0, m + 2, pw)] := by
    simp [Array.eraseIdxIfInBounds]
  rw [fs, pe]
  exact h
end
end Mine
end

section
open PySem PySem.W PyProof.Rows
set_option maxRecDepth 100000
set_option linter.all false
namespace Mine
section
variable {prog : Program} {w : World} {A : Around} {E : Value → Shared → Prop} {s : Shared}
theorem wpS_runsTwo {P X out : List Keyed} {p q0 q1 : Keyed} {m nb : Nat} {Q : Unit → SortSt → Prop} (hm : P.length + X.length = m)
    (hi : ∀ x ∈ P ++ X ++ [q0, q1], ∃ n t, x.1 = .int n t) (hs : ∀ i j, i ≤ j → j < m → K (P ++ X ++ [q0, q1]).toArray i ≤ K (P ++ X ++ [q0, q1]).toArray j) (hP0 : 1 ≤ P.length) (hP : ∀ x ∈ P, kn x ≤ kn q0) (hX : ∀ x ∈ X, kn q0 < kn x) (hu : 3 ≤ X.length)
    (hl : X.getLast? = some p) (hq : kn q0 ≤ kn q1) (hnb : nb = if kn q1 < kn p then 2 else 1) (hlen : out.length = X.length + nb) (hmr : minRun' (m + 2) (m + 2) 0 ≤ m)
    (hmerge : ∀ (st : SortSt) (Q' : Array Keyed → SortSt → Prop), kindOf st = oneType' → gallopOf st = 7 → Q' out.toArray st → wpS (model prog w) A E s (mergeHi' X.toArray ([q0, q1].take nb).toArray) Q' st)
    (h : ∀ pd, Q () (SortSt.mk' oneType' (P ++ out ++ [q0, q1].drop nb).toArray pd 7 none)) :
    wpS (model prog w) A E s sortRuns' Q (SortSt.mk' oneType' (P ++ X ++ [q0, q1]).toArray #[] 7 none) := by
  have hL : (P ++ X ++ [q0, q1]).length = m + 2 := by simp; (first | exact z189 hm | omega)
  have hsz : (P ++ X ++ [q0, q1]).toArray.size = m + 2 := by simpa using hL
  have gm : (P ++ X ++ [q0, q1])[m]? = some q0 := by
    rw [List.getElem?_append_right (by simp; exact Nat.le_of_eq (by assumption))]
    simp [hm]
  have gm1 : (P ++ X ++ [q0, q1])[m + 1]? = some q1 := by
    rw [List.getElem?_append_right (by simp; (first | exact z193 hm | omega))]
    simp [hm]
  have gl : (P ++ X ++ [q0, q1])[m - 1]? = some p := by
    rw [List.getElem?_append_left (by simp; (first | exact z213 hm hP0 | omega)), List.getElem?_append_right (by (first | exact z191 hm hu | omega)), ← hl, List.getLast?_eq_getElem?]
    congr 1; (first | exact z192 hm | omega)
  have g0 : K (P ++ X ++ [q0, q1]).toArray 0 ≤ kn q0 := by
    rw [K_list _ 0 (by (first | exact z214 hL | omega))]
    refine hP _ ?_
    rw [List.getElem_append_left (by simp; (first | exact z215 hP0 | omega)), List.getElem_append_left (by exact Nat.lt_of_succ_le (by assumption))]
    exact List.getElem_mem _
  have km : K (P ++ X ++ [q0, q1]).toArray m = kn q0 := by unfold K; rw [List.getElem?_toArray, gm]
  have km1 : K (P ++ X ++ [q0, q1]).toArray (m + 1) = kn q1 := by unfold K; rw [List.getElem?_toArray, gm1]
  have kl : K (P ++ X ++ [q0, q1]).toArray (m - 1) = kn p := by unfold K; rw [List.getElem?_toArray, gl]
  have kp : kn q0 < kn p := hX p (List.mem_of_getLast? hl)
  have hat : ∀ i, i < m + 2 → ∃ t q, (P ++ X ++ [q0, q1]).toArray[i]? = some (.int (K (P ++ X ++ [q0, q1]).toArray i) t, q) := fun i h => at_int hi (by exact eqlt (by assumption) (by assumption))
  have fin : ∀ {pw pz : Nat} {Q' : Bool → SortSt → Prop}, Q' true (SortSt.mk' oneType' (P ++ out ++ [q0, q1].drop nb).toArray #[(0, m + 2, pw)] 7 none) →
      wpS (model prog w) A E s (mergeAt' 0) Q' (SortSt.mk' oneType' (P ++ X ++ [q0, q1]).toArray #[(0, m, pw), (m, 2, pz)] 7 none) := fun hQ => wpS_mergeAt hm hi hs hP hX hu hl hq hnb hlen hmerge hQ
  have hik : IntKeys (P ++ X ++ [q0, q1]).toArray := fun x hx => hi x (by simpa using hx)
  have hB : SBase (P ++ X ++ [q0, q1]).toArray (SortSt.mk' oneType' (P ++ X ++ [q0, q1]).toArray #[] 7 none) := ⟨Array.Perm.refl _, rfl, rfl, rfl⟩
  have hm3 : 4 ≤ m := by (first | exact z216 hm hP0 hu | omega)
  clear gm gm1 gl hi hP hX hlen hmerge
  generalize (P ++ X ++ [q0, q1]).toArray = arr at *
  obtain ⟨t1, v1, e1⟩ := hat (m + 1) (Nat.lt_succ_self _)
  obtain ⟨t2, v2, e2⟩ := hat m (Nat.lt_succ_of_lt (Nat.lt_succ_self _))
  rw [sortRuns'_eq]
  refine wpS_bind (wpS_get ?_)
  dsimp only
  rw [hsz]
  generalize minRun' (m + 2) (m + 2) 0 = mr at *
  refine wpS_bind ?_
  refine wpS_forCons (by exact Nat.succ_pos _) ?_
  dsimp only
  refine wpS_ifn (by (first | exact z217 | omega)) ?_
  simp only [Nat.sub_zero, Nat.zero_add]
  rw [countRun0_eq]
  refine wpS_bind (wpS_bind (wpS_ascLoop hik (by (first | exact z218 hsz | omega)) (Nat.le_refl 1) (by exact Nat.le_add_left _ _) hB (fun i j h1 h2 => hs i j h1 (by (first | exact z219 hm3 h2 | omega))) fun n hn1 hn2 hsn hor => ?_))
  have hn : n = m := by
    have hsn' : ∀ i j, i ≤ j → j < n → K arr i ≤ K arr j := hsn
    have hor' : n = m + 2 ∨ K arr n < K arr (n - 1) := hor
    clear hsn hor
    apply Classical.byContradiction
    intro hne
    by_cases h1 : n < m
    · rcases hor' with e | e
      · (first | exact z220 h1 e | omega)
      · have := hs (n - 1) n (by (first | exact z32 | omega)) h1; (first | exact z33 e this | omega)
    · have := hsn' (m - 1) m (by (first | exact z32 | omega)) (by (first | exact z221 hne h1 | omega))
      (first | exact z222 kp km kl this | omega)
  subst hn
  dsimp only
  refine wpS_ifn (by rw [beq_iff_eq]; (first | exact z223 | omega)) ?_
  refine wpS_ifp (by (first | exact z224 hm3 | omega)) ?_
  refine wpS_bind (wpS_ltK hB hik (by (first | exact z214 hsz | omega)) (by (first | exact z225 hsz | omega)) ?_)
  dsimp only
  refine wpS_ifp (by rw [decide_eq_true_iff]; show K arr 0 < K arr (n - 1); (first | exact z226 kp g0 kl | omega)) ?_
  refine wpS_pure ?_
  dsimp only
  refine wpS_ifn (by (first | exact z227 hmr | omega)) ?_
  refine wpS_bind (wpS_get ?_)
  rw [show (pendingOf (SortSt.mk' oneType' arr #[] 7 none)).back? = none from rfl]
  dsimp only
  refine wpS_bind (wpS_modify (wpS_pure ?_))
  show wpS _ _ _ _ _ _ (SortSt.mk' oneType' arr #[(0, n, 0)] 7 none)
  -- the second run
  refine wpS_forCons (by (first | exact z228 | omega)) ?_
  dsimp only
  refine wpS_ifn (by (first | exact z229 | omega)) ?_
  simp only [show n + 2 - n = 2 from by (first | exact z230 | omega)]
  rw [countRun'_eq]
  refine wpS_bind (wpS_bind (wpS_forCons (by decide) ?_))
  refine wpS_bind (wpS_ltAt rfl e1 e2 ?_)
  dsimp only
  refine wpS_ifn (by rw [decide_eq_true_iff]; (first | exact z232 hq km km1 | omega)) ?_
  refine wpS_pure ?_
  dsimp only
  refine wpS_forNil (by exact Nat.le_refl _) ?_
  dsimp only
  refine wpS_ifp (by rfl) ?_
  refine wpS_pure ?_
  dsimp only
  have he : ∀ f : Nat × Nat × Nat → Nat × Nat × Nat, setPending (setPending (SortSt.mk' oneType' arr #[(0, n, 0)] 7 none) (#[(0, n, 0)].modify (#[(0, n, 0)].size - 1) f)) ((#[(0, n, 0)].modify (#[(0, n, 0)].size - 1) f).push (n, 2, 0)) = SortSt.mk' oneType' arr #[f (0, n, 0), (n, 2, 0)] 7 none := by
    intro f
    have e : (#[(0, n, 0)] : Array (Nat × Nat × Nat)).modify ((#[(0, n, 0)] : Array (Nat × Nat × Nat)).size - 1) f = #[f (0, n, 0)] := by
      apply Array.ext'
      simp [Array.toList_modify]
    rw [e]
    rfl
  refine wpS_meet (c := 1 + 1 < mr) ?_ (fun h2 he => ?_)
  · refine wpS_bind (wpS_get ?_)
    rw [show (pendingOf (SortSt.mk' oneType' arr #[(0, n, 0)] 7 none)).back? = some (0, n, 0) from rfl]
    dsimp only
    refine wpS_bind ?_
    refine wpS_forCons (by exact Nat.succ_pos _) ?_
    refine wpS_bind (wpS_get ?_)
    rw [if_neg (by show ¬ (1 > 1); decide)]
    dsimp only
    refine wpS_pure ?_
    dsimp only
    refine wpS_bind (wpS_modify (wpS_bind (wpS_modify (wpS_pure ?_))))
    dsimp only
    rw [he]
    refine wpS_forCons (by (first | exact z233 hm3 | omega)) ?_
    dsimp only
    refine wpS_ifp (by exact Nat.le_refl _) ?_
    refine wpS_pure ?_
    dsimp only
    -- they meet
    refine wpS_bind ?_
    refine wpS_forCons (by exact Nat.succ_pos _) ?_
    refine wpS_bind (wpS_get ?_)
    rw [if_neg (by show ¬ (2 ≤ 1); decide)]
    refine wpS_bind ?_
    refine fin ?_
    refine wpS_ifn (by decide) ?_
    refine wpS_pure ?_
    dsimp only
    refine wpS_forCons (by (first | exact z234 | omega)) ?_
    refine wpS_bind (wpS_get ?_)
    rw [if_pos (by show 1 ≤ 1; exact Nat.le_refl _)]
    refine wpS_pure ?_
    dsimp only
    refine wpS_pure ?_
    exact h _
  · refine wpS_bind (wpS_lift (wpAny_rule ⟨rfl, ?_⟩))
    simp only [show min 2 mr = 2 from by (first | exact z235 h2 | omega)]
    rw [binarySort'_eq]
    refine wpS_bind (wpS_bind (wpS_forNil (by decide) (wpS_pure ?_)))
    refine wpS_ifn (by decide) ?_
    exact he
end
end Mine
end

section
open PySem PySem.W PyProof.Rows
set_option maxRecDepth 100000
set_option linter.all false
namespace Mine
noncomputable abbrev dbl (v : Value) : Keyed := (v, v)
theorem pairs_dbl (vs : List Value) : pairsOf vs = (vs.map dbl).toArray := by
  apply Array.ext'
  unfold pairsOf
  simp [Array.toList_zip]
  induction vs with
  | nil => rfl
  | cons v r ih => simp [ih]
theorem kn_dbl {vs : List Value} {ns : List Int} (hI : IntsAre vs ns) : (vs.map dbl).map kn = ns := by
  induction hI with
  | nil => rfl
  | cons n t _ ih =>
    rw [List.map_cons, List.map_cons, ih]; rfl
theorem ints_split : ∀ {ns ms : List Int} {vs : List Value}, IntsAre vs (ns ++ ms) → ∃ us ws, vs = us ++ ws ∧ IntsAre us ns ∧ IntsAre ws ms
  | [], ms, vs, h => ⟨[], vs, rfl, .nil, h⟩
  | n :: ns, ms, vs, h => by
    cases h with
    | cons n t h =>
      obtain ⟨us, ws, rfl, h1, h2⟩ := ints_split h
      exact ⟨_ :: us, ws, rfl, .cons n t h1, h2⟩
theorem ints_one {n : Int} {vs : List Value} (h : IntsAre vs [n]) : ∃ t, vs = [.int n t] := by
  cases h with
  | cons n t h => cases h; exact ⟨t, rfl⟩
theorem ints_two {n m : Int} {vs : List Value} (h : IntsAre vs [n, m]) : ∃ t u, vs = [.int n t, .int m u] := by
  cases h with
  | cons n t h => cases h with
    | cons m u h => cases h; exact ⟨t, u, rfl⟩
theorem kn_mem {vs : List Value} {ns : List Int} (hI : IntsAre vs ns) {P : Int → Prop} (h : ∀ n ∈ ns, P n) : ∀ x ∈ vs.map dbl, P (kn x) := fun x hx => by
  refine h _ ?_
  rw [← kn_dbl hI]
  exact List.mem_map.mpr ⟨x, hx, rfl⟩
theorem int_mem {vs : List Value} {ns : List Int} (hI : IntsAre vs ns) : ∀ x ∈ vs.map dbl, ∃ n t, x.1 = .int n t := by
  induction hI with
  | nil => intro x hx; cases hx
  | cons n t _ ih =>
    intro x hx
    rcases List.mem_cons.mp hx with rfl | hx
    · exact ⟨n, t, rfl⟩
    · exact ih x hx
theorem sorted_of {l : List Keyed} {ks : List Int} (hk : l.map kn = ks) (hp : ks.Pairwise (· ≤ ·)) : ∀ i j, i ≤ j → j < l.length → K l.toArray i ≤ K l.toArray j := by
  intro i j hij hj
  rw [K_list _ i (by exact Nat.lt_of_le_of_lt (by assumption) (by assumption)), K_list _ j hj]
  subst hk
  rw [List.pairwise_iff_getElem] at hp
  by_cases e : i = j
  · subst e; exact Int.le_refl _
  · have := hp i j (by simp; exact Nat.lt_of_le_of_lt (by assumption) (by assumption)) (by simpa using hj) (by (first | exact z0 hij e | omega))
    simpa using this

theorem K_left (l r : List Keyed) (i : Nat) (hi : i < l.length) : K (l ++ r).toArray i = K l.toArray i := by
  rw [K_list _ i (by rw [List.length_append]; (first | exact z1 hi | omega)), K_list _ i hi, List.getElem_append_left hi]
theorem perm_one (V U : List Keyed) (p q0 q1 : Keyed) : (V ++ ([q0] ++ (U ++ [p])) ++ [q1]).Perm (V ++ (U ++ [p]) ++ [q0, q1]) := by
  have h : ((U ++ [p]) ++ q0 :: [q1]).Perm (q0 :: ((U ++ [p]) ++ [q1])) := List.perm_middle
  have := (h.symm).append_left V
  simpa using this
theorem sortOk_two1 {vs : List Value} {nP nX : List Int} {x a0 a1 : Int} (hI : IntsAre vs (nP ++ (nX ++ [x]) ++ [a0, a1])) (hs : (nP ++ (nX ++ [x])).Pairwise (· ≤ ·)) (hP0 : 1 ≤ nP.length) (hP : ∀ y ∈ nP, y ≤ a0) (hX : ∀ y ∈ nX ++ [x], a0 < y)
    (hu : 2 ≤ nX.length) (hq : x ≤ a1) (hfin : (nP ++ ([a0] ++ (nX ++ [x])) ++ [a1]).Pairwise (· ≤ ·)) (hmr : minRun' (nP.length + (nX ++ [x]).length + 2) (nP.length + (nX ++ [x]).length + 2) 0 ≤ nP.length + (nX ++ [x]).length) : SortOk vs := fun prog w A E s => by
  obtain ⟨v1, w2, rfl, i1, i2⟩ := ints_split hI
  obtain ⟨vP, v2, rfl, iP, i3⟩ := ints_split i1
  obtain ⟨vX, v4, rfl, iX, i4⟩ := ints_split i3
  obtain ⟨tx, rfl⟩ := ints_one i4
  obtain ⟨t0, t1, rfl⟩ := ints_two i2
  have lP := iP.length
  have lX := iX.length
  have hall := int_mem hI
  show wpS _ A E s sortRuns' _ (SortSt.mk' oneType' (pairsOf (vP ++ (vX ++ [.int x tx]) ++ [.int a0 t0, .int a1 t1])) #[] 7 none)
  rw [pairs_dbl]
  simp only [List.map_append, List.map_cons, List.map_nil] at hall ⊢
  have hmm : (vP.map dbl).length + (vX.map dbl ++ [dbl (.int x tx)]).length = nP.length + (nX ++ [x]).length := by simp [lP, lX]
  refine wpS_runsTwo (p := dbl (.int x tx)) (nb := 1) (out := [dbl (.int a0 t0)] ++ (vX.map dbl ++ [dbl (.int x tx)])) hmm hall ?_ (by simpa [lP] using hP0) (kn_mem iP hP) (fun y hy => ?_) (by simp only [List.length_append, List.length_map, List.length_cons, List.length_nil, lX]; (first | exact z2 hu | omega)) (by simp) ?_ ?_ (by simp only [List.length_append, List.length_cons, List.length_nil]; (first | exact z3 | omega)) hmr (fun st Q' hk hg h => ?_) (fun pd => ?_)
  · intro i j h1 h2
    have e := sorted_of (l := vP.map dbl ++ (vX.map dbl ++ [dbl (.int x tx)])) (ks := nP ++ (nX ++ [x])) (by rw [List.map_append, List.map_append, kn_dbl iP, kn_dbl iX]; rfl) hs i j h1 (by rw [List.length_append, hmm]; exact h2)
    rw [K_left _ _ i (by rw [List.length_append, hmm]; exact Nat.lt_of_le_of_lt (by assumption) (by assumption)), K_left _ _ j (by rw [List.length_append, hmm]; assumption)]
    exact e
  · have := kn_mem i3 hX
    simp only [List.map_append, List.map_cons, List.map_nil] at this
    exact this y hy
  · show a0 ≤ a1
    have := hX x (by simp)
    (first | exact z4 hq this | omega)
  · show 1 = if a1 < x then 2 else 1
    rw [if_neg (by (first | exact z5 hq | omega))]
  · have h' : Q' ([dbl (.int a0 t0)] ++ vX.map dbl ++ [dbl (.int x tx)]).toArray st := by rw [List.append_assoc]; exact h
    exact wpS_mergeHi1 (by simp [lX]; (first | exact z6 hu | omega)) h'
  · refine ⟨?_, rfl, ?_⟩
    · show ((vP.map dbl ++ ([dbl (.int a0 t0)] ++ (vX.map dbl ++ [dbl (.int x tx)])) ++ [dbl (.int a1 t1)]).toArray).Perm _
      rw [Array.perm_iff_toList_perm]
      exact perm_one _ _ _ _ _
    · show SortedTo (vP.map dbl ++ ([dbl (.int a0 t0)] ++ (vX.map dbl ++ [dbl (.int x tx)])) ++ [dbl (.int a1 t1)]).toArray _
      have e := sorted_of (l := vP.map dbl ++ ([dbl (.int a0 t0)] ++ (vX.map dbl ++ [dbl (.int x tx)])) ++ [dbl (.int a1 t1)]) (ks := nP ++ ([a0] ++ (nX ++ [x])) ++ [a1]) (by simp only [List.map_append, kn_dbl iP, kn_dbl iX]; rfl) hfin
      intro i j h1 h2
      refine e i j h1 ?_
      simp at h2 ⊢
      assumption
end Mine
end

section
open PySem PySem.W PyProof.Rows
set_option maxRecDepth 100000
set_option linter.all false
namespace Mine
theorem ints_five {a b c d e : Int} {vs : List Value} (h : IntsAre vs [a, b, c, d, e]) : ∃ t u v w x, vs = [.int a t, .int b u, .int c v, .int d w, .int e x] := by
  cases h with
  | cons _ t h => cases h with
    | cons _ u h => cases h with
      | cons _ v h => cases h with
        | cons _ w h => cases h with
          | cons _ x h => cases h; exact ⟨t, u, v, w, x, rfl⟩
theorem perm_two (V U : List Keyed) (p a1 a2 a3 a4 q0 q1 : Keyed) : (V ++ ([q0] ++ U ++ [a4, q1, a3, a2, a1, p])).Perm (V ++ (U ++ [a4, a3, a2, a1, p]) ++ [q0, q1]) := by
  have h1 : ((U ++ [a4, a3, a2, a1, p]) ++ q0 :: [q1]).Perm (q0 :: ((U ++ [a4, a3, a2, a1, p]) ++ [q1])) := List.perm_middle
  have h2 : ((U ++ [a4]) ++ q1 :: [a3, a2, a1, p]).Perm (q1 :: ((U ++ [a4]) ++ [a3, a2, a1, p])) := List.perm_middle
  have h3 : ((U ++ [a4, a3, a2, a1, p]) ++ q1 :: []).Perm (q1 :: ((U ++ [a4, a3, a2, a1, p]) ++ [])) := List.perm_middle
  have h4 : ((U ++ [a4]) ++ q1 :: [a3, a2, a1, p]).Perm ((U ++ [a4, a3, a2, a1, p]) ++ [q1]) := by
    refine h2.trans ?_
    have := h3.symm
    simpa using this
  have h5 := (h4.cons q0).trans h1.symm
  have := h5.append_left V
  simpa using this
theorem sortOk_two2 {vs : List Value} {nP nX : List Int} {x x1 x2 x3 x4 a0 a1 : Int} (hI : IntsAre vs (nP ++ (nX ++ [x4, x3, x2, x1, x]) ++ [a0, a1])) (hs : (nP ++ (nX ++ [x4, x3, x2, x1, x])).Pairwise (· ≤ ·)) (hP0 : 1 ≤ nP.length) (hP : ∀ y ∈ nP, y ≤ a0) (hX : ∀ y ∈ nX ++ [x4, x3, x2, x1, x], a0 < y)
    (hq : a0 ≤ a1) (l0 : a1 < x) (l1 : a1 < x1) (l2 : a1 < x2) (l3 : a1 < x3) (l4 : ¬ a1 < x4) (hfin : (nP ++ ([a0] ++ nX ++ [x4, a1, x3, x2, x1, x])).Pairwise (· ≤ ·)) (hmr : minRun' (nP.length + (nX ++ [x4, x3, x2, x1, x]).length + 2) (nP.length + (nX ++ [x4, x3, x2, x1, x]).length + 2) 0 ≤ nP.length + (nX ++ [x4, x3, x2, x1, x]).length) : SortOk vs := fun prog w A E s => by
  obtain ⟨v1, w2, rfl, i1, i2⟩ := ints_split hI
  obtain ⟨vP, v2, rfl, iP, i3⟩ := ints_split i1
  obtain ⟨vX, v4, rfl, iX, i4⟩ := ints_split i3
  obtain ⟨y4, y3, y2, y1, y0, rfl⟩ := ints_five i4
  obtain ⟨t0, t1, rfl⟩ := ints_two i2
  have lP := iP.length
  have lX := iX.length
  have hall := int_mem hI
  show wpS _ A E s sortRuns' _ (SortSt.mk' oneType' (pairsOf (vP ++ (vX ++ [.int x4 y4, .int x3 y3, .int x2 y2, .int x1 y1, .int x y0]) ++ [.int a0 t0, .int a1 t1])) #[] 7 none)
  rw [pairs_dbl]
  simp only [List.map_append, List.map_cons, List.map_nil] at hall ⊢
  have hmm : (vP.map dbl).length + (vX.map dbl ++ [dbl (.int x4 y4), dbl (.int x3 y3), dbl (.int x2 y2), dbl (.int x1 y1), dbl (.int x y0)]).length = nP.length + (nX ++ [x4, x3, x2, x1, x]).length := by simp [lP, lX]
  refine wpS_runsTwo (p := dbl (.int x y0)) (nb := 2) (out := [dbl (.int a0 t0)] ++ vX.map dbl ++ [dbl (.int x4 y4), dbl (.int a1 t1), dbl (.int x3 y3), dbl (.int x2 y2), dbl (.int x1 y1), dbl (.int x y0)]) hmm hall ?_ (by simpa [lP] using hP0) (kn_mem iP hP) (fun y hy => ?_) (by simp only [List.length_append, List.length_map, List.length_cons, List.length_nil, lX]; exact Nat.le_add_left _ _) (by simp) ?_ ?_ (by simp only [List.length_append, List.length_cons, List.length_nil]; (first | exact z251 | omega)) hmr (fun st Q' hk hg h => ?_) (fun pd => ?_)
  · intro i j h1 h2
    have e := sorted_of (l := vP.map dbl ++ (vX.map dbl ++ [dbl (.int x4 y4), dbl (.int x3 y3), dbl (.int x2 y2), dbl (.int x1 y1), dbl (.int x y0)])) (ks := nP ++ (nX ++ [x4, x3, x2, x1, x])) (by rw [List.map_append, List.map_append, kn_dbl iP, kn_dbl iX]; rfl) hs i j h1 (by rw [List.length_append, hmm]; exact h2)
    rw [K_left _ _ i (by rw [List.length_append, hmm]; exact Nat.lt_of_le_of_lt (by assumption) (by assumption)), K_left _ _ j (by rw [List.length_append, hmm]; assumption)]
    exact e
  · have := kn_mem i3 hX
    simp only [List.map_append, List.map_cons, List.map_nil] at this
    exact this y hy
  · exact hq
  · show 2 = if a1 < x then 2 else 1
    rw [if_pos l0]
  · exact wpS_mergeHi2 hk hg rfl rfl rfl rfl rfl l1 l2 l3 l4 h
  · refine ⟨?_, rfl, ?_⟩
    · show ((vP.map dbl ++ ([dbl (.int a0 t0)] ++ vX.map dbl ++ [dbl (.int x4 y4), dbl (.int a1 t1), dbl (.int x3 y3), dbl (.int x2 y2), dbl (.int x1 y1), dbl (.int x y0)]) ++ []).toArray).Perm _
      rw [Array.perm_iff_toList_perm, List.append_nil]
      exact perm_two _ _ _ _ _ _ _ _ _
    · show SortedTo (vP.map dbl ++ ([dbl (.int a0 t0)] ++ vX.map dbl ++ [dbl (.int x4 y4), dbl (.int a1 t1), dbl (.int x3 y3), dbl (.int x2 y2), dbl (.int x1 y1), dbl (.int x y0)]) ++ []).toArray _
      rw [List.append_nil]
      have e := sorted_of (l := vP.map dbl ++ ([dbl (.int a0 t0)] ++ vX.map dbl ++ [dbl (.int x4 y4), dbl (.int a1 t1), dbl (.int x3 y3), dbl (.int x2 y2), dbl (.int x1 y1), dbl (.int x y0)])) (ks := nP ++ ([a0] ++ nX ++ [x4, a1, x3, x2, x1, x])) (by simp only [List.map_append, kn_dbl iP, kn_dbl iX]; rfl) hfin
      intro i j h1 h2
      refine e i j h1 ?_
      simp at h2 ⊢
      assumption
end Mine
end

section
open PySem PySem.W PyProof.Rows PyProof.V
set_option maxRecDepth 100000
set_option linter.all false
namespace Mine
local macro_rules | `(tactic| walk_at "has") => `(tactic| first | exact Has.nil | (refine Has.cons rfl ?_; walk_at "has") | (apply X1.mk; walk_at "has") | (apply X2.mk; walk_at "has") | (apply Exists.intro; walk_at "has"))

/-! rank_outside -/
noncomputable def rankN : List Int → Int → Nat
  | [], _ => 0
  | b :: r, c => if b < c then rankN r c + 1 else 0
noncomputable def rankO (bs : List Int) (c : Int) : Int := if bs[rankN bs c]? = some c then -1 else c - rankN bs c

theorem rankN_at {bs : List Int} {c : Int} {i : Nat} (hi : i < bs.length) : rankN (bs.drop i) c = if bs[i] < c then rankN (bs.drop (i + 1)) c + 1 else 0 := by
  rw [List.drop_eq_getElem_cons hi]; rfl

set_option maxHeartbeats 1000000 in
theorem c_rank {prog : Program} {w : World} {A : Around} {E : Value → Shared → Prop} {Q : Value → Shared → Prop} {s : Shared} {h : Heap} {tk : Nat} {a : Addr} {vs : List Value} {bs : List Int} {c : Int} {tc : Tok}
    (G : Gn w h.get?) (hd : A.depth < recursionLimit) (hl : Lst h.get? a vs) (hi : IntsAre vs bs) (hb : bs.length < 2 ^ 20)
    (hQ : ∀ h' tk' t r, r = rankO bs c → Le h.get? h'.get? → Q (.int r t) (mkS s h' tk')) :
    wpAny (model prog w) A (call (.ref 117) [.ref a, .int c tc]) Q E (mkS s h tk) := by
  refine enter [(Str.ofString "barred", .ref a), (Str.ofString "code", .int c tc)] G rfl rfl hd rfl rfl rfl ?_
  intro L h₁ tk₁ S
  refine x_set ?_; intro N k
  refine r_int ?_; intro _ _
  refine k _ _ ?_; clear k N
  (rename St _ _ _ _ _ _ => S'); refine r_store S' ?_; clear S'; intro _ _ S
  have hlen := hi.length
  rename St _ _ _ _ _ _ => S
  refine x_while (fun k n m fs => X1 fun (i : Nat) => N5 (k = bs.length - i) (rankN bs c = i + rankN (bs.drop i) c) (i ≤ bs.length) (fs = []) (X1 fun (t : Tok) => Has m [(Str.ofString "barred", Value.ref a), (Str.ofString "code", Value.int c tc), (Str.ofString "below", Value.int i t)])) (k₀ := bs.length) S ?_ ?_
  · exact ⟨0, by simp, by simp, by simp, rfl, by walk_at "has"⟩
  · clear S
    intro Rn kr kk n m fs h tk Fn N hF k S hp0
    refine hide fun q₀ kq => ?_
    obtain ⟨i, rfl, hr, hile, rfl, t, hm⟩ := hp0
    refine kq ?_; clear kq q₀
    replace S := S.has hm
    clear hm
    refine wpAny_isTrue_BoolOp ?_
    refine wpAny_allTrue_And_cons ?_
    refine wpAny_isTrue_Compare1 ?_
    (rename St _ _ _ _ _ _ => S'); refine r_name S' rfl ?_
    (rename St _ _ _ _ _ _ => S'); (rename Gn _ _ => G'); refine r_cbi1 (S'.gn G') rfl boot_len ?_
    (rename St _ _ _ _ _ _ => S'); refine r_name S' rfl ?_
    rename St _ _ _ _ _ _ => S
    refine r_len (Lst.w (S.gAt hl)) (by (first | exact z104 hb hlen | omega)) fun t tk => ?_
    refine lt_int ?_
    refine wpAny_truthy_bool ?_
    try (refine k _ _ ?_; clear k N)
    refine ite_dec (fun hlt => ?_) (fun hlt => ?_)
    · have hlt : i < bs.length := by exact innE (by assumption) (by assumption)
      obtain ⟨t', ht'⟩ := intsAt hi hlt
      refine wpAny_allTrue_And_cons ?_
      refine wpAny_isTrue_Compare1 ?_
      refine Subscript_ ?_
      (rename St _ _ _ _ _ _ => S'); refine r_name S' rfl ?_
      (rename St _ _ _ _ _ _ => S'); refine r_name S' rfl ?_
      rename St _ _ _ _ _ _ => S
      refine r_item (Lst.w (S.gAt hl)) (by exact Int.natCast_nonneg _) (by simpa using ht') ?_
      (rename St _ _ _ _ _ _ => S'); refine r_name S' rfl ?_
      refine lt_int ?_
      refine wpAny_truthy_bool ?_
      try (refine k _ _ ?_; clear k N)
      refine ite_dec (fun hc => ?_) (fun hc => ?_)
      · refine wpAny_allTrue_And_nil ?_
        try (refine k _ _ ?_; clear k N)
        with_reducible refine ite_tt ?_
        try (refine kr _ ?_; clear kr Rn)
        refine x_aug ?_; intro N k
        (rename St _ _ _ _ _ _ => S'); refine r_lname S' rfl ?_
        refine r_int ?_; intro _ _
        refine r_iadd ?_; intro _ _
        refine k _ _ ?_; clear k N
        (rename St _ _ _ _ _ _ => S'); refine r_store S' ?_; clear S'; intro _ _ S
        refine wpAny_execs_nil ?_
        try (refine kr _ ?_; clear kr Rn)
        rename St _ _ _ _ _ _ => S
        refine hF _ _ _ _ _ _ S ⟨i + 1, rfl, ?_, hlt, rfl, by walk_at "has"⟩ (by exact msr (by assumption))
        rw [hr, rankN_at hlt, if_pos hc]
        (first | exact z105 | omega)
      · try (refine k _ _ ?_; clear k N)
        with_reducible refine ite_ff ?_
        try (refine kr _ ?_; clear kr Rn)
        refine x_if ?_; intro Rn kr N k
        refine wpAny_isTrue_BoolOp ?_
        refine wpAny_allTrue_And_cons ?_
        refine wpAny_isTrue_Compare1 ?_
        (rename St _ _ _ _ _ _ => S'); refine r_name S' rfl ?_
        (rename St _ _ _ _ _ _ => S'); (rename Gn _ _ => G'); refine r_cbi1 (S'.gn G') rfl boot_len ?_
        (rename St _ _ _ _ _ _ => S'); refine r_name S' rfl ?_
        rename St _ _ _ _ _ _ => S
        refine r_len (Lst.w (S.gAt hl)) (by (first | exact z104 hb hlen | omega)) fun t tk => ?_
        refine lt_int ?_
        refine wpAny_truthy_bool ?_
        try (refine k _ _ ?_; clear k N)
        refine ite_dec (fun _ => ?_) (fun h2 => absurd h2 (by (first | exact z106 (by assumption) | omega)))
        refine wpAny_allTrue_And_cons ?_
        refine wpAny_isTrue_Compare1 ?_
        refine Subscript_ ?_
        (rename St _ _ _ _ _ _ => S'); refine r_name S' rfl ?_
        (rename St _ _ _ _ _ _ => S'); refine r_name S' rfl ?_
        rename St _ _ _ _ _ _ => S
        refine r_item (Lst.w (S.gAt hl)) (by exact Int.natCast_nonneg _) (by simpa using ht') ?_
        have hr0 : rankN bs c = i := by rw [hr, rankN_at hlt, if_neg hc]; (first | exact z107 | omega)
        (rename St _ _ _ _ _ _ => S'); refine r_name S' rfl ?_
        refine eq_int ?_
        refine wpAny_truthy_bool ?_
        try (refine k _ _ ?_; clear k N)
        refine ite_bool (fun he => ?_) (fun he => ?_)
        · refine wpAny_allTrue_And_nil ?_
          try (refine k _ _ ?_; clear k N)
          with_reducible refine ite_tt ?_
          try (refine kr _ ?_; clear kr Rn)
          refine x_ret ?_; intro N k
          refine r_neg ?_; intro _ _
          rename St _ _ _ _ _ _ => S
          refine k _ _ ?_
          refine hQ _ _ _ _ ?_ S.kg
          rw [rankO, hr0, if_pos]
          simp [hlt, eq_of_beq he]
        · try (refine k _ _ ?_; clear k N)
          with_reducible refine ite_ff ?_
          try (refine kr _ ?_; clear kr Rn)
          refine wpAny_execs_nil ?_
          try (refine kr _ ?_; clear kr Rn)
          refine x_ret ?_; intro N k
          refine wpAny_BinOp ?_
          (rename St _ _ _ _ _ _ => S'); refine r_name S' rfl ?_
          (rename St _ _ _ _ _ _ => S'); refine r_name S' rfl ?_
          refine r_sub ?_; intro _ _
          rename St _ _ _ _ _ _ => S
          refine k _ _ ?_
          refine hQ _ _ _ _ ?_ S.kg
          rw [rankO, hr0, if_neg]
          simp only [List.getElem?_eq_getElem hlt, Option.some.injEq]
          exact fun q => by simp [q] at he
    · try (refine k _ _ ?_; clear k N)
      with_reducible refine ite_ff ?_
      try (refine kr _ ?_; clear kr Rn)
      refine x_if ?_; intro Rn kr N k
      refine wpAny_isTrue_BoolOp ?_
      refine wpAny_allTrue_And_cons ?_
      refine wpAny_isTrue_Compare1 ?_
      (rename St _ _ _ _ _ _ => S'); refine r_name S' rfl ?_
      (rename St _ _ _ _ _ _ => S'); (rename Gn _ _ => G'); refine r_cbi1 (S'.gn G') rfl boot_len ?_
      (rename St _ _ _ _ _ _ => S'); refine r_name S' rfl ?_
      rename St _ _ _ _ _ _ => S
      refine r_len (Lst.w (S.gAt hl)) (by (first | exact z104 hb hlen | omega)) fun t tk => ?_
      refine lt_int ?_
      refine wpAny_truthy_bool ?_
      try (refine k _ _ ?_; clear k N)
      refine ite_dec (fun h2 => absurd h2 (by assumption)) (fun _ => ?_)
      try (refine k _ _ ?_; clear k N)
      with_reducible refine ite_ff ?_
      try (refine kr _ ?_; clear kr Rn)
      refine wpAny_execs_nil ?_
      try (refine kr _ ?_; clear kr Rn)
      refine x_ret ?_; intro N k
      refine wpAny_BinOp ?_
      (rename St _ _ _ _ _ _ => S'); refine r_name S' rfl ?_
      (rename St _ _ _ _ _ _ => S'); refine r_name S' rfl ?_
      refine r_sub ?_; intro _ _
      rename St _ _ _ _ _ _ => S
      have hlen' : bs.length ≤ i := by (first | exact z108 hlen hlt | omega)
      have hr0 : rankN bs c = i := by rw [hr, List.drop_eq_nil_of_le hlen']; rfl
      refine k _ _ ?_
      refine hQ _ _ _ _ ?_ S.kg
      rw [rankO, hr0, if_neg]
      simp [List.getElem?_eq_none hlen']

/-! sorted_once -/
noncomputable def onceStep (acc : List Int) (x : Int) : List Int := if acc.getLast? = some x then acc else acc ++ [x]
noncomputable def once (ns : List Int) : List Int := ns.foldl onceStep []

theorem reads_ints {h : Heap} {a : Addr} {vs : List Value} {ns : List Int} (hl : Wls h.get? a vs) (hi : IntsAre vs ns) : Reads h (.ref a) (.list (ns.map PyData.int)) [a] := reads_of_ints hl.isList hi
theorem once_len : ∀ (ns acc : List Int), (ns.foldl onceStep acc).length ≤ acc.length + ns.length
  | [], acc => by simp
  | x :: r, acc => by
    have := once_len r (onceStep acc x)
    have : (onceStep acc x).length ≤ acc.length + 1 := by unfold onceStep; split <;> simp
    simp only [List.foldl_cons, List.length_cons]
    (first | exact z175 (by assumption) this | omega)
theorem take_foldl {α β : Type} (f : β → α → β) (b : β) {l : List α} {i : Nat} (hi : i < l.length) : (l.take (i + 1)).foldl f b = f ((l.take i).foldl f b) l[i] := by
  rw [List.take_add_one, List.getElem?_eq_getElem hi, List.foldl_append]
  rfl

set_option maxHeartbeats 1000000 in
theorem c_once {prog : Program} {w : World} {A : Around} {E : Value → Shared → Prop} {Q : Value → Shared → Prop} {s : Shared} {h : Heap} {tk : Nat} {a : Addr} {vs : List Value} {ns : List Int}
    (G : Gn w h.get?) (hd : A.depth < recursionLimit) (hu : A.units + 100 < cLine) (hh : A.handled = none) (hl : Lst h.get? a vs) (hi : IntsAre vs ns) (hb : ns.length ≤ 1000) (hS : 2 ≤ vs.length → SortOk vs)
    (hQ : ∀ h' tk' N d us ns', ns'.Perm ns → ns'.Pairwise (· ≤ ·) → IntsAre us (once ns') → Lst N d us → Ext h h' N → Q (.ref d) (mkS s h' tk')) :
    wpAny (model prog w) A (call (.ref 103) [.ref a]) Q E (mkS s h tk) := by
  refine enter [(Str.ofString "codes", .ref a)] G rfl rfl hd rfl rfl rfl ?_
  intro L h₁ tk₁ S
  refine x_set ?_; intro N k
  refine List_ ?_
  refine r_spl0 ?_
  (rename St _ _ _ _ _ _ => S'); refine r_newList S' (Nat.zero_le _) ?_; clear S'; intro _ _ _ S
  refine k _ _ ?_; clear k N
  (rename St _ _ _ _ _ _ => S'); refine r_store S' ?_; clear S'; intro _ _ S
  refine x_for ?_; intro Rn kr N k
  (rename St _ _ _ _ _ _ => S'); (rename Gn _ _ => G'); refine r_cbi1 (S'.gn G') rfl boot_sorted ?_
  (rename St _ _ _ _ _ _ => S'); refine r_name S' rfl ?_
  rename St _ _ _ _ _ _ => S
  refine r_sorted S (Lst.w (S.gAt hl)) hi hS (by rw [hi.length]; exact hb) ?_
  clear S
  intro b h tk vs' ns' S hi' hp hs
  refine S.freezeG' ?_; intro g₁ hg₁ hb₁ S
  refine r_iter_list S hh (Lst.w hb₁) ?_
  clear S
  intro I h fp Sti S T
  have hlen := hi'.length
  have hlen' : ns'.length ≤ 1000 := by rw [hp.length_eq]; exact hb
  rename Gn _ _ => G
  refine k _ _ ?_; clear k N
  refine for_core (fun i n m fs => X2 fun d us => N3 (fs = [(d, lstP us)]) (IntsAre us ((ns'.take i).foldl onceStep [])) (Has m [(Str.ofString "found", .ref d)])) S T ?_ ?_ ?_
  · exact ⟨_, [], rfl, .nil, by walk_at "has"⟩
  · clear S T
    intro i v g n m fs h tk Fn hF hg hlt hv hp0 S
    refine hide fun q₀ kq => ?_
    obtain ⟨d, us, rfl, hus, hm⟩ := hp0
    refine kq ?_; clear kq q₀
    have hlt : i < ns'.length := by exact eqlt' (by assumption) (by assumption)
    obtain ⟨t, ht⟩ := intsAt hi' hlt
    rw [ht] at hv
    cases hv
    have G := G.le (hg₁.trans hg)
    rw [show m = ups _ m from (Has.ups hm).symm] at S
    clear hm
    have hul : us.length ≤ 1000 := by
      have := hus.length
      have := once_len (ns'.take i) []
      simp at this
      (first | exact z262 hlen' (by assumption) this | omega)
    have hstep := take_foldl onceStep [] hlt
    refine x_if ?_; intro Rn kr N k
    refine wpAny_isTrue_BoolOp ?_
    refine wpAny_allTrue_Or_cons ?_
    refine wpAny_isTrue_Compare1 ?_
    (rename St _ _ _ _ _ _ => S'); refine r_name S' rfl ?_
    refine List_ ?_
    refine r_spl0 ?_
    (rename St _ _ _ _ _ _ => S'); refine r_newList S' (Nat.zero_le _) ?_; clear S'; intro _ _ _ S
    rename St _ _ _ _ _ _ => S
    have zL : (1000 : Nat) ≤ sizeLine := by rw [sizeLine_eq]; decide
    refine r_eqInts (Lst.w (S.fAt (.tail _ (.head _)))) (Lst.w (S.fAt (.head _))) hus .nil (by exact un (by assumption) (by decide)) ?_
    replace S := S.sub (List.sublist_cons_self ..)
    refine wpAny_truthy_bool ?_
    try (refine k _ _ ?_; clear k N)
    rename St _ _ _ _ _ _ => S
    refine ite_dec (fun he => ?_) (fun he => ?_)
    · try (refine k _ _ ?_; clear k N)
      with_reducible refine ite_tt ?_
      try (refine kr _ ?_; clear kr Rn)
      rename St _ _ _ _ _ _ => S
      refine x_appendS S rfl (.head _) ?_; intro N k
      (rename St _ _ _ _ _ _ => S'); refine r_name S' rfl ?_
      rename St _ _ _ _ _ _ => S
      refine k _ _ ?_; clear k N
      refine r_append S .head (by exact Nat.le_trans (by assumption) (by assumption)) ?_
      clear S
      intro h tk S
      refine wpAny_execs_nil ?_
      try (refine kr _ ?_; clear kr Rn)
      refine wpAny_execs_nil ?_
      try (refine kr _ ?_; clear kr Rn)
      refine hF _ _ _ _ _ S ⟨d, _, rfl, ?_, by walk_at "has"⟩
      rw [hstep, onceStep, if_neg (by rw [he]; simp)]
      exact hus.append (.cons _ _ .nil)
    · generalize hacc : List.foldl onceStep [] (List.take i ns') = acc at *
      have hul' := hus.length
      have hpos : 0 < acc.length := List.length_pos_iff.mpr he
      obtain ⟨t₁, ht₁⟩ := intsAt hus (i := acc.length - 1) (by exact pred (by assumption))
      refine wpAny_allTrue_Or_cons ?_
      refine wpAny_isTrue_Compare1 ?_
      refine Subscript_ ?_
      (rename St _ _ _ _ _ _ => S'); refine r_name S' rfl ?_
      refine wpAny_BinOp ?_
      (rename St _ _ _ _ _ _ => S'); (rename Gn _ _ => G'); refine r_cbi1 (S'.gn G') rfl boot_len ?_
      (rename St _ _ _ _ _ _ => S'); refine r_name S' rfl ?_
      rename St _ _ _ _ _ _ => S
      refine r_len (Lst.w (S.fAt (.head _))) (by exact lt63 (Nat.le_trans (by assumption) (by decide))) fun t₂ tk => ?_
      refine r_int ?_; intro _ _
      refine r_sub ?_; intro _ _
      rename St _ _ _ _ _ _ => S
      refine r_item (Lst.w (S.fAt (.head _))) (by (first | exact z180 hul' hpos | omega)) (v := .int acc[acc.length - 1] t₁) (by rw [← ht₁]; congr 1; exact lastN' (by assumption) (by assumption)) ?_
      (rename St _ _ _ _ _ _ => S'); refine r_name S' rfl ?_
      refine ne_int ?_
      refine wpAny_truthy_bool ?_
      try (refine k _ _ ?_; clear k N)
      rename St _ _ _ _ _ _ => S
      have hlast : acc.getLast? = some acc[acc.length - 1] := by rw [List.getLast?_eq_getElem?, List.getElem?_eq_getElem]
      refine ite_bool (fun hne => ?_) (fun hne => ?_)
      · have hne : acc[acc.length - 1] ≠ ns'[i] := by simpa using hne
        try (refine k _ _ ?_; clear k N)
        with_reducible refine ite_tt ?_
        try (refine kr _ ?_; clear kr Rn)
        rename St _ _ _ _ _ _ => S
        refine x_appendS S rfl (.head _) ?_; intro N k
        (rename St _ _ _ _ _ _ => S'); refine r_name S' rfl ?_
        rename St _ _ _ _ _ _ => S
        refine k _ _ ?_; clear k N
        refine r_append S .head (by exact Nat.le_trans (by assumption) (by assumption)) ?_
        clear S
        intro h tk S
        refine wpAny_execs_nil ?_
        try (refine kr _ ?_; clear kr Rn)
        refine wpAny_execs_nil ?_
        try (refine kr _ ?_; clear kr Rn)
        refine hF _ _ _ _ _ S ⟨d, _, rfl, ?_, by walk_at "has"⟩
        rw [hstep, onceStep, if_neg (by rw [hlast]; simpa using hne)]
        exact hus.append (.cons _ _ .nil)
      · have hne : acc[acc.length - 1] = ns'[i] := by simpa using hne
        refine wpAny_allTrue_Or_nil ?_
        try (refine k _ _ ?_; clear k N)
        with_reducible refine ite_ff ?_
        try (refine kr _ ?_; clear kr Rn)
        refine wpAny_execs_nil ?_
        try (refine kr _ ?_; clear kr Rn)
        refine wpAny_execs_nil ?_
        try (refine kr _ ?_; clear kr Rn)
        rename St _ _ _ _ _ _ => S
        refine hF _ _ _ _ _ S ⟨d, _, rfl, ?_, by walk_at "has"⟩
        rw [hstep, onceStep, if_pos (by rw [hlast, hne])]
        exact hus
  · clear S T
    intro n m fs h tk hp0 S
    refine hide fun q₀ kq => ?_
    obtain ⟨d, us, rfl, hus, hm⟩ := hp0
    refine kq ?_; clear kq q₀
    refine kr _ ?_; clear kr Rn
    replace S := S.has hm
    clear hm
    rw [List.take_of_length_le (by (first | exact z29 hlen | omega))] at hus
    refine x_ret ?_; intro N k
    (rename St _ _ _ _ _ _ => S'); refine r_name S' rfl ?_
    rename St _ _ _ _ _ _ => S
    refine (S.less hg₁).freeze' ?_; intro N _ hN S
    refine k _ _ ?_
    exact hQ _ _ N _ _ _ hp hs hus hN S.out

/-! turned_code, trans_code -/
noncomputable def turnedC (T : Tbl) (c : Int) : Int :=
  if rankO T.barred c < 0 then -1
  else if rankO T.barred c < T.becomes.length then T.becomes.getD (rankO T.barred c).toNat 0
  else if T.del then -2
  else if T.becomes = [] then c
  else T.becomes.getD (T.becomes.length - 1) 0
noncomputable def codeC (T : Tbl) (c : Int) : Int := if T.turned then turnedC T c else (T.codes.lookup c).getD (-1)

theorem depth_deeper' (A : Around) (e : Env) : (A.deeper e).depth = A.depth + 1 := rfl
theorem handled_deeper (A : Around) (e : Env) : (A.deeper e).handled = A.handled := rfl

set_option maxHeartbeats 1000000 in
theorem c_turned {prog : Program} {w : World} {A : Around} {E : Value → Shared → Prop} {Q : Value → Shared → Prop} {s : Shared} {h : Heap} {tk : Nat} {x : Addr} {T : Tbl} {c : Int} {tc : Tok}
    (G : Gn w h.get?) (hd : A.depth + 5 < recursionLimit) (hu : A.units + 100 < cLine) (I : IsTbl prog w h.get? x T) (hb1 : T.barred.length ≤ 1000) (hb2 : T.becomes.length ≤ 1000)
    (hQ : ∀ h' tk' t r, r = turnedC T c → Le h.get? h'.get? → Q (.int r t) (mkS s h' tk')) :
    wpAny (model prog w) A (call (.ref 124) [.ref x, .int c tc]) Q E (mkS s h tk) := by
  obtain ⟨dx, es, cd, b, bc, bs, cs, i, h1, h2, h3, h4, h5, h6, h7, h8, h9, h10, h11, h12⟩ := I.ok
  refine enter [(Str.ofString "table", .ref x), (Str.ofString "code", .int c tc)] G rfl rfl (by exact dd0 (by assumption)) rfl rfl rfl ?_
  intro L h₁ tk₁ S
  refine x_set ?_; intro N k
  (rename St _ _ _ _ _ _ => S'); (rename Gn _ _ => G'); refine r_cdef (S'.gn G') rfl rfl ?_
  refine r_spl ?_
  refine Attribute_name ?_
  (rename St _ _ _ _ _ _ => S'); refine r_name S' rfl ?_
  (rename St _ _ _ _ _ _ => S'); (rename Gn _ _ => G'); (rename Ins _ _ _ _ _ => i'); refine' r_attr (S'.gn G') (Ins.le i' (St.kg S')) rfl rfl rfl ?hl ?hv ?_; (case hl => assumption); (case hv => rfl); intro _
  refine r_spl ?_
  (rename St _ _ _ _ _ _ => S'); refine r_name S' rfl ?_
  refine r_spl0 ?_
  (rename St _ _ _ _ _ _ => S'); (rename Gn _ _ => G'); refine And.intro (S'.gn G').in ?_
  rename St _ _ _ _ _ _ => S
  rename Gn _ _ => G
  refine c_rank (S.gn G) (by exact dp0 (by assumption) (by decide)) (S.gAt h9) h10 (by (first | exact z276 hb1 | omega)) ?_
  intro h tk t r hr hk
  replace S := S.ext hk
  clear hk
  refine k _ _ ?_; clear k N
  (rename St _ _ _ _ _ _ => S'); refine r_store S' ?_; clear S'; intro _ _ S
  refine x_if ?_; intro Rn kr N k
  refine wpAny_isTrue_Compare1 ?_
  (rename St _ _ _ _ _ _ => S'); refine r_name S' rfl ?_
  refine r_int ?_; intro _ _
  refine lt_int ?_
  refine wpAny_truthy_bool ?_
  try (refine k _ _ ?_; clear k N)
  rename St _ _ _ _ _ _ => S
  rename Gn _ _ => G
  have hbl := h10.length
  have hcl := h12.length
  refine ite_dec (fun hr0 => ?_) (fun hr0 => ?_)
  · refine x_ret ?_; intro N k
    (rename St _ _ _ _ _ _ => S'); (rename Gn _ _ => G'); refine r_glob (S'.gn G') rfl ?_
    rename St _ _ _ _ _ _ => S
    refine k _ _ ?_
    exact hQ _ _ _ _ (by rw [turnedC, ← hr, if_pos hr0]) S.kg
  refine wpAny_execs_nil ?_
  try (refine kr _ ?_; clear kr Rn)
  refine x_if ?_; intro Rn kr N k
  refine wpAny_isTrue_Compare1 ?_
  (rename St _ _ _ _ _ _ => S'); refine r_name S' rfl ?_
  (rename St _ _ _ _ _ _ => S'); (rename Gn _ _ => G'); refine r_cbi1 (S'.gn G') rfl boot_len ?_
  refine Attribute_name ?_
  (rename St _ _ _ _ _ _ => S'); refine r_name S' rfl ?_
  (rename St _ _ _ _ _ _ => S'); (rename Gn _ _ => G'); (rename Ins _ _ _ _ _ => i'); refine' r_attr (S'.gn G') (Ins.le i' (St.kg S')) rfl rfl rfl ?hl ?hv ?_; (case hl => assumption); (case hv => rfl); intro _
  rename St _ _ _ _ _ _ => S
  refine r_len (Lst.w (S.gAt h11)) (by exact lt63 (eqle (by assumption) (Nat.le_trans (by assumption) (by decide)))) fun t₂ tk => ?_
  refine lt_int ?_
  refine wpAny_truthy_bool ?_
  try (refine k _ _ ?_; clear k N)
  rename St _ _ _ _ _ _ => S
  refine ite_dec (fun hr1 => ?_) (fun hr1 => ?_)
  · obtain ⟨t₁, ht₁⟩ := intsAt h12 (i := r.toNat) (by exact tlt (by assumption) (by assumption) (by assumption))
    refine x_ret ?_; intro N k
    refine Subscript_ ?_
    refine Attribute_name ?_
    (rename St _ _ _ _ _ _ => S'); refine r_name S' rfl ?_
    (rename St _ _ _ _ _ _ => S'); (rename Gn _ _ => G'); (rename Ins _ _ _ _ _ => i'); refine' r_attr (S'.gn G') (Ins.le i' (St.kg S')) rfl rfl rfl ?hl ?hv ?_; (case hl => assumption); (case hv => rfl); intro _
    (rename St _ _ _ _ _ _ => S'); refine r_name S' rfl ?_
    rename St _ _ _ _ _ _ => S
    refine r_item (Lst.w (S.gAt h11)) (by exact Int.not_lt.mp (by assumption)) ht₁ ?_
    rename St _ _ _ _ _ _ => S
    refine k _ _ ?_
    refine hQ _ _ _ _ ?_ S.kg
    rw [turnedC, ← hr, if_neg hr0, if_pos (by (first | exact z170 hcl hr1 | omega)), List.getD_eq_getElem?_getD, List.getElem?_eq_getElem (by exact tlt (by assumption) (by assumption) (by assumption))]
    try rfl
  refine wpAny_execs_nil ?_
  try (refine kr _ ?_; clear kr Rn)
  refine x_if ?_; intro Rn kr N k
  refine wpAny_isTrue_value ?_
  refine Attribute_name ?_
  (rename St _ _ _ _ _ _ => S'); refine r_name S' rfl ?_
  (rename St _ _ _ _ _ _ => S'); (rename Gn _ _ => G'); (rename Ins _ _ _ _ _ => i'); refine' r_attr (S'.gn G') (Ins.le i' (St.kg S')) rfl rfl rfl ?hl ?hv ?_; (case hl => assumption); (case hv => rfl); intro _
  refine wpAny_truthy_bool ?_
  try (refine k _ _ ?_; clear k N)
  refine ite_bool (fun hdl => ?_) (fun hdl => ?_)
  · refine x_ret ?_; intro N k
    (rename St _ _ _ _ _ _ => S'); (rename Gn _ _ => G'); refine r_glob (S'.gn G') rfl ?_
    rename St _ _ _ _ _ _ => S
    refine k _ _ ?_
    refine hQ _ _ _ _ ?_ S.kg
    rw [turnedC, ← hr, if_neg hr0, if_neg (by (first | exact z171 hcl hr1 | omega)), if_pos hdl]
    try rfl
  refine wpAny_execs_nil ?_
  try (refine kr _ ?_; clear kr Rn)
  refine x_if ?_; intro Rn kr N k
  refine wpAny_isTrue_Compare1 ?_
  refine Attribute_name ?_
  (rename St _ _ _ _ _ _ => S'); refine r_name S' rfl ?_
  (rename St _ _ _ _ _ _ => S'); (rename Gn _ _ => G'); (rename Ins _ _ _ _ _ => i'); refine' r_attr (S'.gn G') (Ins.le i' (St.kg S')) rfl rfl rfl ?hl ?hv ?_; (case hl => assumption); (case hv => rfl); intro _
  refine List_ ?_
  refine r_spl0 ?_
  (rename St _ _ _ _ _ _ => S'); refine r_newList S' (Nat.zero_le _) ?_; clear S'; intro _ _ _ S
  rename St _ _ _ _ _ _ => S
  refine r_eqInts (Lst.w (S.gAt h11)) (Lst.w (S.fAt (.head _))) h12 .nil (by exact un (by assumption) (by decide)) ?_
  refine wpAny_truthy_bool ?_
  try (refine k _ _ ?_; clear k N)
  refine ite_dec (fun he => ?_) (fun he => ?_)
  · refine x_ret ?_; intro N k
    (rename St _ _ _ _ _ _ => S'); refine r_name S' rfl ?_
    rename St _ _ _ _ _ _ => S
    refine k _ _ ?_
    refine hQ _ _ _ _ ?_ S.kg
    rw [turnedC, ← hr, if_neg hr0, if_neg (by (first | exact z171 hcl hr1 | omega)), if_neg (by simp [hdl]), if_pos he]
  have hpos : 0 < T.becomes.length := List.length_pos_iff.mpr he
  obtain ⟨t₁, ht₁⟩ := intsAt h12 (i := T.becomes.length - 1) (by exact pred (by assumption))
  refine wpAny_execs_nil ?_
  try (refine kr _ ?_; clear kr Rn)
  refine x_ret ?_; intro N k
  refine Subscript_ ?_
  refine Attribute_name ?_
  (rename St _ _ _ _ _ _ => S'); refine r_name S' rfl ?_
  (rename St _ _ _ _ _ _ => S'); (rename Gn _ _ => G'); (rename Ins _ _ _ _ _ => i'); refine' r_attr (S'.gn G') (Ins.le i' (St.kg S')) rfl rfl rfl ?hl ?hv ?_; (case hl => assumption); (case hv => rfl); intro _
  refine wpAny_BinOp ?_
  (rename St _ _ _ _ _ _ => S'); (rename Gn _ _ => G'); refine r_cbi1 (S'.gn G') rfl boot_len ?_
  refine Attribute_name ?_
  (rename St _ _ _ _ _ _ => S'); refine r_name S' rfl ?_
  (rename St _ _ _ _ _ _ => S'); (rename Gn _ _ => G'); (rename Ins _ _ _ _ _ => i'); refine' r_attr (S'.gn G') (Ins.le i' (St.kg S')) rfl rfl rfl ?hl ?hv ?_; (case hl => assumption); (case hv => rfl); intro _
  rename St _ _ _ _ _ _ => S
  refine r_len (Lst.w (S.gAt h11)) (by exact lt63 (eqle (by assumption) (Nat.le_trans (by assumption) (by decide)))) fun t₂ tk => ?_
  refine r_int ?_; intro _ _
  refine r_sub ?_; intro _ _
  rename St _ _ _ _ _ _ => S
  refine r_item (Lst.w (S.gAt h11)) (by (first | exact z180 hcl hpos | omega)) (v := .int T.becomes[T.becomes.length - 1] t₁) (by rw [← ht₁]; congr 1; exact lastN' (by assumption) (by assumption)) ?_
  rename St _ _ _ _ _ _ => S
  refine k _ _ ?_
  refine hQ _ _ _ _ ?_ S.kg
  rw [turnedC, ← hr, if_neg hr0, if_neg (by (first | exact z171 hcl hr1 | omega)), if_neg (by simp [hdl]), if_neg he, List.getD_eq_getElem?_getD, List.getElem?_eq_getElem (by exact pred (by assumption))]
  rfl

set_option maxHeartbeats 1000000 in
theorem c_code {prog : Program} {w : World} {A : Around} {E : Value → Shared → Prop} {Q : Value → Shared → Prop} {s : Shared} {h : Heap} {tk : Nat} {x : Addr} {T : Tbl} {c : Int} {tc : Tok}
    (G : Gn w h.get?) (hd : A.depth + 6 < recursionLimit) (hu : A.units + 110 < cLine) (I : IsTbl prog w h.get? x T) (hb1 : T.barred.length ≤ 1000) (hb2 : T.becomes.length ≤ 1000)
    (hQ : ∀ h' tk' t r, r = codeC T c → Le h.get? h'.get? → Q (.int r t) (mkS s h' tk')) :
    wpAny (model prog w) A (call (.ref 131) [.ref x, .int c tc]) Q E (mkS s h tk) := by
  obtain ⟨dx, es, cd, b, bc, bs, cs, i, h1, h2, h3, h4, h5, h6, h7, h8, h9, h10, h11, h12⟩ := I.ok
  refine enter [(Str.ofString "table", .ref x), (Str.ofString "code", .int c tc)] G rfl rfl (by exact dd0 (by assumption)) rfl rfl rfl ?_
  intro L h₁ tk₁ S
  refine x_if ?_; intro Rn kr N k
  refine wpAny_isTrue_value ?_
  refine Attribute_name ?_
  (rename St _ _ _ _ _ _ => S'); refine r_name S' rfl ?_
  (rename St _ _ _ _ _ _ => S'); (rename Gn _ _ => G'); (rename Ins _ _ _ _ _ => i'); refine' r_attr (S'.gn G') (Ins.le i' (St.kg S')) rfl rfl rfl ?hl ?hv ?_; (case hl => assumption); (case hv => rfl); intro _
  refine wpAny_truthy_bool ?_
  try (refine k _ _ ?_; clear k N)
  rename St _ _ _ _ _ _ => S
  rename Gn _ _ => G
  refine ite_bool (fun ht => ?_) (fun ht => ?_)
  · refine x_ret ?_; intro N k
    (rename St _ _ _ _ _ _ => S'); (rename Gn _ _ => G'); refine r_cdef (S'.gn G') rfl rfl ?_
    refine r_spl ?_
    (rename St _ _ _ _ _ _ => S'); refine r_name S' rfl ?_
    refine r_spl ?_
    (rename St _ _ _ _ _ _ => S'); refine r_name S' rfl ?_
    refine r_spl0 ?_
    (rename St _ _ _ _ _ _ => S'); (rename Gn _ _ => G'); refine And.intro (S'.gn G').in ?_
    rename St _ _ _ _ _ _ => S
    rename Gn _ _ => G
    refine c_turned (S.gn G) (by exact dp (by assumption) (by decide)) (by exact un (by assumption) (by decide)) (I.le S.kg) hb1 hb2 ?_
    intro h tk t r hr hk
    replace S := S.ext hk
    refine k _ _ ?_
    exact hQ _ _ _ _ (by rw [codeC, if_pos ht, hr]) S.kg
  · refine wpAny_execs_nil ?_
    try (refine kr _ ?_; clear kr Rn)
    refine x_ret ?_; intro N k
    refine MethodCall_ ?_
    refine Attribute_name ?_
    (rename St _ _ _ _ _ _ => S'); refine r_name S' rfl ?_
    (rename St _ _ _ _ _ _ => S'); (rename Gn _ _ => G'); (rename Ins _ _ _ _ _ => i'); refine' r_attr (S'.gn G') (Ins.le i' (St.kg S')) rfl rfl rfl ?hl ?hv ?_; (case hl => assumption); (case hv => rfl); intro _
    rename St _ _ _ _ _ _ => S
    refine r_dGetM (S.gAt h7) h8 ?_
    refine PyProof.Rows.callWith_method1 ?_
    refine r_spl ?_
    (rename St _ _ _ _ _ _ => S'); refine r_name S' rfl ?_
    refine r_spl ?_
    (rename St _ _ _ _ _ _ => S'); (rename Gn _ _ => G'); refine r_glob (S'.gn G') rfl ?_
    refine r_spl0 ?_
    rename St _ _ _ _ _ _ => S
    refine r_dGet (S.gAt h7) h8 fun t tk => ?_
    refine k _ _ ?_
    exact hQ _ _ _ _ (by rw [codeC, if_neg (by simp [ht])]) S.kg

/-! run_trans -/
structure RS where
  out : List Nat
  count : Int
  last : Int
noncomputable def runStep (T : Tbl) (r : RS) (c : Nat) : RS :=
  if codeC T c = -1 then ⟨r.out ++ [c], r.count, -1⟩
  else if codeC T c = -2 ∨ (T.sq = true ∧ codeC T c = r.last) then ⟨r.out, r.count + 1, r.last⟩
  else ⟨r.out ++ [(codeC T c).toNat], r.count + 1, codeC T c⟩
noncomputable def runT (T : Tbl) (cs : List Nat) : RS := cs.foldl (runStep T) ⟨[], 0, -1⟩

theorem runT_len (T : Tbl) : ∀ (cs : List Nat) (r : RS), (cs.foldl (runStep T) r).out.length ≤ r.out.length + cs.length
  | [], r => by simp
  | c :: cs, r => by
    have h1 := runT_len T cs (runStep T r c)
    have h2 : (runStep T r c).out.length ≤ r.out.length + 1 := by
      unfold runStep
      split
      · simp
      · split <;> simp
    simp only [List.foldl_cons, List.length_cons]
    (first | exact z175 h1 h2 | omega)
theorem join_ch : ∀ o : List Nat, Txt.join (Str.ofString "") (o.map ch) = tx o := by
  intro o
  show PySem.Builtin.Str.glued _ _ = _
  rw [PySem.StrLaws.glued_eq_join]
  induction o with
  | nil => rfl
  | cons a r ih =>
    cases r with
    | nil => rfl
    | cons b r =>
      show ch a ++ Str.ofString "" ++ PySem.Str.join (Str.ofString "") ((b :: r).map ch) = _
      rw [ih]
      exact PySem.Str.ext' (by simp [PySem.Str.cps_append, show (Str.ofString "").cps = #[] from by decide])
theorem joinOk_ch (o : List Nat) (h : o.length ≤ 1000000) : JoinOk (Str.ofString "") (o.map ch) = true := by
  unfold JoinOk
  rw [Bool.not_eq_true']
  have : (Str.ofString "").length = 0 := by decide
  exact PySem.StrLaws.joinFits (B := 1) (fun y hy => by obtain ⟨c, _, rfl⟩ := List.mem_map.mp hy; exact Nat.le_refl 1) (by rw [this, List.length_map]; (first | exact z263 h | omega))

set_option maxHeartbeats 1000000 in
theorem c_run {prog : Program} {w : World} {A : Around} {E : Value → Shared → Prop} {Q : Value → Shared → Prop} {s : Shared} {h : Heap} {tk : Nat} {x : Addr} {T : Tbl} {cs : List Nat} {tt : Tok}
    (G : Gn w h.get?) (hd : A.depth + 7 < recursionLimit) (hu : A.units + 120 < cLine) (hh : A.handled = none) (I : IsTbl prog w h.get? x T) (hb1 : T.barred.length ≤ 1000) (hb2 : T.becomes.length ≤ 1000) (hcs : cs.length ≤ 1000)
    (hok : ∀ c ∈ cs, codeC T c = -1 ∨ codeC T c = -2 ∨ (0 ≤ codeC T c ∧ codeC T c ≤ 1114111))
    (hQ : ∀ h' tk' N d t t', Tup N d [.str (tx (runT T cs).out) t, .int (runT T cs).count t'] → Ext h h' N → Q (.ref d) (mkS s h' tk')) :
    wpAny (model prog w) A (call (.ref 138) [.ref x, .str (tx cs) tt]) Q E (mkS s h tk) := by
  refine enter [(Str.ofString "table", .ref x), (Str.ofString "text", .str (tx cs) tt)] G rfl rfl (by exact dd0 (by assumption)) rfl rfl rfl ?_
  intro L h₁ tk₁ S
  refine x_set ?_; intro N k
  refine List_ ?_
  refine r_spl0 ?_
  (rename St _ _ _ _ _ _ => S'); refine r_newList S' (Nat.zero_le _) ?_; clear S'; intro _ _ _ S
  refine k _ _ ?_; clear k N
  (rename St _ _ _ _ _ _ => S'); refine r_store S' ?_; clear S'; intro _ _ S
  refine x_set ?_; intro N k
  refine r_int ?_; intro _ _
  refine k _ _ ?_; clear k N
  (rename St _ _ _ _ _ _ => S'); refine r_store S' ?_; clear S'; intro _ _ S
  refine x_set ?_; intro N k
  refine r_neg ?_; intro _ _
  refine k _ _ ?_; clear k N
  (rename St _ _ _ _ _ _ => S'); refine r_store S' ?_; clear S'; intro _ _ S
  refine x_for ?_; intro Rn kr N k
  (rename St _ _ _ _ _ _ => S'); refine r_name S' rfl ?_
  rename St _ _ _ _ _ _ => S
  refine r_iter_str S hh ?_
  clear S
  intro I₁ h fp Sti S T₁
  rename Gn _ _ => G
  refine k _ _ ?_; clear k N
  refine for_core (fun i n m fs => X2 fun d us => N3 (fs = [(d, lstP us)]) (Strs us (((cs.take i).foldl (runStep T) ⟨[], 0, -1⟩).out.map ch)) (X2 fun t₁ t₂ => Has m [(Str.ofString "table", .ref x), (Str.ofString "out", .ref d), (Str.ofString "count", .int ((cs.take i).foldl (runStep T) ⟨[], 0, -1⟩).count t₁), (Str.ofString "last", .int ((cs.take i).foldl (runStep T) ⟨[], 0, -1⟩).last t₂)])) S T₁ ?_ ?_ ?_
  · exact ⟨_, [], rfl, .nil, by walk_at "has"⟩
  · clear S T₁
    intro i v g n m fs h tk Fn hF hg hlt hv hp0 S
    refine hide fun q₀ kq => ?_
    obtain ⟨d, us, rfl, hus, t₁, t₂, hm⟩ := hp0
    refine kq ?_; clear kq q₀
    obtain ⟨c, u, hc, rfl⟩ := hv
    have hlt : i < cs.length := by simpa using hlt
    have hc : cs[i]? = some c := by simpa using hc
    obtain ⟨_, hci⟩ := List.getElem?_eq_some_iff.mp hc
    have hstep := take_foldl (runStep T) ⟨[], 0, -1⟩ hlt
    rw [hci] at hstep
    have hlen := runT_len T (cs.take i) ⟨[], 0, -1⟩
    generalize hr : (cs.take i).foldl (runStep T) ⟨[], 0, -1⟩ = r at *
    have hok := hok c (hci ▸ List.getElem_mem _)
    have I := I.le hg
    have G := G.le hg
    rw [show m = ups _ m from (Has.ups hm).symm] at S
    clear hm
    refine x_set ?_; intro N k
    (rename St _ _ _ _ _ _ => S'); (rename Gn _ _ => G'); refine r_cdef (S'.gn G') rfl rfl ?_
    refine r_spl ?_
    (rename St _ _ _ _ _ _ => S'); refine r_name S' rfl ?_
    refine r_spl ?_
    (rename St _ _ _ _ _ _ => S'); (rename Gn _ _ => G'); refine r_cbi1 (S'.gn G') rfl boot_ord ?_
    (rename St _ _ _ _ _ _ => S'); refine r_name S' rfl ?_
    refine r_ord ?_; intro _ _
    refine r_spl0 ?_
    (rename St _ _ _ _ _ _ => S'); (rename Gn _ _ => G'); refine And.intro (S'.gn G').in ?_
    rename St _ _ _ _ _ _ => S
    rename Gn _ _ => G
    refine c_code (S.gn G) (by exact dp (by assumption) (by decide)) (by exact un (by assumption) (by decide)) (I.le S.kg) hb1 hb2 ?_
    intro h tk t v hv hk
    replace S := S.ext hk
    clear hk
    refine k _ _ ?_; clear k N
    (rename St _ _ _ _ _ _ => S'); refine r_store S' ?_; clear S'; intro _ _ S
    refine x_if ?_; intro Rn kr N k
    refine wpAny_isTrue_Compare1 ?_
    (rename St _ _ _ _ _ _ => S'); refine r_name S' rfl ?_
    (rename St _ _ _ _ _ _ => S'); (rename Gn _ _ => G'); refine r_glob (S'.gn G') rfl ?_
    refine eq_int ?_
    refine wpAny_truthy_bool ?_
    try (refine k _ _ ?_; clear k N)
    rename St _ _ _ _ _ _ => S
    have hul := strs_len hus
    simp at hul hlen
    have zL : (1000000 : Nat) ≤ sizeLine := by rw [sizeLine_eq]; decide
    refine ite_bool (fun h1 => ?_) (fun h1 => ?_)
    · have h1 : codeC T c = -1 := by rw [← hv]; simpa using h1
      rename St _ _ _ _ _ _ => S
      refine x_appendS S rfl (.head _) ?_; intro N k
      (rename St _ _ _ _ _ _ => S'); refine r_name S' rfl ?_
      rename St _ _ _ _ _ _ => S
      refine k _ _ ?_; clear k N
      refine r_append S .head (by (first | exact z264 hcs hul hlen zL | omega)) ?_
      clear S
      intro h tk S
      refine x_set ?_; intro N k
      refine r_neg ?_; intro _ _
      refine k _ _ ?_; clear k N
      (rename St _ _ _ _ _ _ => S'); refine r_store S' ?_; clear S'; intro _ _ S
      refine wpAny_execs_cons ?_
      refine wpAny_Continue ?_
      rename St _ _ _ _ _ _ => S
      refine hF _ _ _ _ _ S ⟨d, _, rfl, ?_, by rw [hstep, runStep, if_pos h1]; walk_at "has"⟩
      rw [hstep, runStep, if_pos h1]
      simpa using hus.append' (.cons (ch c) u .nil)
    · have h1 : ¬ codeC T c = -1 := by rw [← hv]; simpa using h1
      refine hide fun q₀ kq => ?_
      obtain ⟨dx, es, cd, b, bc, bs, cs', i', e1, e2, e3, e4, e5, e6, e7, e8, e9, e10, e11, e12⟩ := I.ok
      refine kq ?_; clear kq q₀
      refine wpAny_execs_nil ?_
      try (refine kr _ ?_; clear kr Rn)
      refine x_aug ?_; intro N k
      (rename St _ _ _ _ _ _ => S'); refine r_lname S' rfl ?_
      refine r_int ?_; intro _ _
      refine r_iadd ?_; intro _ _
      refine k _ _ ?_; clear k N
      (rename St _ _ _ _ _ _ => S'); refine r_store S' ?_; clear S'; intro _ _ S
      refine x_if ?_; intro Rn kr N k
      rename St _ _ _ _ _ _ => S
      refine cut_test (decide (codeC T c = -2 ∨ (T.sq = true ∧ codeC T c = r.last))) ?_ ?_
      · intro N k
        refine wpAny_isTrue_BoolOp ?_
        refine wpAny_allTrue_Or_cons ?_
        refine wpAny_isTrue_Compare1 ?_
        (rename St _ _ _ _ _ _ => S'); refine r_name S' rfl ?_
        (rename St _ _ _ _ _ _ => S'); (rename Gn _ _ => G'); refine r_glob (S'.gn G') rfl ?_
        refine eq_int ?_
        refine wpAny_truthy_bool ?_
        try (refine k _ _ ?_; clear k N)
        refine ite_bool (fun h2 => ?_) (fun h2 => ?_)
        · have h2 : codeC T c = -2 := by rw [← hv]; simpa using h2
          exact k _ _ (by simp [h2])
        · have h2 : ¬ codeC T c = -2 := by rw [← hv]; simpa using h2
          refine wpAny_allTrue_Or_cons ?_
          refine wpAny_isTrue_BoolOp ?_
          refine wpAny_allTrue_And_cons ?_
          refine wpAny_isTrue_value ?_
          refine Attribute_name ?_
          (rename St _ _ _ _ _ _ => S'); refine r_name S' rfl ?_
          (rename St _ _ _ _ _ _ => S'); (rename Gn _ _ => G'); (rename Ins _ _ _ _ _ => i'); refine' r_attr (S'.gn G') (Ins.le i' (St.kg S')) rfl rfl rfl ?hl ?hv ?_; (case hl => assumption); (case hv => rfl); intro _
          refine wpAny_truthy_bool ?_
          try (refine k _ _ ?_; clear k N)
          refine ite_bool (fun h3 => ?_) (fun h3 => ?_)
          · refine wpAny_allTrue_And_cons ?_
            refine wpAny_isTrue_Compare1 ?_
            (rename St _ _ _ _ _ _ => S'); refine r_name S' rfl ?_
            (rename St _ _ _ _ _ _ => S'); refine r_name S' rfl ?_
            refine eq_int ?_
            refine wpAny_truthy_bool ?_
            try (refine k _ _ ?_; clear k N)
            refine ite_bool (fun h4 => ?_) (fun h4 => ?_)
            · have h4 : codeC T c = r.last := by rw [← hv]; simpa using h4
              refine wpAny_allTrue_And_nil ?_
              exact k _ _ (by simp [h3, h4])
            · have h4 : ¬ codeC T c = r.last := by rw [← hv]; simpa using h4
              try (refine k _ _ ?_; clear k N)
              with_reducible refine ite_ff ?_
              try (refine kr _ ?_; clear kr Rn)
              refine wpAny_allTrue_Or_nil ?_
              exact k _ _ (by simp [h2, h4])
          · try (refine k _ _ ?_; clear k N)
            with_reducible refine ite_ff ?_
            try (refine kr _ ?_; clear kr Rn)
            refine wpAny_allTrue_Or_nil ?_
            exact k _ _ (by simp [h2, h3])
      · intro tk
        refine k _ _ ?_; clear k N
        refine ite_dec (fun h2 => ?_) (fun h2 => ?_)
        · refine wpAny_execs_cons ?_
          refine wpAny_Continue ?_
          rename St _ _ _ _ _ _ => S
          refine hF _ _ _ _ _ S ⟨d, _, rfl, ?_, by rw [hstep, runStep, if_neg h1, if_pos h2]; walk_at "has"⟩
          rw [hstep, runStep, if_neg h1, if_pos h2]
          exact hus
        · refine wpAny_execs_nil ?_
          try (refine kr _ ?_; clear kr Rn)
          rename St _ _ _ _ _ _ => S
          have h3 : 0 ≤ codeC T c ∧ codeC T c ≤ 1114111 := by
            rcases hok with e | e | e
            · exact absurd e h1
            · exact absurd (.inl e) h2
            · exact e
          refine x_appendS S rfl (.head _) ?_; intro N k
          (rename St _ _ _ _ _ _ => S'); (rename Gn _ _ => G'); refine r_cbi1 (S'.gn G') rfl boot_chr ?_
          (rename St _ _ _ _ _ _ => S'); refine r_name S' rfl ?_
          refine r_chr (by (first | exact z265 hv h3 | omega)) (by (first | exact z266 hv h3 | omega)) fun t₃ tk => ?_
          rename St _ _ _ _ _ _ => S
          refine k _ _ ?_; clear k N
          refine r_append S .head (by (first | exact z264 hcs hul hlen zL | omega)) ?_
          clear S
          intro h tk S
          refine x_set ?_; intro N k
          (rename St _ _ _ _ _ _ => S'); refine r_name S' rfl ?_
          refine k _ _ ?_; clear k N
          (rename St _ _ _ _ _ _ => S'); refine r_store S' ?_; clear S'; intro _ _ S
          refine wpAny_execs_nil ?_
          try (refine kr _ ?_; clear kr Rn)
          rename St _ _ _ _ _ _ => S
          refine hF _ _ _ _ _ S ⟨d, _, rfl, ?_, by rw [hstep, runStep, if_neg h1, if_neg h2]; rw [← hv]; walk_at "has"⟩
          rw [hstep, runStep, if_neg h1, if_neg h2]
          rw [← hv]
          simpa using hus.append' (.cons (ch v.toNat) t₃ .nil)
  · clear S T₁
    intro n m fs h tk hp0 S
    refine hide fun q₀ kq => ?_
    obtain ⟨d, us, rfl, hus, t₁, t₂, hm⟩ := hp0
    refine kq ?_; clear kq q₀
    refine kr _ ?_; clear kr Rn
    replace S := S.has hm
    clear hm
    have hsz : (tx cs).cps.size = cs.length := by simp
    rw [hsz, List.take_of_length_le (Nat.le_refl _)] at hus S
    have hlen := runT_len T cs ⟨[], 0, -1⟩
    simp at hlen
    refine x_ret ?_; intro N k
    refine Tuple_ ?_
    refine r_spl ?_
    refine MethodCall_ ?_
    refine r_str ?_; intro _ _
    refine GM.join ?_
    refine PyProof.Rows.callWith_method1 ?_
    refine r_spl ?_
    (rename St _ _ _ _ _ _ => S'); refine r_name S' rfl ?_
    refine r_spl0 ?_
    rename St _ _ _ _ _ _ => S
    refine r_join (Lst.w (S.fAt (.head _))) hus (joinOk_ch _ (by exact Nat.le_trans (by assumption) (Nat.le_trans (by assumption) (by decide)))) fun t₃ tk => ?_
    rw [join_ch]
    refine r_spl ?_
    (rename St _ _ _ _ _ _ => S'); refine r_name S' rfl ?_
    refine r_spl0 ?_
    rename St _ _ _ _ _ _ => S
    refine r_tup S (by simp) ?_
    clear S
    intro dt n' h tk _ hT _ S
    refine k _ _ ?_
    exact hQ _ _ n' _ _ _ hT S.out

/-! trans_signs -/
inductive Rows (p : PM) : List Value → List (Int × Bool) → Prop
  | nil : Rows p [] []
  | cons {a : Addr} {c : Int} {b : Bool} {t : Tok} {vs : List Value} {ps : List (Int × Bool)} : Tup p a [.int c t, .bool b] → Rows p vs ps → Rows p (.ref a :: vs) ((c, b) :: ps)
theorem Rows.le {p q : PM} {vs : List Value} {ps : List (Int × Bool)} (R : Rows p vs ps) (k : Le p q) : Rows q vs ps := by
  induction R with
  | nil => exact .nil
  | cons x _ ih => exact .cons (x.le k) ih
theorem Rows.snoc {p : PM} {vs : List Value} {ps : List (Int × Bool)} {a : Addr} {c : Int} {b : Bool} {t : Tok} (R : Rows p vs ps) (x : Tup p a [.int c t, .bool b]) : Rows p (vs ++ [.ref a]) (ps ++ [(c, b)]) := by
  induction R with
  | nil => exact .cons x .nil
  | cons y _ ih => exact .cons y ih
theorem Rows.length {p : PM} {vs : List Value} {ps : List (Int × Bool)} (R : Rows p vs ps) : vs.length = ps.length := by
  induction R with
  | nil => rfl
  | cons y _ ih => simp [ih]
theorem Rows.get {p : PM} {vs : List Value} {ps : List (Int × Bool)} (R : Rows p vs ps) : ∀ {i : Nat} (_ : i < ps.length), ∃ a t, vs[i]? = some (.ref a) ∧ Tup p a [.int ps[i].1 t, .bool ps[i].2] := by
  induction R with
  | nil => intro i hi; exact absurd hi (Nat.not_lt_zero _)
  | cons y _ ih =>
    intro i hi
    cases i with
    | zero => exact ⟨_, _, rfl, y⟩
    | succ i => obtain ⟨a, t, e, x⟩ := ih (i := i) (by simpa using hi); exact ⟨a, t, by simpa using e, by simpa using x⟩

noncomputable def escC (d : Nat) : Nat := if d = 110 then 10 else d
noncomputable def signsF : List Nat → List (Int × Bool)
  | [] => []
  | [c] => [((c : Int), false)]
  | c :: d :: r => if c = 92 then ((escC d : Int), true) :: signsF r else ((c : Int), false) :: signsF (d :: r)
noncomputable def okE : List Nat → Prop
  | [] => True
  | [_] => True
  | c :: d :: r => if c = 92 then (d = 110 ∨ d = 45 ∨ d = 92) ∧ okE r else okE (d :: r)
theorem signsF_cons (c d : Nat) (r : List Nat) : signsF (c :: d :: r) = if c = 92 then ((escC d : Int), true) :: signsF r else ((c : Int), false) :: signsF (d :: r) := by rw [signsF]
theorem okE_cons (c d : Nat) (r : List Nat) : okE (c :: d :: r) = if c = 92 then (d = 110 ∨ d = 45 ∨ d = 92) ∧ okE r else okE (d :: r) := by rw [okE]
theorem signsF_else (c : Nat) (r : List Nat) (h : ¬ (c = 92 ∧ 1 ≤ r.length)) : signsF (c :: r) = ((c : Int), false) :: signsF r ∧ (okE (c :: r) → okE r) := by
  cases r with
  | nil => exact ⟨by rw [signsF, signsF], fun _ => by rw [okE]; trivial⟩
  | cons d r =>
    have : ¬ c = 92 := fun e => h ⟨e, by simp⟩
    rw [signsF_cons, okE_cons, if_neg this, if_neg this]
    exact ⟨rfl, fun x => x⟩
theorem signsF_len : ∀ cs : List Nat, (signsF cs).length ≤ cs.length
  | [] => by simp [signsF]
  | [c] => by simp [signsF]
  | c :: d :: r => by
    have h1 := signsF_len r
    have h2 := signsF_len (d :: r)
    unfold signsF
    split <;> simp at * <;> (first | exact z158 h1 | exact z81 h2 | omega)

section
variable {prog : Program} {w : World} {A : Around} {E : Value → Shared → Prop} {s : Shared} {h : Heap} {tk : Nat}
theorem r_topIn {a : Addr} {es : Array DictEntry} {k : Nat} {x : Str} {t : Tok} {r : Option Value} {Q : Value → Shared → Prop} (G : Gn w h.get?) (hl : (KK w).lookup a = some ⟨.type "dict", none, .dict es k, #[]⟩) (hk : KeysLit w.params es.toList) (e : nsIn (KK w) a x = some r)
    (lo : (a == sysModules) = false) (hQ : ∀ tk', Q (.bool r.isSome) (mkS s h tk')) : wpAny (model prog w) A (compareOp .In (.str x t) (.ref a)) Q E (mkS s h tk) :=
  wpAny_in_of (s := mkS s h tk) (strKind_is prog w x t) lo (mapOf_K (prog := prog) G.in hl hk) (by rw [find_K hl e]; exact hQ _)
theorem r_topItem {value slice : Expr} {a : Addr} {es : Array DictEntry} {k : Nat} {x : Str} {t : Tok} {v : Value} {Q : Value → Shared → Prop} (G : Gn w h.get?) (hl : (KK w).lookup a = some ⟨.type "dict", none, .dict es k, #[]⟩) (hk : KeysLit w.params es.toList) (e : nsIn (KK w) a x = some (some v))
    (hQ : ∀ tk', Q v (mkS s h tk'))
    (hs : subscripted slice false (.ref a) (.str x t) = operate [.ref a, .str x t] (getItem (.ref a) (.str x t)) := by with_unfolding_all rfl) :
    wpAny (model prog w) A (subscriptTail value slice (.ref a) (.str x t)) Q E (mkS s h tk) :=
  have hm := mapOf_K (prog := prog) G.in hl hk
  tail_any (s := mkS s h tk) hm.typeIs slot_dict_getitem.lookup (wpAny_getItem_of (strKind_is prog w x t) hm (find_K hl e) (hQ _)) hs
end
theorem bar_is : Str.ofString "\\" = ch 92 := by decide

set_option maxHeartbeats 1000000 in
theorem c_signs {prog : Program} {w : World} {A : Around} {E : Value → Shared → Prop} {Q : Value → Shared → Prop} {s : Shared} {h : Heap} {tk : Nat} {cs : List Nat} {tt : Tok}
    (G : Gn w h.get?) (hd : A.depth + 1 < recursionLimit) (hu : A.units + 100 < cLine) (hcs : cs.length ≤ 1000) (hok : okE cs)
    (hQ : ∀ h' tk' N d us, Rows N us (signsF cs) → Lst N d us → Ext h h' N → Q (.ref d) (mkS s h' tk')) :
    wpAny (model prog w) A (call (.ref 82) [.str (tx cs) tt]) Q E (mkS s h tk) := by
  refine enter [(Str.ofString "text", .str (tx cs) tt)] G rfl rfl (by exact dd0 (by assumption)) rfl rfl rfl ?_
  intro L h₁ tk₁ S
  refine x_set ?_; intro N k
  refine List_ ?_
  refine r_spl0 ?_
  (rename St _ _ _ _ _ _ => S'); refine r_newList S' (Nat.zero_le _) ?_; clear S'; intro _ _ _ S
  refine k _ _ ?_; clear k N
  (rename St _ _ _ _ _ _ => S'); refine r_store S' ?_; clear S'; intro _ _ S
  refine x_set ?_; intro N k
  refine r_int ?_; intro _ _
  refine k _ _ ?_; clear k N
  (rename St _ _ _ _ _ _ => S'); refine r_store S' ?_; clear S'; intro _ _ S
  rename St _ _ _ _ _ _ => S
  refine x_while (fun k n m fs => X4 fun (i : Nat) (d : Addr) (us : List Value) (ps : List (Int × Bool)) => N7 (k = cs.length - i) (i ≤ cs.length) (fs = [(d, lstP us)]) (Rows n us ps) (ps ++ signsF (cs.drop i) = signsF cs) (okE (cs.drop i)) (X1 fun t₁ => Has m [(Str.ofString "text", .str (tx cs) tt), (Str.ofString "at", .int i t₁), (Str.ofString "found", .ref d)])) (k₀ := cs.length) S ?_ ?_
  · exact ⟨0, _, [], [], by simp, by simp, rfl, .nil, by simp, by simpa using hok, by walk_at "has"⟩
  · clear S
    intro Rn kr kk n m fs h tk Fn N hF k S hp0
    refine hide fun q₀ kq => ?_
    obtain ⟨i, d, us, ps, rfl, hi, rfl, hR, hps, hoi, t₁, hm⟩ := hp0
    refine kq ?_; clear kq q₀
    replace S := S.has hm
    clear hm
    have hpl : ps.length ≤ 1000 := by
      have := congrArg List.length hps
      have := signsF_len cs
      simp at *
      (first | exact z159 hcs (by assumption) this | omega)
    have hul := hR.length
    have zL : (1000000 : Nat) ≤ sizeLine := by rw [sizeLine_eq]; decide
    refine wpAny_isTrue_Compare1 ?_
    (rename St _ _ _ _ _ _ => S'); refine r_name S' rfl ?_
    (rename St _ _ _ _ _ _ => S'); (rename Gn _ _ => G'); refine r_cbi1 (S'.gn G') rfl boot_len ?_
    (rename St _ _ _ _ _ _ => S'); refine r_name S' rfl ?_
    refine r_slen (by exact Nat.le_trans (by assumption) (by decide)) fun t₂ tk => ?_
    refine lt_int ?_
    refine wpAny_truthy_bool ?_
    try (refine k _ _ ?_; clear k N)
    refine ite_dec (fun hlt => ?_) (fun hlt => ?_)
    · have hlt : i < cs.length := by exact inn (by assumption)
      have hdr : cs.drop i = cs[i] :: cs.drop (i + 1) := List.drop_eq_getElem_cons hlt
      refine x_if ?_; intro Rn kr N k
      rename St _ _ _ _ _ _ => S
      refine cut_test (decide (cs[i] = 92 ∧ i + 1 < cs.length)) ?_ ?_
      · intro N k
        refine wpAny_isTrue_BoolOp ?_
        refine wpAny_allTrue_And_cons ?_
        refine wpAny_isTrue_Compare1 ?_
        refine Subscript_ ?_
        (rename St _ _ _ _ _ _ => S'); refine r_name S' rfl ?_
        (rename St _ _ _ _ _ _ => S'); refine r_name S' rfl ?_
        refine r_sitem (c := cs[i]) rfl (List.getElem?_eq_getElem hlt) (by exact Nat.le_trans (by assumption) (by decide)) fun t₃ tk => ?_
        refine r_str ?_; intro _ _
        refine eq_str ?_
        refine wpAny_truthy_bool ?_
        try (refine k _ _ ?_; clear k N)
        rw [bar_is, ch_eq]
        refine ite_dec (fun h1 => ?_) (fun h1 => ?_)
        · refine wpAny_allTrue_And_cons ?_
          refine wpAny_isTrue_Compare1 ?_
          refine wpAny_BinOp ?_
          (rename St _ _ _ _ _ _ => S'); refine r_name S' rfl ?_
          refine r_int ?_; intro _ _
          refine r_add ?_; intro _ _
          (rename St _ _ _ _ _ _ => S'); (rename Gn _ _ => G'); refine r_cbi1 (S'.gn G') rfl boot_len ?_
          (rename St _ _ _ _ _ _ => S'); refine r_name S' rfl ?_
          refine r_slen (by exact Nat.le_trans (by assumption) (by decide)) fun t₂ tk => ?_
          refine lt_int ?_
          refine wpAny_truthy_bool ?_
          try (refine k _ _ ?_; clear k N)
          refine ite_dec (fun h2 => ?_) (fun h2 => ?_)
          · refine wpAny_allTrue_And_nil ?_
            exact k _ _ (by simp [h1]; (first | exact z160 h2 | omega))
          · skip
            exact k _ _ (by simp; omega)
        · skip
          exact k _ _ (by simp [h1])
      · intro tk
        refine k _ _ ?_; clear k N
        refine ite_dec (fun h1 => ?_) (fun h1 => ?_)
        · obtain ⟨h1, h2⟩ := h1
          have hdr2 : cs.drop (i + 1) = cs[i + 1] :: cs.drop (i + 2) := List.drop_eq_getElem_cons h2
          rw [hdr, hdr2] at hoi hps
          rw [okE_cons, if_pos h1] at hoi
          rw [signsF_cons, if_pos h1] at hps
          refine x_aug ?_; intro N k
          (rename St _ _ _ _ _ _ => S'); refine r_lname S' rfl ?_
          refine r_int ?_; intro _ _
          refine r_iadd ?_; intro _ _
          refine k _ _ ?_; clear k N
          (rename St _ _ _ _ _ _ => S'); refine r_store S' ?_; clear S'; intro _ _ S
          refine x_if ?_; intro Rn kr N k
          rename St _ _ _ _ _ _ => S
          rename Gn _ _ => G
          refine cut_test (decide (cs[i + 1] = 110)) ?_ ?_
          · intro N k
            refine wpAny_isTrue_Compare1 ?_
            refine Subscript_ ?_
            (rename St _ _ _ _ _ _ => S'); refine r_name S' rfl ?_
            (rename St _ _ _ _ _ _ => S'); refine r_name S' rfl ?_
            refine r_sitem (i := i + 1) (c := cs[i + 1]) (by (first | exact z161 | omega)) (List.getElem?_eq_getElem h2) (by exact Nat.le_trans (by assumption) (by decide)) fun t₃ tk => ?_
            (rename St _ _ _ _ _ _ => S'); (rename Gn _ _ => G'); refine r_glob (S'.gn G') rfl ?_
            rename St _ _ _ _ _ _ => S
            rename Gn _ _ => G
            rcases hoi.1 with e | e | e <;> rw [e]
            · refine r_topIn (S.gn G) rfl (by repeat (first | exact True.intro | refine And.intro ⟨_, _, rfl, rfl⟩ ?_)) (r := some (.int 10 _)) rfl rfl fun tk => ?_
              refine wpAny_truthy_bool ?_; exact k _ _ (by simp [e])
            · refine r_topIn (S.gn G) rfl (by repeat (first | exact True.intro | refine And.intro ⟨_, _, rfl, rfl⟩ ?_)) (r := none) rfl rfl fun tk => ?_
              refine wpAny_truthy_bool ?_; exact k _ _ (by simp [e])
            · refine r_topIn (S.gn G) rfl (by repeat (first | exact True.intro | refine And.intro ⟨_, _, rfl, rfl⟩ ?_)) (r := none) rfl rfl fun tk => ?_
              refine wpAny_truthy_bool ?_; exact k _ _ (by simp [e])
          · intro tk
            refine k _ _ ?_; clear k N
            refine ite_dec (fun h3 => ?_) (fun h3 => ?_)
            · rename St _ _ _ _ _ _ => S
              refine x_appendS S rfl (.head _) ?_; intro N k
              refine Tuple_ ?_
              refine r_spl ?_
              refine Subscript_ ?_
              (rename St _ _ _ _ _ _ => S'); (rename Gn _ _ => G'); refine r_glob (S'.gn G') rfl ?_
              refine Subscript_ ?_
              (rename St _ _ _ _ _ _ => S'); refine r_name S' rfl ?_
              (rename St _ _ _ _ _ _ => S'); refine r_name S' rfl ?_
              refine r_sitem (i := i + 1) (c := 110) (by (first | exact z161 | omega)) (by rw [List.getElem?_eq_getElem h2, h3]) (by exact Nat.le_trans (by assumption) (by decide)) fun t₃ tk => ?_
              rename St _ _ _ _ _ _ => S
              rename Gn _ _ => G
              refine r_topItem (S.gn G) rfl (by repeat (first | exact True.intro | refine And.intro ⟨_, _, rfl, rfl⟩ ?_)) (v := .int 10 _) rfl fun tk => ?_
              refine r_spl ?_
              refine wpAny_Constant_bool ?_
              refine r_spl0 ?_
              rename St _ _ _ _ _ _ => S
              refine r_tup S (by simp) ?_
              clear S
              intro dt n' h tk hn hT _ S
              refine k _ _ ?_; clear k N
              refine r_append S .head (by exact eqle (by assumption) (Nat.le_trans (by assumption) (by decide))) ?_
              clear S
              intro h tk S
              refine wpAny_execs_nil ?_
              try (refine kr _ ?_; clear kr Rn)
              refine wpAny_execs_nil ?_
              try (refine kr _ ?_; clear kr Rn)
              refine x_aug ?_; intro N k
              (rename St _ _ _ _ _ _ => S'); refine r_lname S' rfl ?_
              refine r_int ?_; intro _ _
              refine r_iadd ?_; intro _ _
              refine k _ _ ?_; clear k N
              (rename St _ _ _ _ _ _ => S'); refine r_store S' ?_; clear S'; intro _ _ S
              refine wpAny_execs_nil ?_
              try (refine kr _ ?_; clear kr Rn)
              rename St _ _ _ _ _ _ => S
              refine hF _ _ _ _ _ _ S ⟨i + 2, d, _, _, rfl, h2, rfl, (hR.le hn).snoc hT, ?_, hoi.2, by walk_at "has"⟩ (by (first | exact z162 hlt | omega))
              rw [← hps, h3, List.append_assoc]; rfl
            · rename St _ _ _ _ _ _ => S
              refine x_appendS S rfl (.head _) ?_; intro N k
              refine Tuple_ ?_
              refine r_spl ?_
              (rename St _ _ _ _ _ _ => S'); (rename Gn _ _ => G'); refine r_cbi1 (S'.gn G') rfl boot_ord ?_
              refine Subscript_ ?_
              (rename St _ _ _ _ _ _ => S'); refine r_name S' rfl ?_
              (rename St _ _ _ _ _ _ => S'); refine r_name S' rfl ?_
              refine r_sitem (i := i + 1) (c := cs[i + 1]) (by (first | exact z161 | omega)) (List.getElem?_eq_getElem h2) (by exact Nat.le_trans (by assumption) (by decide)) fun t₃ tk => ?_
              refine r_ord ?_; intro _ _
              refine r_spl ?_
              refine wpAny_Constant_bool ?_
              refine r_spl0 ?_
              rename St _ _ _ _ _ _ => S
              refine r_tup S (by simp) ?_
              clear S
              intro dt n' h tk hn hT _ S
              refine k _ _ ?_; clear k N
              refine r_append S .head (by exact eqle (by assumption) (Nat.le_trans (by assumption) (by decide))) ?_
              clear S
              intro h tk S
              refine wpAny_execs_nil ?_
              try (refine kr _ ?_; clear kr Rn)
              refine wpAny_execs_nil ?_
              try (refine kr _ ?_; clear kr Rn)
              refine x_aug ?_; intro N k
              (rename St _ _ _ _ _ _ => S'); refine r_lname S' rfl ?_
              refine r_int ?_; intro _ _
              refine r_iadd ?_; intro _ _
              refine k _ _ ?_; clear k N
              (rename St _ _ _ _ _ _ => S'); refine r_store S' ?_; clear S'; intro _ _ S
              refine wpAny_execs_nil ?_
              try (refine kr _ ?_; clear kr Rn)
              rename St _ _ _ _ _ _ => S
              refine hF _ _ _ _ _ _ S ⟨i + 2, d, _, _, rfl, h2, rfl, (hR.le hn).snoc hT, ?_, hoi.2, by walk_at "has"⟩ (by (first | exact z162 hlt | omega))
              rw [← hps, escC, if_neg h3, List.append_assoc]; rfl
        · have hs := signsF_else cs[i] (cs.drop (i + 1)) (by simpa using fun e => (by have : ¬ (i + 1 < cs.length) := fun x => h1 ⟨e, x⟩; (first | exact z163 this | omega)))
          rw [hdr] at hoi hps
          rw [hs.1] at hps
          rename St _ _ _ _ _ _ => S
          refine x_appendS S rfl (.head _) ?_; intro N k
          refine Tuple_ ?_
          refine r_spl ?_
          (rename St _ _ _ _ _ _ => S'); (rename Gn _ _ => G'); refine r_cbi1 (S'.gn G') rfl boot_ord ?_
          refine Subscript_ ?_
          (rename St _ _ _ _ _ _ => S'); refine r_name S' rfl ?_
          (rename St _ _ _ _ _ _ => S'); refine r_name S' rfl ?_
          refine r_sitem (c := cs[i]) rfl (List.getElem?_eq_getElem hlt) (by exact Nat.le_trans (by assumption) (by decide)) fun t₃ tk => ?_
          refine r_ord ?_; intro _ _
          refine r_spl ?_
          refine wpAny_Constant_bool ?_
          refine r_spl0 ?_
          rename St _ _ _ _ _ _ => S
          refine r_tup S (by simp) ?_
          clear S
          intro dt n' h tk hn hT _ S
          refine k _ _ ?_; clear k N
          refine r_append S .head (by exact eqle (by assumption) (Nat.le_trans (by assumption) (by decide))) ?_
          clear S
          intro h tk S
          refine wpAny_execs_nil ?_
          try (refine kr _ ?_; clear kr Rn)
          refine x_aug ?_; intro N k
          (rename St _ _ _ _ _ _ => S'); refine r_lname S' rfl ?_
          refine r_int ?_; intro _ _
          refine r_iadd ?_; intro _ _
          refine k _ _ ?_; clear k N
          (rename St _ _ _ _ _ _ => S'); refine r_store S' ?_; clear S'; intro _ _ S
          refine wpAny_execs_nil ?_
          try (refine kr _ ?_; clear kr Rn)
          rename St _ _ _ _ _ _ => S
          refine hF _ _ _ _ _ _ S ⟨i + 1, d, _, _, rfl, hlt, rfl, (hR.le hn).snoc hT, ?_, hs.2 hoi, by walk_at "has"⟩ (by exact msr (by assumption))
          rw [← hps, List.append_assoc]; rfl
    · refine kr _ ?_; clear kr Rn
      refine x_ret ?_; intro N k
      (rename St _ _ _ _ _ _ => S'); refine r_name S' rfl ?_
      rename St _ _ _ _ _ _ => S
      refine S.freeze' ?_; intro N hn hN S
      have : ps = signsF cs := by
        rw [List.drop_eq_nil_of_le (by (first | exact z164 hlt | omega))] at hps
        simpa [signsF] using hps
      refine k _ _ ?_
      exact hQ _ _ N _ _ (this ▸ hR.le hn) hN S.out

/-! Die.__init__, PerlError.__init__ -/
theorem Exc.out {g₀ : PM} {h h' : Heap} {L L₀ e : Addr} {mA : Str → Option Value} (X : Exc (less h [e]) L h' e mA) (k : Le g₀ h.get?) (he : g₀ e = none) (hL : ∃ o, h.get? L₀ = some o) (hne : e ≠ L₀) : Exc g₀ L₀ h' e mA := by
  obtain ⟨⟨o, vs, a0, x1, x2, x3, x4, x5, x6⟩, _, _⟩ := X
  refine ⟨⟨o, vs, a0, x1, x2, x3, x4, x5, ?_⟩, he, hne⟩
  rcases x6 with z | ⟨d, z1, z2, z3, z4, z5⟩
  · exact .inl z
  · have hd : h.get? d = none := by
      cases q : h.get? d with
      | none => rfl
      | some o => rw [less_of (as := [e]) (by simpa using z2) q] at z3; cases z3
    refine .inr ⟨d, z1, z2, ?_, fun q => ?_, z5⟩
    · cases q : g₀ d with
      | none => rfl
      | some o => rw [k _ _ q] at hd; cases hd
    · obtain ⟨o, y⟩ := hL; rw [← q, hd] at y; cases y
theorem Exc.keep {g : PM} {h h' : Heap} {L e : Addr} {mA : Str → Option Value} (X : Exc g L h e mA) (k : ∀ b o, b ≠ L → h.get? b = some o → h'.get? b = some o) : Exc g L h' e mA := by
  obtain ⟨⟨o, vs, a0, x1, x2, x3, x4, x5, x6⟩, y, z⟩ := X
  refine ⟨⟨o, vs, a0, k _ _ z x1, x2, x3, x4, x5, ?_⟩, y, z⟩
  rcases x6 with z | ⟨d, z1, z2, z3, z4, b, es, ep, z5, z6⟩
  · exact .inl z
  · exact .inr ⟨d, z1, z2, z3, z4, b, es, ep, k _ _ z4 z5, z6⟩

set_option maxHeartbeats 1000000 in
theorem c_perl {prog : Program} {w : World} {A : Around} {E : Value → Shared → Prop} {Q : Value → Shared → Prop} {s : Shared} {h : Heap} {tk : Nat} {g₀ : PM} {e : Addr} {x : Str} {tx : Tok} {o : Obj} {vs : Array Value} {a0 : Addr}
    (G : Gn w g₀) (k₀ : Le g₀ h.get?) (hg : g₀ e = none) (hd : A.depth < recursionLimit) (he : h.get? e = some o) (hc : o.cls = .ref 51) (hdt : o.data = .fields vs) (h0 : vs[0]? = some (.ref a0)) (h1 : vs[1]? = some .none) (hn : o.dict = none)
    (hQ : ∀ h' tk' L mA ns, Le (less h [e]) h'.get? → Exc (less h [e]) L h' e mA → PySem.Within mA ns → ns.length < 3 → Q .none (mkS s h' tk')) :
    wpAny (model prog w) A (call (.ref 28) [.ref e, .str x tx]) Q E (mkS s h tk) := by
  refine enter [(Str.ofString "self", .ref e), (Str.ofString "text", .str x tx)] (G.le k₀) rfl rfl hd rfl rfl rfl ?_
  intro L h₁ tk₁ S
  have hLe : e ≠ L := fun q => by have := S.gL; rw [← q, he] at this; cases this
  have hle : Le g₀ (less h [e]) := fun b o q => less_of (by simp; intro z; rw [z, hg] at q; cases q) (k₀ _ _ q)
  have X : Exc (less h [e]) L h₁ e (fun _ => none) := ⟨⟨o, vs, a0, S.kg _ _ he, hc, hdt, h0, h1, .inl ⟨hn, fun _ => rfl⟩⟩, less_no (by simp), hLe⟩
  replace S := S.less (less_le (h := h) (as := [e]))
  replace G := G.le hle
  clear he k₀ hle hg
  refine wpAny_execs_cons ?_
  refine wpAny_Expr ?_ rfl rfl
  refine MethodCall_ (r_bi (S.gn G) rfl PyProof.Rows.Boot.«Exception» (exc_meth (S.gn G) fun tk => ?_)) rfl
  refine PyProof.Rows.callWith_method1 ?_
  refine r_spl ?_
  (rename St _ _ _ _ _ _ => S'); refine r_name S' rfl ?_
  refine r_spl ?_
  (rename St _ _ _ _ _ _ => S'); refine r_name S' rfl ?_
  refine r_spl0 ?_
  rename St _ _ _ _ _ _ => S
  refine exc_init S (S.gn G) X ?_
  clear S X
  intro h S X
  dsimp only
  refine wpAny_execs_cons (plainObj_wpAny_Assign_Attribute ?_)
  (rename St _ _ _ _ _ _ => S'); refine r_name S' rfl ?_
  (rename St _ _ _ _ _ _ => S'); refine r_name S' rfl ?_
  rename St _ _ _ _ _ _ => S
  refine exc_set S (S.gn G) X rfl Within.nil (by simp) ?_
  clear S X
  intro h tk S X
  refine wpAny_execs_nil ?_
  try (refine kr _ ?_; clear kr Rn)
  exact hQ _ _ L _ _ S.kg X (Within.cons _ _ Within.nil) (by simp)

set_option maxHeartbeats 1000000 in
theorem c_dieinit {prog : Program} {w : World} {A : Around} {E : Value → Shared → Prop} {Q : Value → Shared → Prop} {s : Shared} {h : Heap} {tk : Nat} {g₀ : PM} {e : Addr} {v : Value} {o : Obj} {vs : Array Value} {a0 : Addr}
    (G : Gn w g₀) (k₀ : Le g₀ h.get?) (hg : g₀ e = none) (hd : A.depth + 1 < recursionLimit) (he : h.get? e = some o) (hc : o.cls = .ref 51) (hdt : o.data = .fields vs) (h0 : vs[0]? = some (.ref a0)) (h1 : vs[1]? = some .none) (hn : o.dict = none)
    (hQ : ∀ h' tk' L mA, Le (less h [e]) h'.get? → Exc (less h [e]) L h' e mA → Q .none (mkS s h' tk')) :
    wpAny (model prog w) A (call (.ref 48) [.ref e, v]) Q E (mkS s h tk) := by
  refine enter [(Str.ofString "self", .ref e), (Str.ofString "value", v)] (G.le k₀) rfl rfl (by exact dd0 (by assumption)) rfl rfl rfl ?_
  intro L h₁ tk₁ S
  have hLe : e ≠ L := fun q => by have := S.gL; rw [← q, he] at this; cases this
  have hle : Le g₀ (less h [e]) := fun b o q => less_of (by simp; intro z; rw [z, hg] at q; cases q) (k₀ _ _ q)
  have he₁ := S.kg _ _ he
  replace S := S.less (less_le (h := h) (as := [e]))
  have hge : less h [e] e = none := less_no (by simp)
  replace G := G.le hle
  clear he k₀ hle hg
  refine wpAny_execs_cons ?_
  refine wpAny_Expr ?_ rfl rfl
  refine MethodCall_ (r_glob (v := .ref 31) (S.gn G) rfl (perl_meth (S.gn G) fun tk => ?_)) rfl
  refine callWith_K (h₀ := h₁) (S.gn G).in rfl ?_
  refine r_spl ?_
  (rename St _ _ _ _ _ _ => S'); refine r_name S' rfl ?_
  refine r_spl ?_
  refine r_str ?_; intro _ _
  refine r_spl0 ?_
  (rename St _ _ _ _ _ _ => S'); (rename Gn _ _ => G'); refine And.intro (S'.gn G').in ?_
  rename St _ _ _ _ _ _ => S
  rename Gn _ _ => G
  refine c_perl G S.kg hge (by exact dp0 (by assumption) (by decide)) he₁ hc hdt h0 h1 hn ?_
  intro h₂ tk L' mA ns k X hw hns
  have X := X.out S.kg hge S.Lin hLe
  have S := S.upd0 (e := e) (fun b o hb q => k _ _ (less_of (by simpa using hb) q)) hge hLe
  dsimp only
  refine wpAny_execs_cons (plainObj_wpAny_Assign_Attribute ?_)
  (rename St _ _ _ _ _ _ => S'); refine r_name S' rfl ?_
  (rename St _ _ _ _ _ _ => S'); refine r_name S' rfl ?_
  rename St _ _ _ _ _ _ => S
  rename Gn _ _ => G
  refine exc_set S (S.gn G) X rfl hw (by (first | exact z22 hns | omega)) ?_
  clear S X
  intro h tk S X
  refine wpAny_execs_nil ?_
  try (refine kr _ ?_; clear kr Rn)
  exact hQ _ _ L _ S.kg X

set_option maxHeartbeats 1000000 in
theorem x_raise_die {prog : Program} {w : World} {A : Around} {E : Value → Shared → Prop} {Q : Flow → Shared → Prop} {s : Shared} {env : Env} {g n : PM} {h : Heap} {L : Addr} {m : Str → Option Value} {fs : Fs} {tk : Nat} {x : Str} {k : Nat} {p1 p2 p3 p4 : Pos}
    (S : St g n h L m fs) (G : Gn w h.get?) (hh : A.handled = none) (hd : A.depth + 3 < recursionLimit)
    (hE : ∀ h' tk' e, DieAt h h' e → E (.ref e) (mkS s h' tk'))
    (hg : env.globals = mainGlobals := by rfl) (hk : env.scope.kind = .function := by rfl) (hx : env.kindOf "Die" = some .globalImplicit := by rfl) :
    wpAny (model prog w) A (exec (.Raise (some (.Call (.Name "Die" p1) [.Constant (.str x) k p2] [] p3)) none p4) env) Q E (mkS s h tk) := by
  have zL : (1 : Nat) ≤ sizeLine := by rw [sizeLine_eq]; decide
  show wpAny (model prog w) A (do standAt p4; raiseStmt env (some (do let v ← eval (.Call (.Name "Die" p1) [.Constant (.str x) k p2] [] p3) env; standAt p4; pure v)) none) Q E _
  refine wpAny_bind (wpAny_standAt ?_)
  unfold raiseStmt
  dsimp only
  refine wpAny_bind (wpAny_bind ?_)
  refine Call_ (r_glob (v := .ref 51) G rfl ?_ hg hk hx)
  refine callWith_K (h₀ := h) G.in rfl ?_
  refine r_spl ?_
  refine wpAny_Constant_str ?_
  refine r_spl0 ?_
  refine ⟨G.in, ?_⟩
  refine die_call G (by simpa using zL) fun h₁ e M => ?_
  obtain ⟨k1, new, t, he, ht, _⟩ := M
  refine c_dieinit (s := mkS s h₁ (tk + 1)) G k1 new ?_ he rfl rfl rfl rfl rfl ?_
  · rw [depth_under_kw]; (first | exact z23 hd | omega)
  intro h₂ tk₂ L' mA k2 X
  have kk : Le h.get? h₂.get? := fun b o q => k2 _ _ (less_of (by simp; intro z; rw [z, new] at q; cases q) (k1 _ _ q))
  have D : DieAt h h₂ e := by
    obtain ⟨⟨o, vs, a0, x1, x2, x3, x4, x5, _⟩, _, _⟩ := X
    exact ⟨kk, new, o, vs, .ref a0, x1, x2, x3, x4, x5⟩
  refine ⟨rfl, ?_⟩
  have G₂ := G.le kk
  have T : Looks (model prog w) h₂ (typeOf (.ref e)) (.ref 51) := X.type
  obtain ⟨⟨o, vs, a0, x1, x2, x3, x4, x5, _⟩, _, _⟩ := X
  have hnt : ∀ {A : Around} {Q' : Bool → Shared → Prop} {E : Value → Shared → Prop} {tk : Nat}, Q' false (mkS s h₂ tk) → wpAny (model prog w) A (isType (.ref e)) Q' E (mkS s h₂ tk) := by
    intro A Q' E tk hq
    simp only [isType, loadHead]
    refine wpAny_bind (wpAny_loadPart (s := mkS s h₂ tk) x1 ?_)
    rw [x3]; exact wpAny_pure hq
  refine wpAny_bind (wpAny_standAt (wpAny_pure (wpAny_bind (wpAny_pure ?_))))
  dsimp only
  refine wpAny_bind (wpAny_holding ?_)
  unfold excFromValue isExcClass
  refine wpAny_bind (wpAny_bind (hnt ?_))
  simp only [Bool.false_eq_true, if_false]
  refine wpAny_pure ?_
  simp only [Bool.false_eq_true, if_false]
  refine wpAny_bind (Looks.here (s := mkS s h₂ tk₂) (r := true) (T.andThen (looks_subIn G₂.in rfl)) ?_)
  simp only [if_true]
  refine wpAny_pure ?_
  refine wpAny_bind (hnt ?_)
  simp only [Bool.false_eq_true, if_false]
  unfold raisedInstance
  refine wpAny_bind (wpAny_bind (Looks.here (s := mkS s h₂ tk₂) T (wpAny_bind (Looks.here (s := mkS s h₂ tk₂) (looks_typeIn G₂.in (t := .type "type") rfl) ?_))))
  rw [if_pos (by decide)]
  refine wpAny_pure ?_
  unfold setFlight
  refine wpAny_bind (wpAny_bind (wpAny_field (s := mkS s h₂ tk₂) x1 x3 x5 ?_))
  rw [if_neg (by decide)]
  exact wpAny_pure (wpAny_raiseNew_none hh (hE _ _ _ D))

/-! TransTable(..) -/
noncomputable def TblEs (es : List DictEntry) (v1 v2 v3 v4 v5 v6 : Value) : Prop :=
  getL "codes" es = some (some v1) ∧ getL "is_turned" es = some (some v2) ∧ getL "barred" es = some (some v3) ∧ getL "becomes" es = some (some v4) ∧ getL "is_deleting" es = some (some v5) ∧ getL "is_squeezing" es = some (some v6)

set_option maxHeartbeats 2000000 in
theorem c_tinit {prog : Program} {w : World} {A : Around} {R : Result → Shared → Prop} {s : Shared} {h : Heap} {tk : Nat} {g₀ : PM} {x dx : Addr} {v1 v2 v3 v4 v5 v6 : Value} {k : Nat}
    (G : Gn w g₀) (k₀ : Le g₀ h.get?) (hg : g₀ dx = none) (hd : A.depth < recursionLimit) (hx : h.get? x = some (instObj 71 dx)) (hdx : h.get? dx = some (dictOf [] k)) (hxd : x ≠ dx)
    (hR : ∀ h' tk' es k', Le (less h [dx]) h'.get? → h'.get? x = some (instObj 71 dx) → h'.get? dx = some (dictOf es k') → TblEs es v1 v2 v3 v4 v5 v6 → R (.ok (.ret .none)) (mkS s h' tk')) :
    codeAny (model prog w) A (.call (.ref 68) ⟨[.ref x, v1, v2, v3, v4, v5, v6], []⟩) R (mkS s h tk) := by
  refine enterR [(Str.ofString "self", .ref x), (Str.ofString "codes", v1), (Str.ofString "is_turned", v2), (Str.ofString "barred", v3), (Str.ofString "becomes", v4), (Str.ofString "is_deleting", v5), (Str.ofString "is_squeezing", v6)] (G.le k₀) rfl rfl hd rfl rfl rfl ?_
  intro L h₁ tk₁ S
  have hxL : x ≠ L := fun q => by have := S.gL; rw [← q, hx] at this; cases this
  have hdL : dx ≠ L := fun q => by have := S.gL; rw [← q, hdx] at this; cases this
  have hle : Le g₀ (less h [dx]) := fun b o q => less_of (by simp; intro z; rw [z, hg] at q; cases q) (k₀ _ _ q)
  have I : Inst1 (less h [dx]) L h₁ x dx [] k := ⟨S.kg _ _ hx, S.kg _ _ hdx, less_no (by simp), hdL, hxL, hxd⟩
  replace S := S.less (less_le (h := h) (as := [dx]))
  replace G := G.le hle
  clear hx hdx k₀ hle hg
  iterate 6
    refine wpAny_execs_cons (plainObj_wpAny_Assign_Attribute ?_)
    (rename St _ _ _ _ _ _ => S'); refine r_name S' rfl ?_
    (rename St _ _ _ _ _ _ => S'); refine r_name S' rfl ?_
    rename St _ _ _ _ _ _ => S
    rename Gn _ _ => G
    refine inst_set S (S.gn G) I rfl rfl (Nat.le_of_ble_eq_true rfl) ?_
    clear S I
    intro h tk tn S I
  refine wpAny_execs_nil ?_
  try (refine kr _ ?_; clear kr Rn)
  rename St _ _ _ _ _ _ => S
  exact hR _ _ _ _ S.kg I.i I.d ⟨rfl, rfl, rfl, rfl, rfl, rfl⟩

theorem St.new2 {g n : PM} {h h' : Heap} {L : Addr} {m : Str → Option Value} {fs : Fs} (S : St g n h L m fs) {a b : Addr} {oa ob : Obj} (k : Le h.get? h'.get?) (ha : h.get? a = none) (hb : h.get? b = none) (ea : h'.get? a = some oa) (eb : h'.get? b = some ob) :
    ∃ n', Le n n' ∧ n' a = some oa ∧ n' b = some ob ∧ St g n' h' L m fs := by
  obtain ⟨n', q1, q2, q3⟩ := S.absorb (N := fun c => if c = a then some oa else if c = b then some ob else none) ⟨k, fun c o e => by
      by_cases z : c = a
      · subst z; simp at e; subst e; exact ea
      · by_cases z' : c = b
        · subst z'; simp [z] at e; subst e; exact eb
        · simp [z, z'] at e, fun c o e => by
      by_cases z : c = a
      · subst z; exact ha
      · by_cases z' : c = b
        · subst z'; exact hb
        · simp [z, z'] at e⟩
  refine ⟨n', q1, q2 _ _ (by simp), ?_, q3⟩
  by_cases z : b = a
  · subst z
    rw [ea] at eb; cases eb
    exact q2 _ _ (by simp)
  · exact q2 _ _ (by simp [z])

set_option maxHeartbeats 2000000 in
theorem c_tbl {prog : Program} {w : World} {A : Around} {E : Value → Shared → Prop} {Q : Value → Shared → Prop} {s : Shared} {g n : PM} {h : Heap} {L : Addr} {m : Str → Option Value} {fs : Fs} {tk : Nat} {T : Tbl} {cd b c : Addr} {bs cs : List Value}
    (S : St g n h L m fs) (G : Gn w h.get?) (hd : A.depth + 1 < recursionLimit) (h1 : At n cd (dP prog w T.codes)) (h2 : (cd == sysModules) = false) (h3 : Lst n b bs) (h4 : IntsAre bs T.barred) (h5 : Lst n c cs) (h6 : IntsAre cs T.becomes)
    (hQ : ∀ h' tk' x n', St g n' h' L m fs → Le n n' → IsTbl prog w n' x T → Q (.ref x) (mkS s h' tk')) :
    wpAny (model prog w) A (call (.ref 71) [.ref cd, .bool T.turned, .ref b, .ref c, .bool T.del, .bool T.sq]) Q E (mkS s h tk) := by
  refine wpAny_call (make_core (init := .ref 68) (makes_of G.in rfl) (looks_findIn G.in rfl) (fun self => bind_fn G.in self rfl) (.inl rfl) ?_)
  have k : Le h.get? ((h.push emptyDict).push (instObj 71 h.objs.size)).get? := fun b o e => Heap.get?_push_of_some _ (Heap.get?_push_of_some _ e)
  have hx : ((h.push emptyDict).push (instObj 71 h.objs.size)).get? (h.objs.size + 1) = some (instObj 71 h.objs.size) := by heap_get
  have hdx : ((h.push emptyDict).push (instObj 71 h.objs.size)).get? h.objs.size = some (dictOf [] 0) := by heap_get
  have fx : h.get? (h.objs.size + 1) = none := Heap.get?_none_of_le (Nat.le_succ _)
  refine c_tinit (s := s) (h := (h.push emptyDict).push (instObj 71 h.objs.size)) (tk := tk) G k (fresh_size h) (by rw [depth_under_kw]; assumption) hx hdx (Nat.succ_ne_self _) ?_
  intro h' tk' es k' kk ex ed ht
  have kh : Le h.get? h'.get? := fun b o q => kk _ _ (less_of (by simp; intro z; rw [z, fresh_size] at q; cases q) (k _ _ q))
  refine ⟨rfl, ?_⟩
  obtain ⟨n', q1, q2, q3, S'⟩ := S.new2 kh fx (fresh_size h) ex ed
  obtain ⟨t1, t2, t3, t4, t5, t6⟩ := ht
  exact hQ h' tk' _ n' S' q1 ⟨_, es, cd, b, c, bs, cs, ⟨⟨_, q2, rfl⟩, ⟨_, q3, k', rfl⟩⟩, t1, t2, t3, t4, t5, t6, h1.le q1, h2, h3.le q1, h4, h5.le q1, h6⟩

/-! trans_codes -/
noncomputable def rangeI (a b : Int) : List Int := (List.range (b + 1 - a).toNat).map fun (i : Nat) => a + i
theorem rangeI_length (a b : Int) : (rangeI a b).length = (b + 1 - a).toNat := by simp [rangeI]
theorem rangeI_get {a b : Int} {i : Nat} (h : i < (b + 1 - a).toNat) : (rangeI a b)[i]'(by rw [rangeI_length]; exact h) = a + i := by simp [rangeI]
theorem rangeI_take {a b : Int} {i : Nat} (h : i < (b + 1 - a).toNat) : (rangeI a b).take (i + 1) = (rangeI a b).take i ++ [a + (i : Int)] := by
  rw [List.take_add_one, List.getElem?_eq_getElem (by rw [rangeI_length]; exact h), rangeI_get h]; rfl
noncomputable def codesF : List (Int × Bool) → Option (List Int)
  | [] => some []
  | [p] => some (rangeI p.1 p.1)
  | [p, q] => some (rangeI p.1 p.1 ++ rangeI q.1 q.1)
  | p :: q :: r :: t => if q = (45, false) then (if r.1 < p.1 then none else (codesF t).map (rangeI p.1 r.1 ++ ·)) else (codesF (q :: r :: t)).map (rangeI p.1 p.1 ++ ·)
theorem codesF_one (p : Int × Bool) (l : List (Int × Bool)) (h : ¬ (2 ≤ l.length ∧ l[0]? = some (45, false))) : codesF (p :: l) = (codesF l).map (rangeI p.1 p.1 ++ ·) := by
  match l with
  | [] => simp [codesF]
  | [q] => simp [codesF]
  | q :: r :: t =>
    rw [codesF, if_neg (fun z => h ⟨by simp, by simp [z]⟩)]
theorem codesF_three (p r : Int × Bool) (t : List (Int × Bool)) : codesF (p :: (45, false) :: r :: t) = if r.1 < p.1 then none else (codesF t).map (rangeI p.1 r.1 ++ ·) := by
  rw [codesF, if_pos rfl]

theorem cut_next {M : Model} {A : Around} {E : Value → Shared → Prop} {s : Shared} {t : Sem Flow} {Q : Flow → Shared → Prop} (P : Shared → Prop) (h1 : ∀ R : Shared → Prop, (∀ s₂, P s₂ → R s₂) → wpAny M A t (nx R fun _ _ => False) E s) (h2 : ∀ s₂, P s₂ → Q .next s₂) : wpAny M A t Q E s :=
  wpAny_mono (h1 P fun _ x => x) (fun f s₂ e => by cases f <;> first | exact h2 _ e | exact e.elim) fun _ _ e => e
theorem frames_deeper' {A : Around} {outer : List Env} {env : Env} (h : A.frames = some outer) : (A.deeper env).frames = some (env :: outer) := Around.frames_deeper h

theorem cut_testS {M : Model} {A : Around} {E : Value → Shared → Prop} {s : Shared} {g : PM} {n : PM} {h : Heap} {L : Addr} {m : Str → Option Value} {fs : Fs} {tk : Nat} {t : Sem Bool} {Q : Bool → Shared → Prop} (S : St g n h L m fs) (b₀ : Bool)
    (h1 : ∀ N : Bool → Shared → Prop, (∀ b n' h' tk', b = b₀ → St g n' h' L m fs → N b (mkS s h' tk')) → wpAny M A t N E (mkS s h tk)) (h2 : ∀ n' h' tk', St g n' h' L m fs → Q b₀ (mkS s h' tk')) :
    wpAny M A t Q E (mkS s h tk) := h1 Q fun b n' h' tk' e S => e ▸ h2 _ _ _ S
theorem St.rise {g n : PM} {h : Heap} {L : Addr} {m : Str → Option Value} {fs : Fs} (S : St g n h L m fs) : ∃ g', Le g g' ∧ Le n g' ∧ St g' PM0 h L m fs := by
  have S0 : St g PM0 h L m fs := { S with kn := (fun _ _ e => nomatch e), nL := rfl, dj := (fun _ _ e => nomatch e), fx := fun p hp => let z := S.fx p hp; ⟨z.1, z.2.1, z.2.2.1, rfl⟩ }
  refine ⟨_, fun b o e => ?_, fun b o e => ?_, S0.hold (q := n) S.kn S.nL (fun _ _ _ => rfl) fun p hp => (S.fx p hp).2.2.2⟩
  · simp [e]
  · have := S.dj b o e
    simp [this, e]

theorem St.rise' {g n : PM} {h : Heap} {L : Addr} {m : Str → Option Value} {fs : Fs} (S : St g n h L m fs) {p : Prop} (k : ∀ g', Le g g' → Le n g' → St g' PM0 h L m fs → p) : p := let ⟨g', a, b, c⟩ := S.rise; k g' a b c

set_option maxHeartbeats 2000000 in
theorem c_codes {prog : Program} {w : World} {A : Around} {E : Value → Shared → Prop} {Q : Value → Shared → Prop} {s : Shared} {h : Heap} {tk : Nat} {cs : List Nat} {tt tm : Tok} {outer : List Env}
    (hA : A.frames = some outer) (F : Frs h outer) (G : Gn w h.get?) (hd : A.depth + 10 < recursionLimit) (hu : A.units + 200 < cLine) (hh : A.handled = none) (hcs : cs.length ≤ 20) (hok : okE cs) (hb : ∀ p ∈ signsF cs, 0 ≤ p.1 ∧ p.1 ≤ 122)
    (hQ : ∀ h' tk' N d us ns, codesF (signsF cs) = some ns → IntsAre us ns → Lst N d us → Ext h h' N → Q (.ref d) (mkS s h' tk'))
    (hE : codesF (signsF cs) = none → ∀ h' tk' e, Raised h outer e h' → E (.ref e) (mkS s h' tk')) :
    wpAny (model prog w) A (call (.ref 89) [.str (tx cs) tt, .int 1000 tm]) Q E (mkS s h tk) := by
  refine enterE [(Str.ofString "text", .str (tx cs) tt), (Str.ofString "most", .int 1000 tm)] G rfl rfl (by exact dd0 (by assumption)) rfl rfl rfl ?_
  intro L h₁ tk₁ hL₀ S
  have hlS := signsF_len cs
  refine x_set ?_; intro N k
  (rename St _ _ _ _ _ _ => S'); (rename Gn _ _ => G'); refine r_cdef (S'.gn G') rfl rfl ?_
  refine r_spl ?_
  (rename St _ _ _ _ _ _ => S'); refine r_name S' rfl ?_
  refine r_spl0 ?_
  (rename St _ _ _ _ _ _ => S'); (rename Gn _ _ => G'); refine And.intro (S'.gn G').in ?_
  rename St _ _ _ _ _ _ => S
  rename Gn _ _ => G
  refine c_signs (S.gn G) (by exact dp (by assumption) (by decide)) (by exact un (by assumption) (by decide)) (by exact Nat.le_trans (by assumption) (by decide)) hok ?_
  intro h₂ tk N b vs hR hl X
  refine S.absorb' X ?_; intro n₂ _ hN S
  replace hR := hR.le hN
  replace hl := Lst.w (hl.le hN)
  clear X hN
  refine S.rise' ?_; intro g₁ hg₁ hgN S
  replace hR := hR.le hgN
  replace hl := hl.le hgN
  clear hgN
  have G₁ := G.le hg₁
  have hvl := hR.length
  refine k _ _ ?_; clear k N
  (rename St _ _ _ _ _ _ => S'); refine r_store S' ?_; clear S'; intro _ _ S
  refine x_set ?_; intro N k
  refine List_ ?_
  refine r_spl0 ?_
  (rename St _ _ _ _ _ _ => S'); refine r_newList S' (Nat.zero_le _) ?_; clear S'; intro _ _ _ S
  refine k _ _ ?_; clear k N
  (rename St _ _ _ _ _ _ => S'); refine r_store S' ?_; clear S'; intro _ _ S
  refine x_set ?_; intro N k
  refine r_int ?_; intro _ _
  refine k _ _ ?_; clear k N
  (rename St _ _ _ _ _ _ => S'); refine r_store S' ?_; clear S'; intro _ _ S
  rename St _ _ _ _ _ _ => S
  refine x_while (fun k n m fs => X4 fun (i : Nat) (d : Addr) (us : List Value) (acc : List Int) => N7 (k = (signsF cs).length - i) (i ≤ (signsF cs).length) (fs = [(d, lstP us)]) (IntsAre us acc) (acc.length ≤ 41 * i) (codesF (signsF cs) = (codesF ((signsF cs).drop i)).map (acc ++ ·)) (X1 fun t₁ => Has m [(Str.ofString "most", .int 1000 tm), (Str.ofString "signs", .ref b), (Str.ofString "at", .int i t₁), (Str.ofString "found", .ref d)])) (k₀ := (signsF cs).length) S ?_ ?_
  · exact ⟨0, _, [], [], by simp, by simp, rfl, .nil, by simp, by simp, by walk_at "has"⟩
  · clear S
    intro Rn kr kk n m fs h₂ tk Fn N hF k S hp0
    refine hide fun q₀ kq => ?_
    obtain ⟨i, d, us, acc, rfl, hi, rfl, hus, hal, hcf, t₁, hm⟩ := hp0
    refine kq ?_; clear kq q₀
    replace S := S.has hm
    clear hm
    have hul := hus.length
    have zL : (1000000 : Nat) ≤ sizeLine := by rw [sizeLine_eq]; decide
    refine wpAny_isTrue_Compare1 ?_
    (rename St _ _ _ _ _ _ => S'); refine r_name S' rfl ?_
    (rename St _ _ _ _ _ _ => S'); (rename Gn _ _ => G'); refine r_cbi1 (S'.gn G') rfl boot_len ?_
    (rename St _ _ _ _ _ _ => S'); refine r_name S' rfl ?_
    rename St _ _ _ _ _ _ => S
    refine r_len (S.gAt hl) (by exact lt63 (eqle (by assumption) (Nat.le_trans (by assumption) (Nat.le_trans (by assumption) (by decide))))) fun t₂ tk => ?_
    refine lt_int ?_
    refine wpAny_truthy_bool ?_
    try (refine k _ _ ?_; clear k N)
    refine ite_dec (fun hlt => ?_) (fun hlt => ?_)
    · have hlt : i < (signsF cs).length := by exact innE (by assumption) (by assumption)
      obtain ⟨a₀, t₃, e₀, T₀⟩ := hR.get hlt
      have hb₀ := hb _ (List.getElem_mem hlt)
      refine x_set ?_; intro N k
      refine Subscript_ ?_
      refine Subscript_ ?_
      (rename St _ _ _ _ _ _ => S'); refine r_name S' rfl ?_
      (rename St _ _ _ _ _ _ => S'); refine r_name S' rfl ?_
      rename St _ _ _ _ _ _ => S
      refine r_item (S.gAt hl) (by exact Int.natCast_nonneg _) (by simpa using e₀) ?_
      refine r_int ?_; intro _ _
      rename St _ _ _ _ _ _ => S
      refine r_titem (S.gAt T₀) (j := 0) rfl rfl (by simp) ?_
      refine k _ _ ?_; clear k N
      (rename St _ _ _ _ _ _ => S'); refine r_store S' ?_; clear S'; intro _ _ S
      refine x_set ?_; intro N k
      (rename St _ _ _ _ _ _ => S'); refine r_name S' rfl ?_
      refine k _ _ ?_; clear k N
      (rename St _ _ _ _ _ _ => S'); refine r_store S' ?_; clear S'; intro _ _ S
      refine wpAny_execs_cons ?_
      rename St _ _ _ _ _ _ => S
      have hdr : (signsF cs).drop i = (signsF cs)[i] :: (signsF cs).drop (i + 1) := List.drop_eq_getElem_cons hlt
      generalize hc : (signsF cs)[i].1 = c at *
      refine cut_next (fun s₂ => X7 fun (j : Nat) (l : Int) (n' : PM) (m' : Str → Option Value) (h' : Heap) (tk' : Nat) (t₁ : Tok) => X2 fun (t₂ : Tok) (t₃ : Tok) => N8 (s₂ = mkS s h' tk') (St g₁ n' h' L m' [(d, lstP us)]) (Has m' [(Str.ofString "most", .int 1000 tm), (Str.ofString "signs", .ref b), (Str.ofString "at", .int j t₁), (Str.ofString "found", .ref d), (Str.ofString "code", .int c t₂), (Str.ofString "last", .int l t₃)]) (i ≤ j) (j + 1 ≤ (signsF cs).length) (c ≤ l) (l ≤ 122) ((l - c + 1 ≤ 41 * (j + 1 - i)) ∧ (codesF ((signsF cs).drop i) = (codesF ((signsF cs).drop (j + 1))).map (rangeI c l ++ ·)))) ?_ ?_
      · intro Rn kr
        refine x_ifc ?_; intro N k
        refine cut_testS S (decide (i + 2 < (signsF cs).length ∧ (signsF cs)[i + 1]? = some (45, false))) ?_ ?_
        · intro N k
          refine wpAny_isTrue_BoolOp ?_
          refine wpAny_allTrue_And_cons ?_
          refine wpAny_isTrue_Compare1 ?_
          refine wpAny_BinOp ?_
          (rename St _ _ _ _ _ _ => S'); refine r_name S' rfl ?_
          refine r_int ?_; intro _ _
          refine r_add ?_; intro _ _
          (rename St _ _ _ _ _ _ => S'); (rename Gn _ _ => G'); refine r_cbi1 (S'.gn G') rfl boot_len ?_
          (rename St _ _ _ _ _ _ => S'); refine r_name S' rfl ?_
          rename St _ _ _ _ _ _ => S
          refine r_len (S.gAt hl) (by exact lt63 (eqle (by assumption) (Nat.le_trans (by assumption) (Nat.le_trans (by assumption) (by decide))))) fun t₂ tk => ?_
          refine lt_int ?_
          refine wpAny_truthy_bool ?_
          try (refine k _ _ ?_; clear k N)
          refine ite_dec (fun hlt2 => ?_) (fun hlt2 => ?_)
          · have hlt2 : i + 2 < (signsF cs).length := by (first | exact z138 hvl hlt2 | omega)
            obtain ⟨a₁, t₄, e₁, T₁⟩ := hR.get (i := i + 1) (by (first | exact z139 hvl (by assumption) | omega))
            refine wpAny_allTrue_And_cons ?_
            refine wpAny_isTrue_Compare1 ?_
            refine Subscript_ ?_
            (rename St _ _ _ _ _ _ => S'); refine r_name S' rfl ?_
            refine wpAny_BinOp ?_
            (rename St _ _ _ _ _ _ => S'); refine r_name S' rfl ?_
            refine r_int ?_; intro _ _
            refine r_add ?_; intro _ _
            rename St _ _ _ _ _ _ => S
            refine r_item (S.gAt hl) (by (first | exact z140 | omega)) (v := .ref a₁) (by rw [← e₁]; congr 1) ?_
            refine Tuple_ ?_
            refine r_spl ?_
            refine r_int ?_; intro _ _
            refine r_spl ?_
            refine wpAny_Constant_bool ?_
            refine r_spl0 ?_
            rename St _ _ _ _ _ _ => S
            refine r_tup S (by simp) ?_
            clear S
            intro dt n' h tk hn hT _ S
            rename St _ _ _ _ _ _ => S
            refine r_pairEq (S.gAt T₁) (S.nAt hT) (by exact un (by assumption) (by decide)) ?_
            refine wpAny_truthy_bool ?_
            try (refine k _ _ ?_; clear k N)
            rename St _ _ _ _ _ _ => S
            refine ite_dec (fun hq => ?_) (fun hq => ?_)
            · refine wpAny_allTrue_And_nil ?_
              rename St _ _ _ _ _ _ => S
              refine k _ _ _ _ ?_ S
              symm; rw [decide_eq_true_iff]
              exact ⟨hlt2, by rw [List.getElem?_eq_getElem (by (first | exact z139 hvl (by assumption) | omega))]; exact congrArg some (Prod.ext hq.1 hq.2)⟩
            · skip
              rename St _ _ _ _ _ _ => S
              refine k _ _ _ _ ?_ S
              symm; rw [decide_eq_false_iff_not]
              rintro ⟨_, z⟩
              rw [List.getElem?_eq_getElem (by (first | exact z139 hvl (by assumption) | omega))] at z
              exact hq ⟨congrArg Prod.fst (Option.some.inj z), congrArg Prod.snd (Option.some.inj z)⟩
          · skip
            rename St _ _ _ _ _ _ => S
            refine k _ _ _ _ ?_ S
            symm; rw [decide_eq_false_iff_not]
            rintro ⟨z, _⟩
            (first | exact z141 hvl hlt2 z | omega)
        · clear S
          intro n h tk S
          refine k _ _ ?_; clear k N
          refine ite_dec (fun hq => ?_) (fun hq => ?_)
          · obtain ⟨hlt2, hq⟩ := hq
            obtain ⟨a₂, t₅, e₂, T₂⟩ := hR.get (i := i + 2) hlt2
            have hb₂ := hb _ (List.getElem_mem hlt2)
            have hq' : (signsF cs)[i + 1]'(by (first | exact z142 hlt2 | omega)) = (45, false) := by
              rw [List.getElem?_eq_getElem (by (first | exact z142 hlt2 | omega))] at hq; exact Option.some.inj hq
            have hdr2 : (signsF cs).drop (i + 1) = (45, false) :: (signsF cs)[i + 2] :: (signsF cs).drop (i + 2 + 1) := by
              rw [List.drop_eq_getElem_cons (show i + 1 < (signsF cs).length by (first | exact z142 hlt2 | omega)), hq', List.drop_eq_getElem_cons hlt2]
            have hFc : codesF ((signsF cs).drop i) = if (signsF cs)[i + 2].1 < c then none else (codesF ((signsF cs).drop (i + 2 + 1))).map (rangeI c (signsF cs)[i + 2].1 ++ ·) := by
              rw [hdr, hdr2, codesF_three, hc]
            refine x_set ?_; intro N k
            refine Subscript_ ?_
            refine Subscript_ ?_
            (rename St _ _ _ _ _ _ => S'); refine r_name S' rfl ?_
            refine wpAny_BinOp ?_
            (rename St _ _ _ _ _ _ => S'); refine r_name S' rfl ?_
            refine r_int ?_; intro _ _
            refine r_add ?_; intro _ _
            rename St _ _ _ _ _ _ => S
            refine r_item (S.gAt hl) (by (first | exact z143 | omega)) (v := .ref a₂) (by rw [← e₂]; congr 1) ?_
            refine r_int ?_; intro _ _
            rename St _ _ _ _ _ _ => S
            refine r_titem (S.gAt T₂) (j := 0) rfl rfl (by simp) ?_
            refine k _ _ ?_; clear k N
            (rename St _ _ _ _ _ _ => S'); refine r_store S' ?_; clear S'; intro _ _ S
            refine x_if ?_; intro Rn kr N k
            refine wpAny_isTrue_Compare1 ?_
            (rename St _ _ _ _ _ _ => S'); refine r_name S' rfl ?_
            (rename St _ _ _ _ _ _ => S'); refine r_name S' rfl ?_
            refine lt_int ?_
            refine wpAny_truthy_bool ?_
            try (refine k _ _ ?_; clear k N)
            refine ite_dec (fun hlc => ?_) (fun hlc => ?_)
            · have hnone : codesF (signsF cs) = none := by rw [hcf, hFc, if_pos hlc]; rfl
              refine wpAny_execs_cons ?_
              rename St _ _ _ _ _ _ => S
              rename Gn _ _ => G₁
              refine x_raise_die S (S.gn G₁) hh (by exact dp (by assumption) (by decide)) fun h' tk' e D => ?_
              exact leave_new (frames_deeper' hA) rfl rfl (F.le (hg₁.trans S.kg)) (hg₁.trans S.kg) hL₀ S D fun h'' R => hE hnone _ _ _ R
            · refine wpAny_execs_nil ?_
              try (refine kr _ ?_; clear kr Rn)
              refine x_aug ?_; intro N k
              (rename St _ _ _ _ _ _ => S'); refine r_lname S' rfl ?_
              refine r_int ?_; intro _ _
              refine r_iadd ?_; intro _ _
              refine k _ _ ?_; clear k N
              (rename St _ _ _ _ _ _ => S'); refine r_store S' ?_; clear S'; intro _ _ S
              refine wpAny_execs_nil ?_
              try (refine kr _ ?_; clear kr Rn)
              rename St _ _ _ _ _ _ => S
              refine ⟨i + 2, (signsF cs)[i + 2].1, _, _, _, _, _, _, _, rfl, S, by walk_at "has", by exact Nat.le_add_right _ _, by exact Nat.succ_le_of_lt (by assumption), by exact Int.not_lt.mp (by assumption), by (first | exact z144 hb₂ | omega), by (first | exact z145 hb₀ hb₂ | omega), ?_⟩
              rw [hFc, if_neg hlc]
          · have hFc : codesF ((signsF cs).drop i) = (codesF ((signsF cs).drop (i + 1))).map (rangeI c c ++ ·) := by
              rw [hdr, codesF_one _ _ ?_, hc]
              rintro ⟨z1, z2⟩
              rw [List.length_drop] at z1
              rw [List.getElem?_drop] at z2
              exact hq ⟨by (first | exact z146 z1 | omega), z2⟩
            refine wpAny_execs_nil ?_
            try (refine kr _ ?_; clear kr Rn)
            rename St _ _ _ _ _ _ => S
            exact ⟨i, c, _, _, _, _, _, _, _, rfl, S, by walk_at "has", by exact Nat.le_refl _, by exact Nat.succ_le_of_lt (by assumption), by (first | exact z147 | omega), by (first | exact z144 hb₀ | omega), by (first | exact z148 | omega), hFc⟩
      · clear S
        intro s₂ hp0
        refine hide fun q₀ kq => ?_
        obtain ⟨j, l, n, m, h, tk, t₁, t₂, t₃, rfl, S, hm, hij, hjl, hcl, hl122, hlen, hFc⟩ := hp0
        refine kq ?_; clear kq q₀
        replace S := S.has hm
        clear hm
        dsimp only
        refine x_if ?_; intro Rn kr N k
        refine wpAny_isTrue_Compare1 ?_
        refine wpAny_BinOp ?_
        refine wpAny_BinOp ?_
        (rename St _ _ _ _ _ _ => S'); (rename Gn _ _ => G'); refine r_cbi1 (S'.gn G') rfl boot_len ?_
        (rename St _ _ _ _ _ _ => S'); refine r_name S' rfl ?_
        rename St _ _ _ _ _ _ => S
        refine r_len (Lst.w (S.fAt (.head _))) (by (first | exact z149 hcs hlS hal hul hlt | omega)) fun t₄ tk => ?_
        (rename St _ _ _ _ _ _ => S'); refine r_name S' rfl ?_
        refine r_add ?_; intro _ _
        (rename St _ _ _ _ _ _ => S'); refine r_name S' rfl ?_
        refine r_sub ?_; intro _ _
        (rename St _ _ _ _ _ _ => S'); refine r_name S' rfl ?_
        refine ge_int ?_
        refine wpAny_truthy_bool ?_
        try (refine k _ _ ?_; clear k N)
        refine ite_dec (fun hbig => by omega) (fun _ => ?_)
        refine wpAny_execs_nil ?_
        try (refine kr _ ?_; clear kr Rn)
        refine x_for ?_; intro Rn kr N k
        (rename St _ _ _ _ _ _ => S'); (rename Gn _ _ => G'); refine r_crange (S'.gn G') rfl ?_
        refine r_spl ?_
        (rename St _ _ _ _ _ _ => S'); refine r_name S' rfl ?_
        refine r_spl ?_
        refine wpAny_BinOp ?_
        (rename St _ _ _ _ _ _ => S'); refine r_name S' rfl ?_
        refine r_int ?_; intro _ _
        refine r_add ?_; intro _ _
        refine r_spl0 ?_
        rename St _ _ _ _ _ _ => S
        refine r_range2 S ?_
        clear S
        intro r h tk S hr
        refine r_iter_range S hh hr (by (first | exact z150 hb₀ | omega)) (by (first | exact z151 hb₀ | omega)) (by (first | exact z152 hb₀ hcl | omega)) (by (first | exact z153 hl122 | omega)) ?_
        clear S
        intro I h fp Sti S T
        refine k _ _ ?_; clear k N
        refine for_core (fun q n m fs => X1 fun us => N3 (fs = [(d, lstP us)]) (IntsAre us (acc ++ (rangeI c l).take q)) (X1 fun t₁ => Has m [(Str.ofString "most", .int 1000 tm), (Str.ofString "signs", .ref b), (Str.ofString "at", .int j t₁), (Str.ofString "found", .ref d)])) S T ?_ ?_ ?_
        · exact ⟨us, rfl, by simpa using hus, _, by walk_at "has"⟩
        · clear S T
          intro q v g n m fs h tk Fn hF hg hlt hp0 hp1 S
          refine hide fun q₀ kq => ?_
          obtain ⟨tv, rfl⟩ := hp0
          obtain ⟨us, rfl, hus, t₁, hm⟩ := hp1
          refine kq ?_; clear kq q₀
          have hlt' : q < (l + 1 - c).toNat := by simpa using hlt
          rename Gn _ _ => G₁
          have G := G₁.le hg
          rw [show m = ups _ m from (Has.ups hm).symm] at S
          clear hm
          have hul := hus.length
          have hrl := rangeI_length c l
          simp only [List.length_append, List.length_take] at hul
          rename St _ _ _ _ _ _ => S
          refine x_appendS S rfl (.head _) ?_; intro N k
          (rename St _ _ _ _ _ _ => S'); refine r_name S' rfl ?_
          rename St _ _ _ _ _ _ => S
          refine k _ _ ?_; clear k N
          refine r_append S .head (by (first | exact z154 (by assumption) zL (by assumption) hlt hul | omega)) ?_
          clear S
          intro h tk S
          refine wpAny_execs_nil ?_
          try (refine kr _ ?_; clear kr Rn)
          rename St _ _ _ _ _ _ => S
          refine hF _ _ _ _ _ S ⟨_, rfl, ?_, _, by walk_at "has"⟩
          rw [rangeI_take hlt', ← List.append_assoc]
          exact hus.append (.cons _ _ .nil)
        · clear S T
          intro n m fs h tk hp0 S
          refine hide fun q₀ kq => ?_
          obtain ⟨us, rfl, hus, t₁, hm⟩ := hp0
          refine kq ?_; clear kq q₀
          refine kr _ ?_; clear kr Rn
          replace S := S.has hm
          clear hm
          have hrl := rangeI_length c l
          rw [List.take_of_length_le (by exact Nat.le_of_eq (by assumption))] at hus
          refine x_aug ?_; intro N k
          (rename St _ _ _ _ _ _ => S'); refine r_lname S' rfl ?_
          refine r_int ?_; intro _ _
          refine r_iadd ?_; intro _ _
          refine k _ _ ?_; clear k N
          (rename St _ _ _ _ _ _ => S'); refine r_store S' ?_; clear S'; intro _ _ S
          refine wpAny_execs_nil ?_
          try (refine kr _ ?_; clear kr Rn)
          rename St _ _ _ _ _ _ => S
          refine hF _ _ _ _ _ _ S ⟨j + 1, d, us, acc ++ rangeI c l, rfl, hjl, rfl, hus, ?_, ?_, _, by walk_at "has"⟩ (by (first | exact z155 hvl (by assumption) hij | omega))
          · rw [List.length_append, hrl]; (first | exact z156 hal hcl hlen | omega)
          · rw [hcf, hFc, Option.map_map]
            congr 1
            funext x
            simp
    · refine kr _ ?_; clear kr Rn
      refine x_ret ?_; intro N k
      (rename St _ _ _ _ _ _ => S'); refine r_name S' rfl ?_
      rename St _ _ _ _ _ _ => S
      have he : i = (signsF cs).length := by (first | exact z157 hvl hi hlt | omega)
      subst he
      rw [List.drop_length] at hcf
      refine (S.less hg₁).freeze' ?_; intro N _ hN S
      refine k _ _ ?_
      refine hQ _ _ N _ _ acc ?_ hus hN S.out
      rw [hcf]; simp [codesF]

/-! plain_table -/
noncomputable def plainV (bs : List Int) (del : Bool) (p : Nat) (c : Int) : Int := if p < bs.length then bs.getD p 0 else if del then -2 else if bs = [] then c else bs.getD (bs.length - 1) 0
noncomputable def plainStep (ss bs : List Int) (del : Bool) (D : List (Int × Int)) (p : Nat) : List (Int × Int) := if (D.lookup (ss.getD p 0)).isSome then D else D ++ [(ss.getD p 0, plainV bs del p (ss.getD p 0))]
noncomputable def plainT (ss bs : List Int) (del : Bool) : List (Int × Int) := (List.range ss.length).foldl (plainStep ss bs del) []
theorem plain_len (ss bs : List Int) (del : Bool) : ∀ (l : List Nat) (D : List (Int × Int)), (l.foldl (plainStep ss bs del) D).length ≤ D.length + l.length
  | [], D => by simp
  | p :: l, D => by
    have h1 := plain_len ss bs del l (plainStep ss bs del D p)
    have h2 : (plainStep ss bs del D p).length ≤ D.length + 1 := by unfold plainStep; split <;> simp
    simp only [List.foldl_cons, List.length_cons]
    (first | exact z175 h1 h2 | omega)

set_option maxHeartbeats 2000000 in
theorem c_plain {prog : Program} {w : World} {A : Around} {E : Value → Shared → Prop} {Q : Value → Shared → Prop} {s : Shared} {h : Heap} {tk : Nat} {a b : Addr} {vs us : List Value} {ss bs : List Int} {del : Bool}
    (G : Gn w h.get?) (hd : A.depth < recursionLimit) (hu : A.units + 100 < cLine) (hh : A.handled = none) (hl : Lst h.get? a vs) (hi : IntsAre vs ss) (hl2 : Lst h.get? b us) (hi2 : IntsAre us bs) (hb1 : ss.length ≤ 1000) (hb2 : bs.length ≤ 1000)
    (hQ : ∀ h' tk' N d, At N d (dP prog w (plainT ss bs del)) → (d == sysModules) = false → Ext h h' N → Q (.ref d) (mkS s h' tk')) :
    wpAny (model prog w) A (call (.ref 96) [.ref a, .ref b, .bool del]) Q E (mkS s h tk) := by
  refine enter [(Str.ofString "sources", .ref a), (Str.ofString "becomes", .ref b), (Str.ofString "is_deleting", .bool del)] G rfl rfl hd rfl rfl rfl ?_
  intro L h₁ tk₁ S
  have hvl := hi.length
  have hul := hi2.length
  have G₀ := G
  refine x_set ?_; intro N k
  rename St _ _ _ _ _ _ => S
  rename Gn _ _ => G₀
  refine r_dNew (prog := prog) S (S.gn G₀) ?_
  clear S
  intro d h tk S hlo
  refine k _ _ ?_; clear k N
  (rename St _ _ _ _ _ _ => S'); refine r_store S' ?_; clear S'; intro _ _ S
  refine x_for ?_; intro Rn kr N k
  (rename St _ _ _ _ _ _ => S'); (rename Gn _ _ => G'); refine r_crange (S'.gn G') rfl ?_
  refine r_spl ?_
  (rename St _ _ _ _ _ _ => S'); (rename Gn _ _ => G'); refine r_cbi1 (S'.gn G') rfl boot_len ?_
  (rename St _ _ _ _ _ _ => S'); refine r_name S' rfl ?_
  rename St _ _ _ _ _ _ => S
  refine r_len (Lst.w (S.gAt hl)) (by exact lt63 (eqle (by assumption) (Nat.le_trans (by assumption) (by decide)))) fun t₁ tk => ?_
  refine r_spl0 ?_
  rename St _ _ _ _ _ _ => S
  refine r_range1 S ?_
  clear S
  intro r h tk S hr
  refine r_iter_range S hh hr (by decide) (by decide) (by exact le62) (by exact lt62 (eqle (by assumption) (Nat.le_trans (by assumption) (by decide)))) ?_
  clear S
  intro I h fp Sti S T
  refine k _ _ ?_; clear k N
  refine for_core (fun i n m fs => X1 fun D => N3 (fs = [(d, dP prog w D)]) (D = (List.range i).foldl (plainStep ss bs del) []) (Has m [(Str.ofString "sources", .ref a), (Str.ofString "becomes", .ref b), (Str.ofString "is_deleting", .bool del), (Str.ofString "codes", .ref d)])) S T ?_ ?_ ?_
  · exact ⟨[], rfl, rfl, by walk_at "has"⟩
  · clear S T
    intro i v g n m fs h tk Fn hF hg hlt hp0 hp1 S
    refine hide fun q₀ kq => ?_
    obtain ⟨tv, rfl⟩ := hp0
    obtain ⟨D, rfl, hD, hm⟩ := hp1
    refine kq ?_; clear kq q₀
    have hlt : i < ss.length := by (first | exact z176 hvl hlt | omega)
    rename Gn _ _ => G₀
    have G := G₀.le hg
    have hl := hl.le hg
    have hl2 := hl2.le hg
    have hDl : D.length ≤ 1000 := by
      have := plain_len ss bs del (List.range i) []
      rw [← hD] at this
      simp at this; (first | exact z177 hb1 hlt this | omega)
    have hstep : (List.range (i + 1)).foldl (plainStep ss bs del) [] = plainStep ss bs del D i := by rw [List.range_succ, List.foldl_append, ← hD]; rfl
    obtain ⟨t₂, e₂⟩ := intsAt hi hlt
    have hget : ss.getD i 0 = ss[i] := by rw [List.getD_eq_getElem?_getD, List.getElem?_eq_getElem hlt]; rfl
    rw [show m = ups _ m from (Has.ups hm).symm] at S
    clear hm
    refine x_set ?_; intro N k
    refine Subscript_ ?_
    (rename St _ _ _ _ _ _ => S'); refine r_name S' rfl ?_
    (rename St _ _ _ _ _ _ => S'); refine r_name S' rfl ?_
    rename St _ _ _ _ _ _ => S
    refine r_item (Lst.w (S.gAt hl)) (by exact nn0 _) (v := .int ss[i] t₂) (by rw [← e₂]; congr 1; exact tn0 _) ?_
    refine k _ _ ?_; clear k N
    (rename St _ _ _ _ _ _ => S'); refine r_store S' ?_; clear S'; intro _ _ S
    refine x_if ?_; intro Rn kr N k
    refine wpAny_isTrue_Compare1 ?_
    (rename St _ _ _ _ _ _ => S'); refine r_name S' rfl ?_
    (rename St _ _ _ _ _ _ => S'); refine r_name S' rfl ?_
    rename St _ _ _ _ _ _ => S
    refine r_dIn (S.fAt (.head _)) hlo fun tk => ?_
    refine wpAny_truthy_bool ?_
    try (refine k _ _ ?_; clear k N)
    refine ite_bool (fun hin => ?_) (fun hin => ?_)
    · refine wpAny_execs_cons ?_
      refine wpAny_Continue ?_
      rename St _ _ _ _ _ _ => S
      refine hF _ _ _ _ _ S ⟨D, rfl, ?_, by walk_at "has"⟩
      rw [hstep, plainStep, hget, if_pos hin]
    · have hnone : D.lookup ss[i] = none := by simpa using hin
      have fin : ∀ {n : PM} {m : Str → Option Value} {h : Heap} {tk : Nat} {v : Int}, v = plainV bs del i ss[i] → St g n h L m [(d, dP prog w (D ++ [(ss[i], v)]))] → Has m [(Str.ofString "sources", .ref a), (Str.ofString "becomes", .ref b), (Str.ofString "is_deleting", .bool del), (Str.ofString "codes", .ref d)] →
          Fn (mkS s h tk) :=
        fun hv S hm => hF _ _ _ _ _ S ⟨_, rfl, by rw [hstep, plainStep, hget, if_neg (by simp [hnone]), hv], hm⟩
      refine wpAny_execs_nil ?_
      try (refine kr _ ?_; clear kr Rn)
      refine x_if ?_; intro Rn kr N k
      refine wpAny_isTrue_Compare1 ?_
      (rename St _ _ _ _ _ _ => S'); refine r_name S' rfl ?_
      (rename St _ _ _ _ _ _ => S'); (rename Gn _ _ => G'); refine r_cbi1 (S'.gn G') rfl boot_len ?_
      (rename St _ _ _ _ _ _ => S'); refine r_name S' rfl ?_
      rename St _ _ _ _ _ _ => S
      refine r_len (Lst.w (S.gAt hl2)) (by exact lt63 (eqle (by assumption) (Nat.le_trans (by assumption) (by decide)))) fun t₃ tk => ?_
      refine lt_int ?_
      refine wpAny_truthy_bool ?_
      try (refine k _ _ ?_; clear k N)
      refine ite_dec (fun hc1 => ?_) (fun hc1 => ?_)
      · obtain ⟨t₄, e₄⟩ := intsAt hi2 (i := i) (by (first | exact z178 hul hc1 | omega))
        refine wpAny_execs_cons ?_
        refine wpAny_Assign_Subscript ?_
        refine Subscript_ ?_
        (rename St _ _ _ _ _ _ => S'); refine r_name S' rfl ?_
        (rename St _ _ _ _ _ _ => S'); refine r_name S' rfl ?_
        rename St _ _ _ _ _ _ => S
        refine r_item (Lst.w (S.gAt hl2)) (by exact nn0 _) (v := .int (bs[i]'(by (first | exact z178 hul hc1 | omega))) t₄) (by rw [← e₄]; congr 1; exact tn0 _) ?_
        (rename St _ _ _ _ _ _ => S'); refine r_name S' rfl ?_
        (rename St _ _ _ _ _ _ => S'); refine r_name S' rfl ?_
        rename St _ _ _ _ _ _ => S
        refine r_dSet S .head hnone (by exact Nat.le_trans (by assumption) (by decide)) ?_
        clear S
        intro h tk S
        refine wpAny_execs_nil ?_
        try (refine kr _ ?_; clear kr Rn)
        refine wpAny_execs_nil ?_
        try (refine kr _ ?_; clear kr Rn)
        refine fin ?_ S (by walk_at "has")
        rw [plainV, if_pos (by (first | exact z178 hul hc1 | omega)), List.getD_eq_getElem?_getD, List.getElem?_eq_getElem (by (first | exact z178 hul hc1 | omega))]; rfl
      · refine x_if ?_; intro Rn kr N k
        refine wpAny_isTrue_value ?_
        (rename St _ _ _ _ _ _ => S'); refine r_name S' rfl ?_
        refine wpAny_truthy_bool ?_
        try (refine k _ _ ?_; clear k N)
        refine ite_bool (fun hc2 => ?_) (fun hc2 => ?_)
        · refine wpAny_execs_cons ?_
          refine wpAny_Assign_Subscript ?_
          (rename St _ _ _ _ _ _ => S'); (rename Gn _ _ => G'); refine r_glob (S'.gn G') rfl ?_
          (rename St _ _ _ _ _ _ => S'); refine r_name S' rfl ?_
          (rename St _ _ _ _ _ _ => S'); refine r_name S' rfl ?_
          rename St _ _ _ _ _ _ => S
          refine r_dSet S .head hnone (by exact Nat.le_trans (by assumption) (by decide)) ?_
          clear S
          intro h tk S
          refine wpAny_execs_nil ?_
          try (refine kr _ ?_; clear kr Rn)
          refine wpAny_execs_nil ?_
          try (refine kr _ ?_; clear kr Rn)
          refine wpAny_execs_nil ?_
          try (refine kr _ ?_; clear kr Rn)
          refine fin ?_ S (by walk_at "has")
          rw [plainV, if_neg (by (first | exact z179 hul hc1 | omega)), if_pos hc2]
        · refine x_if ?_; intro Rn kr N k
          refine wpAny_isTrue_Compare1 ?_
          (rename St _ _ _ _ _ _ => S'); refine r_name S' rfl ?_
          refine List_ ?_
          refine r_spl0 ?_
          (rename St _ _ _ _ _ _ => S'); refine r_newList S' (Nat.zero_le _) ?_; clear S'; intro _ _ _ S
          rename St _ _ _ _ _ _ => S
          refine r_eqInts (Lst.w (S.gAt hl2)) (Lst.w (S.fAt (.head _))) hi2 .nil (by exact un (by assumption) (by decide)) ?_
          replace S := S.sub (List.sublist_cons_self ..)
          refine wpAny_truthy_bool ?_
          try (refine k _ _ ?_; clear k N)
          refine ite_dec (fun he => ?_) (fun he => ?_)
          · refine wpAny_execs_cons ?_
            refine wpAny_Assign_Subscript ?_
            (rename St _ _ _ _ _ _ => S'); refine r_name S' rfl ?_
            (rename St _ _ _ _ _ _ => S'); refine r_name S' rfl ?_
            (rename St _ _ _ _ _ _ => S'); refine r_name S' rfl ?_
            rename St _ _ _ _ _ _ => S
            refine r_dSet S .head hnone (by exact Nat.le_trans (by assumption) (by decide)) ?_
            clear S
            intro h tk S
            refine wpAny_execs_nil ?_
            try (refine kr _ ?_; clear kr Rn)
            refine wpAny_execs_nil ?_
            try (refine kr _ ?_; clear kr Rn)
            refine wpAny_execs_nil ?_
            try (refine kr _ ?_; clear kr Rn)
            refine wpAny_execs_nil ?_
            try (refine kr _ ?_; clear kr Rn)
            refine fin ?_ S (by walk_at "has")
            rw [plainV, if_neg (by (first | exact z179 hul hc1 | omega)), if_neg (by simp [hc2]), if_pos he]
          · have hpos : 0 < bs.length := List.length_pos_iff.mpr he
            obtain ⟨t₄, e₄⟩ := intsAt hi2 (i := bs.length - 1) (by exact pred (by assumption))
            refine wpAny_execs_cons ?_
            refine wpAny_Assign_Subscript ?_
            refine Subscript_ ?_
            (rename St _ _ _ _ _ _ => S'); refine r_name S' rfl ?_
            refine wpAny_BinOp ?_
            (rename St _ _ _ _ _ _ => S'); (rename Gn _ _ => G'); refine r_cbi1 (S'.gn G') rfl boot_len ?_
            (rename St _ _ _ _ _ _ => S'); refine r_name S' rfl ?_
            rename St _ _ _ _ _ _ => S
            refine r_len (Lst.w (S.gAt hl2)) (by exact lt63 (eqle (by assumption) (Nat.le_trans (by assumption) (by decide)))) fun t₃ tk => ?_
            refine r_int ?_; intro _ _
            refine r_sub ?_; intro _ _
            rename St _ _ _ _ _ _ => S
            refine r_item (Lst.w (S.gAt hl2)) (by (first | exact z180 hul hpos | omega)) (v := .int bs[bs.length - 1] t₄) (by rw [← e₄]; congr 1; exact lastN' (by assumption) (by assumption)) ?_
            (rename St _ _ _ _ _ _ => S'); refine r_name S' rfl ?_
            (rename St _ _ _ _ _ _ => S'); refine r_name S' rfl ?_
            rename St _ _ _ _ _ _ => S
            refine r_dSet S .head hnone (by exact Nat.le_trans (by assumption) (by decide)) ?_
            clear S
            intro h tk S
            refine wpAny_execs_nil ?_
            try (refine kr _ ?_; clear kr Rn)
            refine wpAny_execs_nil ?_
            try (refine kr _ ?_; clear kr Rn)
            refine wpAny_execs_nil ?_
            try (refine kr _ ?_; clear kr Rn)
            refine wpAny_execs_nil ?_
            try (refine kr _ ?_; clear kr Rn)
            refine fin ?_ S (by walk_at "has")
            rw [plainV, if_neg (by (first | exact z179 hul hc1 | omega)), if_neg (by simp [hc2]), if_neg he, List.getD_eq_getElem?_getD, List.getElem?_eq_getElem (by exact pred (by assumption))]; rfl
  · clear S T
    intro n m fs h tk hp0 S
    refine hide fun q₀ kq => ?_
    obtain ⟨D, rfl, hD, hm⟩ := hp0
    refine kq ?_; clear kq q₀
    refine kr _ ?_; clear kr Rn
    replace S := S.has hm
    clear hm
    refine x_ret ?_; intro N k
    (rename St _ _ _ _ _ _ => S'); refine r_name S' rfl ?_
    rename St _ _ _ _ _ _ => S
    refine S.freeze' ?_; intro N _ hN S
    refine k _ _ ?_
    refine hQ _ _ N d ?_ hlo S.out
    have hn : ((vs.length : Int) - 0).toNat = ss.length := by (first | exact z181 hvl | omega)
    have : D = plainT ss bs del := by rw [hD, plainT, hn]
    rw [← this]; exact hN

/-! make_trans -/
noncomputable def flagsL (c d s : Bool) : List Nat := (if c then [99] else []) ++ (if d then [100] else []) ++ (if s then [115] else [])
theorem flag_c : ∀ c d s : Bool, Txt.contains (tx (flagsL c d s)) (Str.ofString "c") = c := by intro c d s; cases c <;> cases d <;> cases s <;> decide +kernel
theorem flag_d : ∀ c d s : Bool, Txt.contains (tx (flagsL c d s)) (Str.ofString "d") = d := by intro c d s; cases c <;> cases d <;> cases s <;> decide +kernel
theorem flag_s : ∀ c d s : Bool, Txt.contains (tx (flagsL c d s)) (Str.ofString "s") = s := by intro c d s; cases c <;> cases d <;> cases s <;> decide +kernel
noncomputable def mkTbl (bc bd bs : Bool) (ss be ns' : List Int) : Tbl := if bc then ⟨[], true, once ns', be, bd, bs⟩ else ⟨plainT ss be bd, false, [], be, bd, bs⟩

theorem mem_rangeI {a b x : Int} (h : x ∈ rangeI a b) : a ≤ x ∧ x ≤ b := by
  obtain ⟨i, hi, rfl⟩ := List.mem_map.mp h
  have := List.mem_range.mp hi
  (first | exact z7 this | omega)
theorem codesF_ok : ∀ (k : Nat) (l : List (Int × Bool)), l.length ≤ k → (∀ p ∈ l, 0 ≤ p.1 ∧ p.1 ≤ 122) → ∀ ns, codesF l = some ns → ns.length ≤ 41 * l.length ∧ ∀ x ∈ ns, 0 ≤ x ∧ x ≤ 122 := by
  intro k
  induction k with
  | zero =>
    intro l hl _ ns h
    obtain rfl : l = [] := List.length_eq_zero_iff.mp (by (first | exact z8 hl | omega))
    simp [codesF] at h; subst h; simp
  | succ k ih =>
    intro l hl hb ns h
    match l with
    | [] => simp [codesF] at h; subst h; simp
    | p :: r =>
      have hp := hb p (.head _)
      by_cases q : 2 ≤ r.length ∧ r[0]? = some (45, false)
      · match r, q with
        | q1 :: q2 :: t, q =>
          obtain rfl : q1 = (45, false) := by simpa using q.2
          have h2 := hb q2 (by simp)
          rw [codesF_three] at h
          split at h
          · cases h
          · rename_i hle
            obtain ⟨z, hz, rfl⟩ := Option.map_eq_some_iff.mp h
            obtain ⟨i1, i2⟩ := ih t (by simp at hl; (first | exact z9 hl | omega)) (fun x hx => hb x (by simp [hx])) z hz
            refine ⟨?_, fun x hx => ?_⟩
            · rw [List.length_append, rangeI_length]; simp only [List.length_cons]; (first | exact z10 hp h2 i1 | omega)
            · rcases List.mem_append.mp hx with hx | hx
              · have := mem_rangeI hx; (first | exact z11 hp h2 this | omega)
              · exact i2 x hx
      · rw [codesF_one _ _ q] at h
        obtain ⟨z, hz, rfl⟩ := Option.map_eq_some_iff.mp h
        obtain ⟨i1, i2⟩ := ih r (by simp at hl; assumption) (fun x hx => hb x (by simp [hx])) z hz
        refine ⟨?_, fun x hx => ?_⟩
        · rw [List.length_append, rangeI_length]; simp only [List.length_cons]; (first | exact z12 i1 | omega)
        · rcases List.mem_append.mp hx with hx | hx
          · have := mem_rangeI hx; (first | exact z13 hp this | omega)
          · exact i2 x hx
theorem codes_len {cs : List Nat} {ns : List Int} (hcs : cs.length ≤ 20) (hb : ∀ p ∈ signsF cs, 0 ≤ p.1 ∧ p.1 ≤ 122) (h : codesF (signsF cs) = some ns) : ns.length ≤ 820 := by
  have := (codesF_ok _ _ (Nat.le_refl _) hb ns h).1
  have := signsF_len cs
  (first | exact z14 hcs (by assumption) this | omega)

theorem r_inStr {prog : Program} {w : World} {A : Around} {E : Value → Shared → Prop} {s : Shared} {x y : Str} {t u : Tok} {Q : Value → Shared → Prop} (h : Q (.bool (Txt.contains x y)) s) : wpAny (model prog w) A (compareOp .In (.str y u) (.str x t)) Q E s := PySem.SB.contains h
theorem r_notInStr {prog : Program} {w : World} {A : Around} {E : Value → Shared → Prop} {s : Shared} {x y : Str} {t u : Tok} {Q : Value → Shared → Prop} (h : Q (.bool (!Txt.contains x y)) s) : wpAny (model prog w) A (compareOp .NotIn (.str y u) (.str x t)) Q E s := PySem.SB.notContains h

set_option maxHeartbeats 4000000 in
theorem c_make {prog : Program} {w : World} {A : Around} {E : Value → Shared → Prop} {Q : Value → Shared → Prop} {s : Shared} {h : Heap} {tk : Nat} {src tgt : List Nat} {bc bd bs : Bool} {t1 t2 t3 tm : Tok} {outer : List Env}
    (hA : A.frames = some outer) (F : Frs h outer) (G : Gn w h.get?) (hd : A.depth + 20 < recursionLimit) (hu : A.units + 300 < cLine) (hh : A.handled = none)
    (hcs : src.length ≤ 20) (hok : okE src) (hb : ∀ p ∈ signsF src, 0 ≤ p.1 ∧ p.1 ≤ 122) (hcs2 : tgt.length ≤ 20) (hok2 : okE tgt) (hb2 : ∀ p ∈ signsF tgt, 0 ≤ p.1 ∧ p.1 ≤ 122)
    (hS : bc = true → ∀ ss, codesF (signsF src) = some ss → ∀ vs, IntsAre vs ss → 2 ≤ vs.length → SortOk vs)
    (hQ : ∀ ss be ns' h' tk' N x, codesF (signsF src) = some ss → codesF (signsF tgt) = some be → (bc = true → ns'.Perm ss ∧ ns'.Pairwise (· ≤ ·)) → IsTbl prog w N x (mkTbl bc bd bs ss be ns') → Ext h h' N → Q (.ref x) (mkS s h' tk'))
    (hE : codesF (signsF src) = none ∨ codesF (signsF tgt) = none → ∀ h' tk' e, Raised h outer e h' → E (.ref e) (mkS s h' tk')) :
    wpAny (model prog w) A (call (.ref 110) [.str (tx src) t1, .str (tx tgt) t2, .str (tx (flagsL bc bd bs)) t3, .int 1000 tm]) Q E (mkS s h tk) := by
  refine enterE [(Str.ofString "source", .str (tx src) t1), (Str.ofString "target", .str (tx tgt) t2), (Str.ofString "flags", .str (tx (flagsL bc bd bs)) t3), (Str.ofString "most", .int 1000 tm)] G rfl rfl (by exact dd0 (by assumption)) rfl rfl rfl ?_
  intro L h₁ tk₁ hL₀ S
  refine x_set ?_; intro N k
  (rename St _ _ _ _ _ _ => S'); (rename Gn _ _ => G'); refine r_cdef (S'.gn G') rfl rfl ?_
  refine r_spl ?_
  (rename St _ _ _ _ _ _ => S'); refine r_name S' rfl ?_
  refine r_spl ?_
  (rename St _ _ _ _ _ _ => S'); refine r_name S' rfl ?_
  refine r_spl0 ?_
  (rename St _ _ _ _ _ _ => S'); (rename Gn _ _ => G'); refine And.intro (S'.gn G').in ?_
  rename St _ _ _ _ _ _ => S
  rename Gn _ _ => G
  refine c_codes (frames_deeper' hA) (S.frames (F.le S.kg) rfl rfl) (S.gn G) (by exact dp (by assumption) (by decide)) (by exact un (by assumption) (by decide)) hh hcs hok hb ?_ (fun hn h' tk' e R => leave_on (frames_deeper' hA) rfl S.kg hL₀ R fun h' R => hE (.inl hn) _ _ _ R)
  intro h tk N1 d1 us1 ss hss hi1 hl1 X
  refine S.absorb' X ?_; intro n hn1 hN1 S
  replace hl1 := hl1.le hN1
  clear X hN1 N1 hn1
  refine k _ _ ?_; clear k N
  (rename St _ _ _ _ _ _ => S'); refine r_store S' ?_; clear S'; intro _ _ S
  refine x_set ?_; intro N k
  (rename St _ _ _ _ _ _ => S'); (rename Gn _ _ => G'); refine r_cdef (S'.gn G') rfl rfl ?_
  refine r_spl ?_
  (rename St _ _ _ _ _ _ => S'); refine r_name S' rfl ?_
  refine r_spl ?_
  (rename St _ _ _ _ _ _ => S'); refine r_name S' rfl ?_
  refine r_spl0 ?_
  (rename St _ _ _ _ _ _ => S'); (rename Gn _ _ => G'); refine And.intro (S'.gn G').in ?_
  rename St _ _ _ _ _ _ => S
  rename Gn _ _ => G
  refine c_codes (frames_deeper' hA) (S.frames (F.le S.kg) rfl rfl) (S.gn G) (by exact dp (by assumption) (by decide)) (by exact un (by assumption) (by decide)) hh hcs2 hok2 hb2 ?_ (fun hn h' tk' e R => leave_on (frames_deeper' hA) rfl S.kg hL₀ R fun h' R => hE (.inr hn) _ _ _ R)
  intro h tk N2 d2 us2 be hbe hi2 hl2 X
  refine S.absorb' X ?_; intro n hn2 hN2 S
  replace hl1 := hl1.le hn2
  replace hl2 := hl2.le hN2
  have hsl := codes_len hcs hb hss
  have hbl := codes_len hcs2 hb2 hbe
  have hv1 := hi1.length
  refine k _ _ ?_; clear k N
  (rename St _ _ _ _ _ _ => S'); refine r_store S' ?_; clear S'; intro _ _ S
  refine x_set ?_; intro N k
  refine wpAny_Compare1 ?_
  refine r_str ?_; intro _ _
  (rename St _ _ _ _ _ _ => S'); refine r_name S' rfl ?_
  refine r_inStr ?_
  rw [flag_d]
  refine k _ _ ?_; clear k N
  (rename St _ _ _ _ _ _ => S'); refine r_store S' ?_; clear S'; intro _ _ S
  refine x_if ?_; intro Rn kr N k
  refine wpAny_isTrue_Compare1 ?_
  refine r_str ?_; intro _ _
  (rename St _ _ _ _ _ _ => S'); refine r_name S' rfl ?_
  refine r_inStr ?_
  rw [flag_c]
  refine wpAny_truthy_bool ?_
  try (refine k _ _ ?_; clear k N)
  refine ite_bool (fun hbc => ?_) (fun hbc => ?_)
  · refine x_ret ?_; intro N k
    (rename St _ _ _ _ _ _ => S'); (rename Gn _ _ => G'); refine r_cdef (S'.gn G') rfl rfl ?_
    refine r_spl ?_
    rename St _ _ _ _ _ _ => S
    rename Gn _ _ => G
    refine r_dNew (prog := prog) S (S.gn G) ?_
    clear S
    intro dd h tk S hlo
    refine r_spl ?_
    refine wpAny_Constant_bool ?_
    refine r_spl ?_
    (rename St _ _ _ _ _ _ => S'); (rename Gn _ _ => G'); refine r_cdef (S'.gn G') rfl rfl ?_
    refine r_spl ?_
    (rename St _ _ _ _ _ _ => S'); refine r_name S' rfl ?_
    refine r_spl0 ?_
    (rename St _ _ _ _ _ _ => S'); (rename Gn _ _ => G'); refine And.intro (S'.gn G').in ?_
    rename St _ _ _ _ _ _ => S
    rename Gn _ _ => G
    refine c_once (S.gn G) (by exact dp0 (by assumption) (by decide)) (by exact un (by assumption) (by decide)) hh (S.nAt hl1) hi1 (by exact Nat.le_trans (by assumption) (by decide)) (hS hbc ss hss _ hi1) ?_
    intro h tk N3 d3 us3 ns' hp hs hi3 hl3 X
    refine S.absorb' X ?_; intro n hn3 hN3 S
    replace hl2 := hl2.le hn3
    replace hl3 := hl3.le hN3
    refine r_spl ?_
    (rename St _ _ _ _ _ _ => S'); refine r_name S' rfl ?_
    refine r_spl ?_
    (rename St _ _ _ _ _ _ => S'); refine r_name S' rfl ?_
    refine r_spl ?_
    refine wpAny_Compare1 ?_
    refine r_str ?_; intro _ _
    (rename St _ _ _ _ _ _ => S'); refine r_name S' rfl ?_
    refine r_inStr ?_
    rw [flag_s]
    refine r_spl0 ?_
    (rename St _ _ _ _ _ _ => S'); (rename Gn _ _ => G'); refine And.intro (S'.gn G').in ?_
    rename St _ _ _ _ _ _ => S
    rename Gn _ _ => G
    refine S.freeze' ?_; intro n hn4 hD S
    refine c_tbl (T := ⟨[], true, once ns', be, bd, bs⟩) S (S.gn G) (by exact dp (by assumption) (by decide)) hD hlo (hl3.le hn4) hi3 (hl2.le hn4) hi2 ?_
    clear S
    intro h tk x n S hn5 hI
    rename St _ _ _ _ _ _ => S
    refine k _ _ ?_
    refine hQ ss be ns' _ _ n x hss hbe (fun _ => ⟨hp, hs⟩) ?_ S.out
    rw [mkTbl, if_pos hbc]; exact hI
  · refine wpAny_execs_nil ?_
    try (refine kr _ ?_; clear kr Rn)
    refine x_ret ?_; intro N k
    (rename St _ _ _ _ _ _ => S'); (rename Gn _ _ => G'); refine r_cdef (S'.gn G') rfl rfl ?_
    refine r_spl ?_
    (rename St _ _ _ _ _ _ => S'); (rename Gn _ _ => G'); refine r_cdef (S'.gn G') rfl rfl ?_
    refine r_spl ?_
    (rename St _ _ _ _ _ _ => S'); refine r_name S' rfl ?_
    refine r_spl ?_
    (rename St _ _ _ _ _ _ => S'); refine r_name S' rfl ?_
    refine r_spl ?_
    (rename St _ _ _ _ _ _ => S'); refine r_name S' rfl ?_
    refine r_spl0 ?_
    (rename St _ _ _ _ _ _ => S'); (rename Gn _ _ => G'); refine And.intro (S'.gn G').in ?_
    rename St _ _ _ _ _ _ => S
    rename Gn _ _ => G
    refine c_plain (S.gn G) (by exact dp0 (by assumption) (by decide)) (by exact un (by assumption) (by decide)) hh (S.nAt hl1) hi1 (S.nAt hl2) hi2 (by exact Nat.le_trans (by assumption) (by decide)) (by exact Nat.le_trans (by assumption) (by decide)) ?_
    intro h tk N3 d3 hD hlo X
    refine S.absorb' X ?_; intro n hn3 hN3 S
    replace hl2 := hl2.le hn3
    replace hD := hD.le hN3
    refine r_spl ?_
    refine wpAny_Constant_bool ?_
    refine r_spl ?_
    refine List_ ?_
    refine r_spl0 ?_
    (rename St _ _ _ _ _ _ => S'); refine r_newList S' (Nat.zero_le _) ?_; clear S'; intro _ _ _ S
    refine r_spl ?_
    (rename St _ _ _ _ _ _ => S'); refine r_name S' rfl ?_
    refine r_spl ?_
    (rename St _ _ _ _ _ _ => S'); refine r_name S' rfl ?_
    refine r_spl ?_
    refine wpAny_Compare1 ?_
    refine r_str ?_; intro _ _
    (rename St _ _ _ _ _ _ => S'); refine r_name S' rfl ?_
    refine r_inStr ?_
    rw [flag_s]
    refine r_spl0 ?_
    (rename St _ _ _ _ _ _ => S'); (rename Gn _ _ => G'); refine And.intro (S'.gn G').in ?_
    rename St _ _ _ _ _ _ => S
    rename Gn _ _ => G
    refine S.freeze' ?_; intro n hn4 hl4 S
    refine c_tbl (T := ⟨plainT ss be bd, false, [], be, bd, bs⟩) S (S.gn G) (by exact dp (by assumption) (by decide)) (hD.le hn4) hlo hl4 .nil (hl2.le hn4) hi2 ?_
    clear S
    intro h tk x n S hn5 hI
    rename St _ _ _ _ _ _ => S
    refine k _ _ ?_
    refine hQ ss be [] _ _ n x hss hbe (fun z => by rw [hbc] at z; cases z) ?_ S.out
    rw [mkTbl, if_neg (by simp [hbc])]; exact hI

/-! trans_text, count_signs -/
theorem plainT_vals (ss bs : List Int) (del : Bool) (hs : ∀ x ∈ ss, 0 ≤ x ∧ x ≤ 122) (hb : ∀ x ∈ bs, 0 ≤ x ∧ x ≤ 122) : ∀ (l : List Nat) (D : List (Int × Int)), (∀ p ∈ l, p < ss.length) → (∀ q ∈ D, q.2 = -2 ∨ (0 ≤ q.2 ∧ q.2 ≤ 122)) → ∀ q ∈ l.foldl (plainStep ss bs del) D, q.2 = -2 ∨ (0 ≤ q.2 ∧ q.2 ≤ 122)
  | [], D, _, hD => hD
  | p :: l, D, hp, hD => by
    refine plainT_vals ss bs del hs hb l _ (fun q hq => hp q (.tail _ hq)) ?_
    unfold plainStep
    split
    · exact hD
    · intro q hq
      rcases List.mem_append.mp hq with hq | hq
      · exact hD q hq
      · rw [List.mem_singleton] at hq
        subst hq
        have getD_mem : ∀ {l : List Int} {i : Nat}, i < l.length → l.getD i 0 ∈ l := fun {l i} h => by
          rw [List.getD_eq_getElem?_getD, List.getElem?_eq_getElem h]; exact List.getElem_mem h
        show plainV _ _ _ _ = -2 ∨ _
        unfold plainV
        split
        · rename_i h; exact .inr (hb _ (getD_mem h))
        · split
          · exact .inl rfl
          · split
            · exact .inr (hs _ (getD_mem (hp p (.head _))))
            · rename_i h1 h2 h3
              exact .inr (hb _ (getD_mem (by have := List.length_pos_iff.mpr h3; exact pred (by assumption))))
theorem lookup_mem {D : List (Int × Int)} {k v : Int} (h : D.lookup k = some v) : (k, v) ∈ D := by
  induction D with
  | nil => cases h
  | cons p r ih =>
    rw [List.lookup_cons] at h
    by_cases q : k = p.1
    · subst q
      simp at h; subst h; exact .head _
    · have : (k == p.1) = false := by simpa using q
      rw [this] at h
      exact .tail _ (ih h)
theorem code_ok {bc bd bs : Bool} {ss be ns' : List Int} {c : Nat} (hs : ∀ x ∈ ss, 0 ≤ x ∧ x ≤ 122) (hb : ∀ x ∈ be, 0 ≤ x ∧ x ≤ 122) (hc : c ≤ 1000) :
    codeC (mkTbl bc bd bs ss be ns') c = -1 ∨ codeC (mkTbl bc bd bs ss be ns') c = -2 ∨ (0 ≤ codeC (mkTbl bc bd bs ss be ns') c ∧ codeC (mkTbl bc bd bs ss be ns') c ≤ 1114111) := by
  have getD_mem : ∀ {l : List Int} {i : Nat}, i < l.length → l.getD i 0 ∈ l := fun {l i} h => by
    rw [List.getD_eq_getElem?_getD, List.getElem?_eq_getElem h]; exact List.getElem_mem h
  cases bc
  · show codeC ⟨plainT ss be bd, false, [], be, bd, bs⟩ c = -1 ∨ _
    rw [mkTbl, if_neg Bool.false_ne_true]
    unfold codeC
    rw [if_neg Bool.false_ne_true]
    dsimp only
    cases h : (plainT ss be bd).lookup (c : Int) with
    | none => exact .inl rfl
    | some v =>
      have := plainT_vals ss be bd hs hb (List.range ss.length) [] (fun p hp => List.mem_range.mp hp) (by simp) _ (lookup_mem h)
      show v = -1 ∨ v = -2 ∨ (0 ≤ v ∧ v ≤ 1114111)
      dsimp only at this
      (first | exact z247 this | omega)
  · rw [mkTbl, if_pos rfl]
    unfold codeC
    rw [if_pos rfl]
    unfold turnedC
    dsimp only
    generalize rankO (once ns') (c : Int) = r
    split
    · exact .inl rfl
    · split
      · have := hb _ (getD_mem (l := be) (i := r.toNat) (by (first | exact z248 (by assumption) (by assumption) | omega))); (first | exact z249 this | omega)
      · split
        · exact .inr (.inl rfl)
        · split
          · (first | exact z250 hc | omega)
          · rename_i h3
            have := hb _ (getD_mem (l := be) (i := be.length - 1) (by have := List.length_pos_iff.mpr h3; exact pred (by assumption))); (first | exact z249 this | omega)
theorem mk_lens {bc bd bs : Bool} {ss be ns' : List Int} (h1 : be.length ≤ 820) (h2 : bc = true → ns'.length ≤ 820) : (mkTbl bc bd bs ss be ns').barred.length ≤ 1000 ∧ (mkTbl bc bd bs ss be ns').becomes.length ≤ 1000 := by
  cases bc
  · rw [mkTbl, if_neg Bool.false_ne_true]; exact ⟨by simp, by show be.length ≤ 1000; exact Nat.le_trans (by assumption) (by decide)⟩
  · rw [mkTbl, if_pos rfl]
    have := once_len ns' []
    have := h2 rfl
    refine ⟨?_, by show be.length ≤ 1000; exact Nat.le_trans (by assumption) (by decide)⟩
    show (once ns').length ≤ 1000
    unfold once
    simp at *
    exact Nat.le_trans (by assumption) (Nat.le_trans (by assumption) (by decide))

set_option maxHeartbeats 4000000 in
theorem c_trans {prog : Program} {w : World} {A : Around} {E : Value → Shared → Prop} {Q : Value → Shared → Prop} {s : Shared} {h : Heap} {tk : Nat} {cs src tgt : List Nat} {bc bd bs : Bool} {t0 t1 t2 t3 tm : Tok} {outer : List Env}
    (hA : A.frames = some outer) (F : Frs h outer) (G : Gn w h.get?) (hd : A.depth + 30 < recursionLimit) (hu : A.units + 400 < cLine) (hh : A.handled = none)
    (hcs : src.length ≤ 20) (hok : okE src) (hb : ∀ p ∈ signsF src, 0 ≤ p.1 ∧ p.1 ≤ 122) (hcs2 : tgt.length ≤ 20) (hok2 : okE tgt) (hb2 : ∀ p ∈ signsF tgt, 0 ≤ p.1 ∧ p.1 ≤ 122)
    (hl : cs.length ≤ 1000) (hc : ∀ c ∈ cs, c ≤ 1000)
    (hS : bc = true → ∀ ss, codesF (signsF src) = some ss → ∀ vs, IntsAre vs ss → 2 ≤ vs.length → SortOk vs)
    (hQ : ∀ ss be ns' h' tk' N d t t', codesF (signsF src) = some ss → codesF (signsF tgt) = some be → (bc = true → ns'.Perm ss ∧ ns'.Pairwise (· ≤ ·)) →
      Tup N d [.str (tx (runT (mkTbl bc bd bs ss be ns') cs).out) t, .int (runT (mkTbl bc bd bs ss be ns') cs).count t'] → Ext h h' N → Q (.ref d) (mkS s h' tk'))
    (hE : codesF (signsF src) = none ∨ codesF (signsF tgt) = none → ∀ h' tk' e, Raised h outer e h' → E (.ref e) (mkS s h' tk')) :
    wpAny (model prog w) A (call (.ref 145) [.str (tx cs) t0, .str (tx src) t1, .str (tx tgt) t2, .str (tx (flagsL bc bd bs)) t3, .int 1000 tm]) Q E (mkS s h tk) := by
  refine enterE [(Str.ofString "text", .str (tx cs) t0), (Str.ofString "source", .str (tx src) t1), (Str.ofString "target", .str (tx tgt) t2), (Str.ofString "flags", .str (tx (flagsL bc bd bs)) t3), (Str.ofString "most", .int 1000 tm)] G rfl rfl (by exact dd0 (by assumption)) rfl rfl rfl ?_
  intro L h₁ tk₁ hL₀ S
  refine x_ret ?_; intro N k
  (rename St _ _ _ _ _ _ => S'); (rename Gn _ _ => G'); refine r_cdef (S'.gn G') rfl rfl ?_
  refine r_spl ?_
  (rename St _ _ _ _ _ _ => S'); (rename Gn _ _ => G'); refine r_cdef (S'.gn G') rfl rfl ?_
  refine r_spl ?_
  (rename St _ _ _ _ _ _ => S'); refine r_name S' rfl ?_
  refine r_spl ?_
  (rename St _ _ _ _ _ _ => S'); refine r_name S' rfl ?_
  refine r_spl ?_
  (rename St _ _ _ _ _ _ => S'); refine r_name S' rfl ?_
  refine r_spl ?_
  (rename St _ _ _ _ _ _ => S'); refine r_name S' rfl ?_
  refine r_spl0 ?_
  (rename St _ _ _ _ _ _ => S'); (rename Gn _ _ => G'); refine And.intro (S'.gn G').in ?_
  rename St _ _ _ _ _ _ => S
  rename Gn _ _ => G
  refine c_make (frames_deeper' hA) (S.frames (F.le S.kg) rfl rfl) (S.gn G) (by exact dp (by assumption) (by decide)) (by exact un (by assumption) (by decide)) hh hcs hok hb hcs2 hok2 hb2 hS ?_ (fun hn h' tk' e R => leave_on (frames_deeper' hA) rfl S.kg hL₀ R fun h' R => hE hn _ _ _ R)
  intro ss be ns' h tk N x hss hbe hp hI X
  refine S.absorb' X ?_; intro n hn1 hN1 S
  replace hI := hI.le hN1
  obtain ⟨l1, m1⟩ := codesF_ok _ _ (Nat.le_refl _) hb ss hss
  obtain ⟨l2, m2⟩ := codesF_ok _ _ (Nat.le_refl _) hb2 be hbe
  have hsl := codes_len hcs hb hss
  have hbl := codes_len hcs2 hb2 hbe
  have hln := mk_lens (bc := bc) (bd := bd) (bs := bs) (ss := ss) (ns' := ns') hbl fun z => by rw [(hp z).1.length_eq]; exact hsl
  refine r_spl ?_
  (rename St _ _ _ _ _ _ => S'); refine r_name S' rfl ?_
  refine r_spl0 ?_
  (rename St _ _ _ _ _ _ => S'); (rename Gn _ _ => G'); refine And.intro (S'.gn G').in ?_
  rename St _ _ _ _ _ _ => S
  rename Gn _ _ => G
  refine c_run (S.gn G) (by exact dp (by assumption) (by decide)) (by exact un (by assumption) (by decide)) hh (hI.le S.kn) hln.1 hln.2 hl (fun c hc' => code_ok m1 m2 (hc c hc')) ?_
  intro h tk N2 d t t' hT X
  refine S.absorb' X ?_; intro n hn2 hN2 S
  rename St _ _ _ _ _ _ => S
  refine k _ _ ?_
  exact hQ ss be ns' _ _ n d t t' hss hbe hp (hT.le hN2) S.out

set_option maxHeartbeats 4000000 in
theorem c_count {prog : Program} {w : World} {A : Around} {E : Value → Shared → Prop} {Q : Value → Shared → Prop} {s : Shared} {h : Heap} {tk : Nat} {cs src : List Nat} {t0 t1 tm : Tok} {outer : List Env} {ss : List Int}
    (hA : A.frames = some outer) (F : Frs h outer) (G : Gn w h.get?) (hd : A.depth + 30 < recursionLimit) (hu : A.units + 400 < cLine) (hh : A.handled = none)
    (hcs : src.length ≤ 20) (hok : okE src) (hb : ∀ p ∈ signsF src, 0 ≤ p.1 ∧ p.1 ≤ 122)
    (hl : cs.length ≤ 1000) (hc : ∀ c ∈ cs, c ≤ 1000) (hss : codesF (signsF src) = some ss)
    (hQ : ∀ h' tk' t, Le h.get? h'.get? → Q (.int (runT (mkTbl false false false ss [] []) cs).count t) (mkS s h' tk')) :
    wpAny (model prog w) A (call (.ref 152) [.str (tx cs) t0, .str (tx src) t1, .int 1000 tm]) Q E (mkS s h tk) := by
  refine enterE [(Str.ofString "text", .str (tx cs) t0), (Str.ofString "source", .str (tx src) t1), (Str.ofString "most", .int 1000 tm)] G rfl rfl (by exact dd0 (by assumption)) rfl rfl rfl ?_
  intro L h₁ tk₁ hL₀ S
  refine x_ret ?_; intro N k
  refine Subscript_ ?_
  (rename St _ _ _ _ _ _ => S'); (rename Gn _ _ => G'); refine r_cdef (S'.gn G') rfl rfl ?_
  refine r_spl ?_
  (rename St _ _ _ _ _ _ => S'); (rename Gn _ _ => G'); refine r_cdef (S'.gn G') rfl rfl ?_
  refine r_spl ?_
  (rename St _ _ _ _ _ _ => S'); refine r_name S' rfl ?_
  refine r_spl ?_
  refine r_str ?_; intro _ _
  refine r_spl ?_
  refine r_str ?_; intro _ _
  refine r_spl ?_
  (rename St _ _ _ _ _ _ => S'); refine r_name S' rfl ?_
  refine r_spl0 ?_
  (rename St _ _ _ _ _ _ => S'); (rename Gn _ _ => G'); refine And.intro (S'.gn G').in ?_
  rename St _ _ _ _ _ _ => S
  rename Gn _ _ => G
  rw [show Str.ofString "" = tx [] from by decide]
  refine c_make (tgt := []) (bc := false) (bd := false) (bs := false) (frames_deeper' hA) (S.frames (F.le S.kg) rfl rfl) (S.gn G) (by exact dp (by assumption) (by decide)) (by exact un (by assumption) (by decide)) hh hcs hok hb (by simp) (by simp [okE]) (by simp [signsF]) (fun z => by cases z) ?_ (fun hn => by
    exfalso
    rcases hn with hn | hn
    · rw [hss] at hn; cases hn
    · simp [signsF, codesF] at hn)
  intro ss' be ns' h tk N x hss' hbe hp hI X
  obtain rfl : ss = ss' := Option.some.inj (hss.symm.trans hss')
  obtain rfl : be = [] := by simpa [signsF, codesF] using hbe.symm
  refine S.absorb' X ?_; intro n hn1 hN1 S
  replace hI := hI.le hN1
  obtain ⟨l1, m1⟩ := codesF_ok _ _ (Nat.le_refl _) hb ss hss
  have hln := mk_lens (bc := false) (bd := false) (bs := false) (ss := ss) (be := []) (ns' := ns') (by simp) (fun z => by cases z)
  refine r_spl ?_
  (rename St _ _ _ _ _ _ => S'); refine r_name S' rfl ?_
  refine r_spl0 ?_
  (rename St _ _ _ _ _ _ => S'); (rename Gn _ _ => G'); refine And.intro (S'.gn G').in ?_
  rename St _ _ _ _ _ _ => S
  rename Gn _ _ => G
  refine c_run (S.gn G) (by exact dp (by assumption) (by decide)) (by exact un (by assumption) (by decide)) hh (hI.le S.kn) hln.1 hln.2 hl (fun c hc' => code_ok m1 (by simp) (hc c hc')) ?_
  intro h tk N2 d t t' hT X
  refine S.absorb' X ?_; intro n hn2 hN2 S
  refine r_int ?_; intro _ _
  rename St _ _ _ _ _ _ => S
  refine r_titem (S.nAt (hT.le hN2)) (j := 1) rfl rfl (by simp) ?_
  rename St _ _ _ _ _ _ => S
  refine k _ _ ?_
  exact hQ _ _ _ S.kg

/-! _law_draw -/
noncomputable def drawF (ns : List Int) (i : Nat) (m : Int) : Int := (ns.getD (i % ns.length) 0 + 7 * ((i / ns.length : Nat) : Int)) % m

set_option maxHeartbeats 2000000 in
theorem c_draw {prog : Program} {w : World} {A : Around} {E : Value → Shared → Prop} {Q : Value → Shared → Prop} {s : Shared} {h : Heap} {tk : Nat} {p l : Addr} {vs : List Value} {ns : List Int} {i : Nat} {t tm : Tok} {many : Int} {g₀ : PM}
    (G : Gn w g₀) (k₀ : Le g₀ h.get?) (hg : g₀ p = none) (hd : A.depth < recursionLimit) (hp : At h.get? p (wlsP [.ref l, .int i t])) (hl : Wls h.get? l vs) (hlp : l ≠ p) (hi : IntsAre vs ns) (hn0 : 0 < ns.length) (hnz : ns.length ≤ 1000) (hiz : i ≤ 1000) (hm : 0 < many)
    (hQ : ∀ h' tk' t t', Le (less h [p]) h'.get? → At h'.get? p (wlsP [.ref l, .int (i + 1 : Nat) t']) → Q (.int (drawF ns i many) t) (mkS s h' tk')) :
    wpAny (model prog w) A (call (.ref 167) [.ref p, .int many tm]) Q E (mkS s h tk) := by
  refine enter [(Str.ofString "pen", .ref p), (Str.ofString "many", .int many tm)] (G.le k₀) rfl rfl (by assumption) rfl rfl rfl ?_
  intro L h₁ tk₁ S
  replace S := S.take hp
  have hle : Le g₀ (less h [p]) := fun b o q => less_of (by simp; intro z; rw [z, hg] at q; cases q) (k₀ _ _ q)
  replace G := G.le hle
  have hl : Wls (less h [p]) l vs := by obtain ⟨o, e, r⟩ := hl; exact ⟨o, less_of (by simpa using hlp) e, r⟩
  have hvl := hi.length
  refine x_set ?_; intro N k
  refine Subscript_ ?_
  (rename St _ _ _ _ _ _ => S'); refine r_name S' rfl ?_
  refine r_int ?_; intro _ _
  rename St _ _ _ _ _ _ => S
  refine r_item (S.fAt (.head _)) (by decide) (v := .int i t) rfl ?_
  refine k _ _ ?_; clear k N
  (rename St _ _ _ _ _ _ => S'); refine r_store S' ?_; clear S'; intro _ _ S
  refine wpAny_execs_cons ?_
  refine wpAny_Assign_Subscript ?_
  refine wpAny_BinOp ?_
  (rename St _ _ _ _ _ _ => S'); refine r_name S' rfl ?_
  refine r_int ?_; intro _ _
  refine r_add ?_; intro _ _
  (rename St _ _ _ _ _ _ => S'); refine r_name S' rfl ?_
  refine r_int ?_; intro _ _
  rename St _ _ _ _ _ _ => S
  refine r_setItem S .head (i := 1) rfl (by simp) (by simp) ?_
  clear S
  intro h₂ tk S
  refine x_ret ?_; intro N k
  refine wpAny_BinOp ?_
  refine wpAny_BinOp ?_
  refine Subscript_ ?_
  refine Subscript_ ?_
  (rename St _ _ _ _ _ _ => S'); refine r_name S' rfl ?_
  refine r_int ?_; intro _ _
  rename St _ _ _ _ _ _ => S
  refine r_item (S.fAt (.head _)) (by decide) (v := .ref l) rfl ?_
  refine wpAny_BinOp ?_
  (rename St _ _ _ _ _ _ => S'); refine r_name S' rfl ?_
  (rename St _ _ _ _ _ _ => S'); (rename Gn _ _ => G'); refine r_cbi1 (S'.gn G') rfl boot_len ?_
  refine Subscript_ ?_
  (rename St _ _ _ _ _ _ => S'); refine r_name S' rfl ?_
  refine r_int ?_; intro _ _
  rename St _ _ _ _ _ _ => S
  refine r_item (S.fAt (.head _)) (by decide) (v := .ref l) rfl ?_
  rename St _ _ _ _ _ _ => S
  refine r_len (S.gAt hl) (by exact lt63 (eqle (by assumption) (Nat.le_trans (by assumption) (by decide)))) fun t₂ tk => ?_
  refine r_mod (by (first | exact z165 hn0 hvl | omega)) fun t₃ tk => ?_
  have hmod : ((i : Int) % (vs.length : Int)) = ((i % ns.length : Nat) : Int) := by rw [hvl]; exact (Int.natCast_emod ..).symm
  have hlt : i % ns.length < ns.length := Nat.mod_lt _ hn0
  obtain ⟨t₄, e₄⟩ := intsAt hi hlt
  refine r_item (S.gAt hl) (by (first | exact z166 | omega)) (v := .int ns[i % ns.length] t₄) (by rw [← e₄, hmod]; congr 1) (hb := by (first | exact z167 hnz hmod hlt | omega)) ?_
  refine wpAny_BinOp ?_
  refine r_int ?_; intro _ _
  refine wpAny_BinOp ?_
  (rename St _ _ _ _ _ _ => S'); refine r_name S' rfl ?_
  (rename St _ _ _ _ _ _ => S'); (rename Gn _ _ => G'); refine r_cbi1 (S'.gn G') rfl boot_len ?_
  refine Subscript_ ?_
  (rename St _ _ _ _ _ _ => S'); refine r_name S' rfl ?_
  refine r_int ?_; intro _ _
  rename St _ _ _ _ _ _ => S
  refine r_item (S.fAt (.head _)) (by decide) (v := .ref l) rfl ?_
  rename St _ _ _ _ _ _ => S
  refine r_len (S.gAt hl) (by exact lt63 (eqle (by assumption) (Nat.le_trans (by assumption) (by decide)))) fun t₅ tk => ?_
  refine r_fdiv (by exact eqlt (by assumption) (by assumption)) (by (first | exact z168 hnz hvl | omega)) fun t₆ tk => ?_
  refine r_mul7 fun t₇ tk => ?_
  refine r_add ?_; intro _ _
  (rename St _ _ _ _ _ _ => S'); refine r_name S' rfl ?_
  refine r_mod hm fun t₈ tk => ?_
  rename St _ _ _ _ _ _ => S
  have hv : (ns[i % ns.length] + 7 * ((i / vs.length : Nat) : Int)) % many = drawF ns i many := by
    rw [drawF, hvl, List.getD_eq_getElem?_getD, List.getElem?_eq_getElem hlt]; rfl
  rw [hv]
  refine k _ _ ?_
  exact hQ _ _ _ _ S.kg (S.fAt (.head _))

/-! _law_list -/
noncomputable def atomsL : List (List Nat) := [[97], [98], [99], [45], [92, 45], [97, 45, 100], [99, 45, 102], [92, 92], [102, 45, 98], [122], [92, 110]]
noncomputable def atomF (ns : List Int) (i : Nat) : List Nat := atomsL.getD (drawF ns i 11).toNat []
noncomputable def listN (ns : List Int) (i : Nat) : Nat := (drawF ns i 4).toNat
noncomputable def listA (ns : List Int) (i : Nat) : List (List Nat) := (List.range (listN ns i)).map fun j => atomF ns (i + 1 + j)
noncomputable def listF (ns : List Int) (i : Nat) : List Nat := (listA ns i).flatten
theorem drawF_range (ns : List Int) (i : Nat) {m : Int} (h : 0 < m) : 0 ≤ drawF ns i m ∧ drawF ns i m < m := ⟨Int.emod_nonneg _ (by (first | exact z184 h | omega)), Int.emod_lt_of_pos _ h⟩

theorem join_tx : ∀ o : List (List Nat), Txt.join (Str.ofString "") (o.map tx) = tx o.flatten := by
  intro o
  show PySem.Builtin.Str.glued _ _ = _
  rw [PySem.StrLaws.glued_eq_join]
  induction o with
  | nil => rfl
  | cons a r ih =>
    cases r with
    | nil => simp [PySem.Str.join]
    | cons b r =>
      show tx a ++ Str.ofString "" ++ PySem.Str.join (Str.ofString "") ((b :: r).map tx) = _
      rw [ih]
      exact PySem.Str.ext' (by simp [PySem.Str.cps_append, show (Str.ofString "").cps = #[] from by decide])
theorem joinOk_tx (o : List (List Nat)) (h : o.length ≤ 1000) (hb : ∀ x ∈ o, x.length ≤ 10) : JoinOk (Str.ofString "") (o.map tx) = true := by
  unfold JoinOk
  rw [Bool.not_eq_true']
  have : (Str.ofString "").length = 0 := by decide
  exact PySem.StrLaws.joinFits (B := 10) (fun y hy => by
    obtain ⟨c, hc, rfl⟩ := List.mem_map.mp hy
    have := hb c hc
    show c.toArray.size ≤ 10
    simpa using this) (by rw [this, List.length_map]; (first | exact z252 h | omega))
theorem atom_len (ns : List Int) (i : Nat) : (atomF ns i).length ≤ 3 := by
  have : ∀ j, (atomsL.getD j []).length ≤ 3 := by
    intro j
    by_cases h : j < 11
    · have : ∀ j < 11, (atomsL.getD j []).length ≤ 3 := by decide
      exact this j h
    · rw [List.getD_eq_getElem?_getD, List.getElem?_eq_none (by simpa [atomsL] using h)]; simp
  exact this _

theorem atoms_at {w : World} {h : Heap} (G : Gn w h.get?) : ∃ vs, Tup h.get? 160 vs ∧ ∀ j, j < 11 → ∃ t, vs[j]? = some (.str (tx (atomsL.getD j [])) t) := by
  obtain ⟨o, ho, hc, vs, k, hd, hv⟩ : ∃ o, (KK w).lookup 160 = some o ∧ o.cls = .type "tuple" ∧ ∃ vs k, o.data = .seq vs k ∧ ∀ j, j < 11 → ∃ t, vs.toList[j]? = some (.str (tx (atomsL.getD j [])) t) := by
    refine ⟨_, rfl, rfl, _, _, rfl, ?_⟩
    intro j hj
    match j, hj with
    | 0, _ => exact ⟨_, rfl⟩
    | 1, _ => exact ⟨_, rfl⟩
    | 2, _ => exact ⟨_, rfl⟩
    | 3, _ => exact ⟨_, rfl⟩
    | 4, _ => exact ⟨_, rfl⟩
    | 5, _ => exact ⟨_, rfl⟩
    | 6, _ => exact ⟨_, rfl⟩
    | 7, _ => exact ⟨_, rfl⟩
    | 8, _ => exact ⟨_, rfl⟩
    | 9, _ => exact ⟨_, rfl⟩
    | 10, _ => exact ⟨_, rfl⟩
  exact ⟨vs.toList, ⟨o, G.kin _ _ ho, hc, k, by simpa using hd⟩, hv⟩

set_option maxHeartbeats 4000000 in
theorem c_list {prog : Program} {w : World} {A : Around} {E : Value → Shared → Prop} {Q : Value → Shared → Prop} {s : Shared} {h : Heap} {tk : Nat} {p l : Addr} {vs : List Value} {ns : List Int} {i : Nat} {t : Tok} {g₀ : PM}
    (G : Gn w g₀) (k₀ : Le g₀ h.get?) (hg : g₀ p = none) (hd : A.depth + 2 < recursionLimit) (hh : A.handled = none) (hp : At h.get? p (wlsP [.ref l, .int i t])) (hl : Wls h.get? l vs) (hlp : l ≠ p) (hi : IntsAre vs ns) (hn0 : 0 < ns.length) (hnz : ns.length ≤ 1000) (hiz : i ≤ 900)
    (hQ : ∀ h' tk' t t', Le (less h [p]) h'.get? → At h'.get? p (wlsP [.ref l, .int (i + 1 + listN ns i : Nat) t']) → Q (.str (tx (listF ns i)) t) (mkS s h' tk')) :
    wpAny (model prog w) A (call (.ref 172) [.ref p]) Q E (mkS s h tk) := by
  refine enterC [(Str.ofString "pen", .ref p)] (G.le k₀) rfl rfl (by exact dd0 (by assumption)) rfl (fun k x hx => by rw [List.mem_singleton] at hx; subst hx; exact .inr ⟨rfl, rfl⟩) (by decide) ?_
  intro L h₁ tk₁ hL₀ S
  replace S := S.take' hp
  have hle : Le g₀ (less h [p]) := fun b o q => less_of (by simp; intro z; rw [z, hg] at q; cases q) (k₀ _ _ q)
  replace G := G.le hle
  have hl : Wls (less h [p]) l vs := by obtain ⟨o, e, r⟩ := hl; exact ⟨o, less_of (by simpa using hlp) e, r⟩
  have hvl := hi.length
  clear hle k₀ hg
  replace S : St (less h [p]) PM0 h₁ L (fun _ => none) [(p, wlsP [.ref l, .int i t]), (L + 1, celO (some (.ref p)))] := S
  replace S := S.perm (.swap _ _ _)
  refine S.freeze' ?_; intro n _ hc S
  refine x_ret ?_; intro N k
  refine MethodCall_ ?_
  refine r_str ?_; intro _ _
  refine GM.join ?_
  refine PyProof.Rows.callWith_method1 ?_
  refine r_spl ?_
  refine x_comp [(Str.ofString "pen", L + 1)] ?_; intro N k
  (rename St _ _ _ _ _ _ => S'); (rename Gn _ _ => G'); refine r_crange (S'.gn G') rfl ?_
  refine r_spl ?_
  (rename St _ _ _ _ _ _ => S'); (rename Gn _ _ => G'); refine r_cdef (S'.gn G') rfl rfl ?_
  refine r_spl ?_
  rename St _ _ _ _ _ _ => S
  refine r_cellN (S.nAt hc) ?_
  refine r_spl ?_
  refine r_int ?_; intro _ _
  refine r_spl0 ?_
  (rename St _ _ _ _ _ _ => S'); (rename Gn _ _ => G'); refine And.intro (S'.gn G').in ?_
  rename St _ _ _ _ _ _ => S
  rename Gn _ _ => G
  refine c_draw G S.kg (S.fx _ (.head _)).2.2.1 (by exact dp0 (by assumption) (by decide)) (S.fAt (.head _)) (S.gAt hl) hlp hi hn0 hnz (by exact Nat.le_trans (by assumption) (by decide)) (by decide) ?_
  intro h₂ tk t₁ t₂ hk hp₂
  replace S := S.touch .head hp₂ hk
  clear hk hp₂
  have hr := drawF_range ns i (m := 4) (by decide)
  have hN : (listN ns i : Int) = drawF ns i 4 := by unfold listN; exact ts' (by assumption)
  refine r_spl0 ?_
  rename St _ _ _ _ _ _ => S
  refine r_range1 S ?_
  clear S
  intro r h tk S hrg
  refine r_iter_range S hh hrg (by decide) (by decide) (by (first | exact z253 hr | omega)) (by (first | exact z254 hr | omega)) ?_
  clear S
  intro I h fp Sti S T
  have zL : (1000000 : Nat) ≤ sizeLine := by rw [sizeLine_eq]; decide
  refine k _ _ ?_; clear k N
  refine comp0 (fsM := [_]) (fsK := []) (fun q ys fs => X1 fun t => (fs = [(p, wlsP [.ref l, .int (i + 1 + q : Nat) t])]) ∧ (Strs ys (((List.range q).map fun j => atomF ns (i + 1 + j)).map tx))) hh S T ?_ (by (first | exact z255 hr zL | omega)) ?_ ?_ (by rfl)
  · exact ⟨_, rfl, .nil⟩
  · clear S T
    intro q v ys g₂ n₂ m₂ fs h tk C Fn hF hg hn hgL hlt hp0 hp1 S
    refine hide fun q₀ kq => ?_
    obtain ⟨tv, rfl⟩ := hp0
    obtain ⟨t₃, rfl, hys⟩ := hp1
    refine kq ?_; clear kq q₀
    replace G := G.le hg
    replace hl := hl.le hg
    replace hc := hc.le hn
    refine Subscript_ ?_
    (rename St _ _ _ _ _ _ => S'); (rename Gn _ _ => G'); refine r_glob (S'.gn G') rfl ?_
    (rename St _ _ _ _ _ _ => S'); (rename Gn _ _ => G'); refine r_cdef (S'.gn G') rfl rfl ?_
    refine r_spl ?_
    rename St _ _ _ _ _ _ => S
    refine r_cellN (S.gAt hc) ?_
    refine r_spl ?_
    refine r_int ?_; intro _ _
    refine r_spl0 ?_
    (rename St _ _ _ _ _ _ => S'); (rename Gn _ _ => G'); refine And.intro (S'.gn G').in ?_
    rename St _ _ _ _ _ _ => S
    rename Gn _ _ => G
    have hlt' : q < listN ns i := by (first | exact z256 hN hlt | omega)
    have hN4 : listN ns i < 4 := by (first | exact z257 hr hN | omega)
    refine c_draw G S.kg (S.fx _ (.head _)).2.2.1 (by exact dp0 (by assumption) (by decide)) (S.fAt (.head _)) (S.gAt hl) hlp hi hn0 hnz (by (first | exact z258 hiz hr hN hlt' | omega)) (by decide) ?_
    intro h₂ tk t₁ t₂ hk hp₂
    replace S := S.touch .head hp₂ hk
    clear hk hp₂
    have hr := drawF_range ns (i + 1 + q) (m := 11) (by decide)
    obtain ⟨as, hT, ha⟩ := atoms_at (S.gn G)
    obtain ⟨t₄, e₄⟩ := ha (drawF ns (i + 1 + q) 11).toNat (by (first | exact z259 hr | omega))
    have hasl : as.length ≤ 1000000 := by
      obtain ⟨o, e, c, k, d⟩ := hT
      have hz := G.kin 160 _ rfl
      have := (S.kg _ _ hz).symm.trans e
      cases this
      have d' := (Data.seq.inj d).1
      rw [← Array.toList_inj] at d'
      have := congrArg List.length d'
      simp at this
      (first | exact z260 this | omega)
    refine r_titem hT (j := (drawF ns (i + 1 + q) 11).toNat) (by exact ts (by assumption)) e₄ hasl ?_
    rename St _ _ _ _ _ _ => S
    refine hF _ _ _ _ _ _ S ⟨_, rfl, ?_⟩
    rw [List.range_succ, List.map_append, List.map_append]
    exact hys.append' (.cons _ t₄ .nil)
  · clear S T
    intro D ys fs h tk hp0 S
    refine hide fun q₀ kq => ?_
    obtain ⟨t₃, rfl, hys⟩ := hp0
    refine kq ?_; clear kq q₀
    have hcnt : ((drawF ns i 4 : Int) - 0).toNat = listN ns i := by unfold listN; exact tz (by assumption)
    rw [hcnt] at hys S
    refine r_spl0 ?_
    rename St _ _ _ _ _ _ => S
    refine r_join (xs := (listA ns i).map tx) (Lst.w (S.fAt (.head _))) hys (joinOk_tx _ (by simp [listA]; (first | exact z261 hr hN | omega)) (fun x hx => by
      obtain ⟨j, _, rfl⟩ := List.mem_map.mp hx
      have := atom_len ns (i + 1 + j); exact Nat.le_trans (by assumption) (by decide))) fun t₄ tk => ?_
    rw [join_tx]
    rename St _ _ _ _ _ _ => S
    refine k _ _ ?_
    exact hQ _ _ _ _ S.kg (S.fAt (.tail _ (.head _)))

/-! _law_spelt -/
noncomputable def spF : Bool → List Nat → List (Nat × Bool)
  | true, [] => [(92, false)]
  | false, [] => []
  | true, c :: r => (escC c, true) :: spF false r
  | false, c :: r => if c = 92 then spF true r else (c, false) :: spF false r
noncomputable def rangeN (a b : Nat) : List Nat := (List.range (b + 1 - a)).map fun i => a + i
noncomputable def wdF : List (Nat × Bool) → Option (List Nat)
  | [] => some []
  | [p] => some [p.1]
  | [p, q] => some [p.1, q.1]
  | p :: q :: r :: t => if q = (45, false) then (if r.1 < p.1 then none else (wdF t).map (rangeN p.1 r.1 ++ ·)) else (wdF (q :: r :: t)).map (p.1 :: ·)
theorem wdF_one (p : Nat × Bool) (l : List (Nat × Bool)) (h : ¬ (1 < l.length ∧ l[0]? = some (45, false))) : wdF (p :: l) = (wdF l).map (p.1 :: ·) := by
  match l with
  | [] => simp [wdF]
  | [q] => simp [wdF]
  | q :: r :: t => rw [wdF, if_neg (fun z => h ⟨by simp, by simp [z]⟩)]
theorem wdF_three (p r : Nat × Bool) (t : List (Nat × Bool)) : wdF (p :: (45, false) :: r :: t) = if r.1 < p.1 then none else (wdF t).map (rangeN p.1 r.1 ++ ·) := by
  rw [wdF, if_pos rfl]
theorem spF_len : ∀ (cs : List Nat) (b : Bool), (spF b cs).length ≤ cs.length + 1
  | [], b => by cases b <;> simp [spF]
  | c :: r, true => by have := spF_len r false; simp [spF]; assumption
  | c :: r, false => by
    have h1 := spF_len r false
    have h2 := spF_len r true
    simp only [spF]
    split <;> simp <;> (first | exact z80 h2 | exact z81 h1 | omega)
theorem spF_small : ∀ (cs : List Nat) (b : Bool), (∀ c ∈ cs, c ≤ 122) → ∀ q ∈ spF b cs, q.1 ≤ 122
  | [], b, _, q, hq => by cases b <;> simp [spF] at hq; subst hq; decide
  | c :: r, true, hc, q, hq => by
    simp only [spF, List.mem_cons] at hq
    rcases hq with rfl | hq
    · have := hc c (.head _)
      show escC c ≤ 122
      unfold escC; split <;> (first | exact z82 | exact z83 this | omega)
    · exact spF_small r false (fun x hx => hc x (.tail _ hx)) q hq
  | c :: r, false, hc, q, hq => by
    simp only [spF] at hq
    split at hq
    · exact spF_small r true (fun x hx => hc x (.tail _ hx)) q hq
    · rcases List.mem_cons.mp hq with rfl | hq
      · exact hc c (.head _)
      · exact spF_small r false (fun x hx => hc x (.tail _ hx)) q hq

theorem cut_val {M : Model} {A : Around} {E : Value → Shared → Prop} {s : Shared} {h : Heap} {tk : Nat} {t : Sem Value} {Q : Value → Shared → Prop} (x : Str) (h1 : ∀ N : Value → Shared → Prop, (∀ t' tk', N (.str x t') (mkS s h tk')) → wpAny M A t N E (mkS s h tk)) (h2 : ∀ t' tk', Q (.str x t') (mkS s h tk')) :
    wpAny M A t Q E (mkS s h tk) := h1 Q h2
theorem RowsS.cons_inv {p : PM} {vs : List Value} {q : Nat × Bool} {ps : List (Nat × Bool)} (R : RowsS p vs (q :: ps)) : ∃ a us, vs = .ref a :: us ∧ sPair p a q ∧ RowsS p us ps := by
  cases R with
  | cons x R => exact ⟨_, _, rfl, x, R⟩
theorem n_is : Str.ofString "n" = ch 110 := by decide
theorem nl_is : Str.ofString "\n" = ch 10 := by decide
theorem minus_is : Str.ofString "-" = ch 45 := by decide

set_option maxHeartbeats 4000000 in
theorem c_spelt {prog : Program} {w : World} {A : Around} {E : Value → Shared → Prop} {Q : Value → Shared → Prop} {s : Shared} {h₀ : Heap} {tk : Nat} {cs : List Nat} {tt : Tok}
    (G : Gn w h₀.get?) (hd : A.depth + 1 < recursionLimit) (hu : A.units + 100 < cLine) (hh : A.handled = none) (hcs : cs.length ≤ 20) (hsm : ∀ c ∈ cs, c ≤ 122)
    (hQ1 : ∀ ws, wdF (spF false cs) = some ws → ∀ h' tk' N d us, Strs us (ws.map ch) → Lst N d us → Ext h₀ h' N → Q (.ref d) (mkS s h' tk'))
    (hQ2 : wdF (spF false cs) = none → ∀ h' tk', Le h₀.get? h'.get? → Q .none (mkS s h' tk')) :
    wpAny (model prog w) A (call (.ref 177) [.str (tx cs) tt]) Q E (mkS s h₀ tk) := by
  refine enter [(Str.ofString "text", .str (tx cs) tt)] G rfl rfl (by exact dd0 (by assumption)) rfl rfl rfl ?_
  intro L h₁ tk₁ S
  have zL : (1000000 : Nat) ≤ sizeLine := by rw [sizeLine_eq]; decide
  have hspl := spF_len cs false
  have hsps := spF_small cs false hsm
  generalize hSP : spF false cs = SP at *
  refine x_set ?_; intro N k
  refine List_ ?_
  refine r_spl0 ?_
  (rename St _ _ _ _ _ _ => S'); refine r_newList S' (Nat.zero_le _) ?_; clear S'; intro _ _ _ S
  refine k _ _ ?_; clear k N
  (rename St _ _ _ _ _ _ => S'); refine r_store S' ?_; clear S'; intro _ _ S
  refine x_set ?_; intro N k
  refine wpAny_Constant_bool ?_
  refine k _ _ ?_; clear k N
  (rename St _ _ _ _ _ _ => S'); refine r_store S' ?_; clear S'; intro _ _ S
  refine x_for ?_; intro Rn kr N k
  (rename St _ _ _ _ _ _ => S'); refine r_name S' rfl ?_
  rename St _ _ _ _ _ _ => S
  refine r_iter_str S hh ?_
  clear S
  intro I h fp Sti S T
  rename Gn _ _ => G
  refine k _ _ ?_; clear k N
  refine for_core (fun i n m fs => X4 fun d us ps b => N4 (fs = [(d, lstP us)]) (RowsS n us ps) (ps ++ spF b (cs.drop i) = SP) (Has m [(Str.ofString "pairs", .ref d), (Str.ofString "is_barred", .bool b)])) S T ?_ ?_ ?_
  · exact ⟨_, [], [], false, rfl, .nil, by simpa using hSP, by walk_at "has"⟩
  · clear S T
    intro i v g n m fs h tk Fn hF hg hlt hv hp0 S
    refine hide fun q₀ kq => ?_
    obtain ⟨d, us, ps, b, rfl, hR, hps, hm⟩ := hp0
    refine kq ?_; clear kq q₀
    obtain ⟨c, u, hc, rfl⟩ := hv
    have hlt : i < cs.length := by simpa using hlt
    have hc : cs[i]? = some c := by simpa using hc
    obtain ⟨_, hci⟩ := List.getElem?_eq_some_iff.mp hc
    have hdr : cs.drop i = c :: cs.drop (i + 1) := by rw [List.drop_eq_getElem_cons hlt, hci]
    rw [hdr] at hps
    have G := G.le hg
    have hul := hR.length
    have hpl : ps.length ≤ 21 := by have := congrArg List.length hps; simp at this; (first | exact z84 hcs hspl this | omega)
    rw [show m = ups _ m from (Has.ups hm).symm] at S
    clear hm
    refine x_if ?_; intro Rn kr N k
    refine wpAny_isTrue_value ?_
    (rename St _ _ _ _ _ _ => S'); refine r_name S' rfl ?_
    refine wpAny_truthy_bool ?_
    try (refine k _ _ ?_; clear k N)
    refine ite_bool (fun hb => ?_) (fun hb => ?_)
    · subst hb
      simp only [spF] at hps
      rename St _ _ _ _ _ _ => S
      refine x_appendS S rfl (.head _) ?_; intro N k
      refine Tuple_ ?_
      refine r_spl ?_
      refine cut_val (ch (escC c)) ?_ fun t' tk => ?_
      · intro N k
        refine wpAny_IfExp ?_
        refine wpAny_isTrue_Compare1 ?_
        (rename St _ _ _ _ _ _ => S'); refine r_name S' rfl ?_
        refine r_str ?_; intro _ _
        refine eq_str ?_
        refine wpAny_truthy_bool ?_
        try (refine k _ _ ?_; clear k N)
        rw [n_is, ch_eq]
        refine ite_dec (fun h1 => ?_) (fun h1 => ?_)
        · refine r_str ?_; intro _ _
          rw [show escC c = 10 from if_pos h1, ← nl_is] at k
          exact k _ _
        · (rename St _ _ _ _ _ _ => S'); refine r_name S' rfl ?_
          rw [show escC c = c from if_neg h1] at k
          exact k _ _
      refine r_spl ?_
      refine wpAny_Constant_bool ?_
      refine r_spl0 ?_
      rename St _ _ _ _ _ _ => S
      refine r_tup S (by simp) ?_
      clear S
      intro dt n' h tk hn hT _ S
      rename St _ _ _ _ _ _ => S
      refine k _ _ ?_; clear k N
      refine r_append S .head (by exact eqle (by assumption) (Nat.le_trans (by assumption) (by decide))) ?_
      clear S
      intro h tk S
      refine x_set ?_; intro N k
      refine wpAny_Constant_bool ?_
      refine k _ _ ?_; clear k N
      (rename St _ _ _ _ _ _ => S'); refine r_store S' ?_; clear S'; intro _ _ S
      refine wpAny_execs_nil ?_
      try (refine kr _ ?_; clear kr Rn)
      refine wpAny_execs_nil ?_
      try (refine kr _ ?_; clear kr Rn)
      rename St _ _ _ _ _ _ => S
      refine hF _ _ _ _ _ S ⟨d, _, ps ++ [(escC c, true)], false, rfl, (hR.le hn).snoc ⟨_, hT⟩, by rw [← hps]; simp, by walk_at "has"⟩
    · subst hb
      refine x_if ?_; intro Rn kr N k
      refine wpAny_isTrue_Compare1 ?_
      (rename St _ _ _ _ _ _ => S'); refine r_name S' rfl ?_
      refine r_str ?_; intro _ _
      refine eq_str ?_
      refine wpAny_truthy_bool ?_
      try (refine k _ _ ?_; clear k N)
      rw [bar_is, ch_eq]
      refine ite_dec (fun h1 => ?_) (fun h1 => ?_)
      · simp only [spF, if_pos h1] at hps
        refine x_set ?_; intro N k
        refine wpAny_Constant_bool ?_
        refine k _ _ ?_; clear k N
        (rename St _ _ _ _ _ _ => S'); refine r_store S' ?_; clear S'; intro _ _ S
        refine wpAny_execs_nil ?_
        try (refine kr _ ?_; clear kr Rn)
        refine wpAny_execs_nil ?_
        try (refine kr _ ?_; clear kr Rn)
        refine wpAny_execs_nil ?_
        try (refine kr _ ?_; clear kr Rn)
        rename St _ _ _ _ _ _ => S
        refine hF _ _ _ _ _ S ⟨d, _, ps, true, rfl, hR, hps, by walk_at "has"⟩
      · simp only [spF, if_neg h1] at hps
        rename St _ _ _ _ _ _ => S
        refine x_appendS S rfl (.head _) ?_; intro N k
        refine Tuple_ ?_
        refine r_spl ?_
        (rename St _ _ _ _ _ _ => S'); refine r_name S' rfl ?_
        refine r_spl ?_
        refine wpAny_Constant_bool ?_
        refine r_spl0 ?_
        rename St _ _ _ _ _ _ => S
        refine r_tup S (by simp) ?_
        clear S
        intro dt n' h tk hn hT _ S
        rename St _ _ _ _ _ _ => S
        refine k _ _ ?_; clear k N
        refine r_append S .head (by exact eqle (by assumption) (Nat.le_trans (by assumption) (by decide))) ?_
        clear S
        intro h tk S
        refine wpAny_execs_nil ?_
        try (refine kr _ ?_; clear kr Rn)
        refine wpAny_execs_nil ?_
        try (refine kr _ ?_; clear kr Rn)
        refine wpAny_execs_nil ?_
        try (refine kr _ ?_; clear kr Rn)
        rename St _ _ _ _ _ _ => S
        refine hF _ _ _ _ _ S ⟨d, _, ps ++ [(c, false)], false, rfl, (hR.le hn).snoc ⟨_, hT⟩, by rw [← hps]; simp, by walk_at "has"⟩
  · clear S T
    intro n m fs h tk hp0 S
    refine hide fun q₀ kq => ?_
    obtain ⟨d, us, ps, b, rfl, hR, hps, hm⟩ := hp0
    refine kq ?_; clear kq q₀
    refine kr _ ?_; clear kr Rn
    replace S := S.has hm
    clear hm
    have hsz : (tx cs).cps.size = cs.length := by simp
    rw [hsz, List.drop_length] at hps
    have hul := hR.length
    have hpl : ps.length ≤ 21 := by have := congrArg List.length hps; simp at this; (first | exact z84 hcs hspl this | omega)
    refine wpAny_execs_cons ?_
    rename St _ _ _ _ _ _ => S
    refine cut_next (fun s₂ => X5 fun (us : List Value) (n' : PM) (m' : Str → Option Value) (h' : Heap) (tk' : Nat) => N4 (s₂ = mkS s h' tk') (St h₀.get? n' h' L m' [(d, lstP us)]) (RowsS n' us SP) (Has m' [(Str.ofString "pairs", .ref d)])) ?_ ?_
    · intro Rn kr
      refine x_ifc ?_; intro N k
      refine wpAny_isTrue_value ?_
      (rename St _ _ _ _ _ _ => S'); refine r_name S' rfl ?_
      refine wpAny_truthy_bool ?_
      try (refine k _ _ ?_; clear k N)
      refine ite_bool (fun hb => ?_) (fun hb => ?_)
      · subst hb
        simp only [spF] at hps
        rename St _ _ _ _ _ _ => S
        refine x_appendS S rfl (.head _) ?_; intro N k
        refine Tuple_ ?_
        refine r_spl ?_
        refine r_str ?_; intro _ _
        refine r_spl ?_
        refine wpAny_Constant_bool ?_
        refine r_spl0 ?_
        rename St _ _ _ _ _ _ => S
        refine r_tup S (by simp) ?_
        clear S
        intro dt n' h tk hn hT _ S
        rename St _ _ _ _ _ _ => S
        refine k _ _ ?_; clear k N
        refine r_append S .head (by exact eqle (by assumption) (Nat.le_trans (by assumption) (by decide))) ?_
        clear S
        intro h tk S
        refine wpAny_execs_nil ?_
        try (refine kr _ ?_; clear kr Rn)
        rename St _ _ _ _ _ _ => S
        rw [bar_is] at hT
        exact ⟨_, _, _, _, _, rfl, S, hps ▸ (hR.le hn).snoc ⟨_, hT⟩, by walk_at "has"⟩
      · subst hb
        simp only [spF, List.append_nil] at hps
        refine wpAny_execs_nil ?_
        try (refine kr _ ?_; clear kr Rn)
        rename St _ _ _ _ _ _ => S
        exact ⟨_, _, _, _, _, rfl, S, hps ▸ hR, by walk_at "has"⟩
    · clear S hR hps hul hpl us ps b
      intro s₂ hp0
      refine hide fun q₀ kq => ?_
      obtain ⟨us, n, m, h, tk, rfl, S, hR, hm⟩ := hp0
      refine kq ?_; clear kq q₀
      replace S := S.has hm
      clear hm
      dsimp only
      refine x_set ?_; intro N k
      refine List_ ?_
      refine r_spl0 ?_
      (rename St _ _ _ _ _ _ => S'); refine r_newList S' (Nat.zero_le _) ?_; clear S'; intro _ _ _ S
      refine k _ _ ?_; clear k N
      (rename St _ _ _ _ _ _ => S'); refine r_store S' ?_; clear S'; intro _ _ S
      rename St _ _ _ _ _ _ => S
      refine S.rise' ?_; intro g₁ hg₁ hgn S
      replace hR := hR.le hgn
      rename Gn _ _ => G
      replace G := G.le hg₁
      clear hgn
      refine x_while (fun k n m fs => X6 fun (d : Addr) (e : Addr) (us : List Value) (ws : List Value) (ps : List (Nat × Bool)) (acc : List Nat) => N8 (k = ps.length) (fs = [(e, lstP ws), (d, lstP us)]) (RowsS g₁ us ps) (Strs ws (acc.map ch)) (wdF SP = (wdF ps).map (acc ++ ·)) (acc.length + 123 * ps.length ≤ 123 * 21) ((∀ q ∈ ps, q.1 ≤ 122)) (Has m [(Str.ofString "pairs", .ref d), (Str.ofString "signs", .ref e)])) (k₀ := SP.length) S ?_ ?_
      · exact ⟨d, _, us, [], SP, [], rfl, rfl, hR, .nil, by simp, by simp; (first | exact z85 hcs hspl | omega), hsps, by walk_at "has"⟩
      · clear S hR
        intro Rn kr kk n m fs h tk Fn N hF k S hp0
        refine hide fun q₀ kq => ?_
        obtain ⟨d, e, us, ws, ps, acc, rfl, rfl, hR, hws, hwd, hal, hsm2, hm⟩ := hp0
        refine kq ?_; clear kq q₀
        replace S := S.has hm
        clear hm
        have hul := hR.length
        have hwl := strs_len hws
        rw [List.length_map] at hwl
        refine wpAny_isTrue_Compare1 ?_
        (rename St _ _ _ _ _ _ => S'); refine r_name S' rfl ?_
        refine List_ ?_
        refine r_spl0 ?_
        (rename St _ _ _ _ _ _ => S'); refine r_newList S' (Nat.zero_le _) ?_; clear S'; intro _ _ _ S
        rename St _ _ _ _ _ _ => S
        refine r_rowsNe (Lst.w (S.fAt (.tail _ (.tail _ (.head _))))) (hR.le S.kg) (Lst.w (S.fAt (.head _))) (fun q hq => by have := hsm2 q hq; exact Nat.le_trans (by assumption) (by decide)) (by exact un (by assumption) (by decide)) ?_
        replace S := S.sub (List.sublist_cons_self ..)
        refine wpAny_truthy_bool ?_
        try (refine k _ _ ?_; clear k N)
        refine ite_bool (fun hne => ?_) (fun hne => ?_)
        · obtain ⟨p, ps, rfl⟩ : ∃ p r, ps = p :: r := by
            cases ps with
            | nil => simp at hne
            | cons p r => exact ⟨p, r, rfl⟩
          obtain ⟨a, us, rfl, ⟨t₀, hp⟩, hR⟩ := hR.cons_inv
          · clear hne
            have hul : us.length = ps.length := hR.length
            have hal : acc.length + 123 * (ps.length + 1) ≤ 123 * 21 := by simpa using hal
            have hp122 := hsm2 p (.head _)
            replace hsm2 : ∀ q ∈ ps, q.1 ≤ 122 := fun q hq => hsm2 q (.tail _ hq)
            refine x_set ?_; intro N k
            refine Subscript_ ?_
            refine MethodCall_ ?_
            (rename St _ _ _ _ _ _ => S'); refine r_name S' rfl ?_
            rename St _ _ _ _ _ _ => S
            refine r_lmeth (S.fAt (.tail _ (.head _))) PySem.F.slot_list_pop PySem.F.type_list_pop ?_
            refine PyProof.Rows.callWith_method1 ?_
            refine r_spl ?_
            refine r_int ?_; intro _ _
            refine r_spl0 ?_
            rename St _ _ _ _ _ _ => S
            refine r_pop0 S (.tail .head) (by (first | exact z86 hul hal | omega)) ?_
            clear S
            intro h tk S
            refine r_int ?_; intro _ _
            rename St _ _ _ _ _ _ => S
            refine r_titem (S.gAt hp) (j := 0) rfl rfl (by simp) ?_
            refine k _ _ ?_; clear k N
            (rename St _ _ _ _ _ _ => S'); refine r_store S' ?_; clear S'; intro _ _ S
            refine x_if ?_; intro Rn kr N k
            rename St _ _ _ _ _ _ => S
            refine cut_testS S (decide (1 < ps.length ∧ ps[0]? = some (45, false))) ?_ ?_
            · intro N k
              refine wpAny_isTrue_BoolOp ?_
              refine wpAny_allTrue_And_cons ?_
              refine wpAny_isTrue_Compare1 ?_
              (rename St _ _ _ _ _ _ => S'); (rename Gn _ _ => G'); refine r_cbi1 (S'.gn G') rfl boot_len ?_
              (rename St _ _ _ _ _ _ => S'); refine r_name S' rfl ?_
              rename St _ _ _ _ _ _ => S
              refine r_len (Lst.w (S.fAt (.tail _ (.head _)))) (by (first | exact z87 hul hal | omega)) fun t₂ tk => ?_
              refine r_int ?_; intro _ _
              refine gt_int ?_
              refine wpAny_truthy_bool ?_
              try (refine k _ _ ?_; clear k N)
              refine ite_dec (fun hlt2 => ?_) (fun hlt2 => ?_)
              · have hlt2 : 1 < ps.length := by (first | exact z88 hul hlt2 | omega)
                obtain ⟨a₁, e₁, T₁⟩ := hR.get (i := 0) (by (first | exact z89 hul (by assumption) | omega))
                refine wpAny_allTrue_And_cons ?_
                refine wpAny_isTrue_Compare1 ?_
                refine Subscript_ ?_
                (rename St _ _ _ _ _ _ => S'); refine r_name S' rfl ?_
                refine r_int ?_; intro _ _
                rename St _ _ _ _ _ _ => S
                refine r_item (Lst.w (S.fAt (.tail _ (.head _)))) (by decide) (v := .ref a₁) (by rw [← e₁]; rfl) ?_
                refine Tuple_ ?_
                refine r_spl ?_
                refine r_str ?_; intro _ _
                refine r_spl ?_
                refine wpAny_Constant_bool ?_
                refine r_spl0 ?_
                rename St _ _ _ _ _ _ => S
                refine r_tup S (by simp) ?_
                clear S
                intro dt n' h tk hn hT _ S
                rw [minus_is] at hT
                rename St _ _ _ _ _ _ => S
                refine r_sPairEq (q := (45, false)) ⟨_, S.gAt T₁.choose_spec⟩ ⟨_, S.nAt hT⟩ (by have := hsm2 _ (List.getElem_mem (show 0 < ps.length by (first | exact z89 hul (by assumption) | omega))); exact Nat.le_trans (by assumption) (by decide)) (by decide) (by exact un (by assumption) (by decide)) ?_
                refine wpAny_truthy_bool ?_
                try (refine k _ _ ?_; clear k N)
                refine ite_dec (fun hq => ?_) (fun hq => ?_)
                · refine wpAny_allTrue_And_nil ?_
                  rename St _ _ _ _ _ _ => S
                  refine k _ _ _ _ ?_ S
                  symm; rw [decide_eq_true_iff]
                  exact ⟨hlt2, by rw [List.getElem?_eq_getElem (by (first | exact z89 hul (by assumption) | omega)), hq]⟩
                · skip
                  rename St _ _ _ _ _ _ => S
                  refine k _ _ _ _ ?_ S
                  symm; rw [decide_eq_false_iff_not]
                  rintro ⟨_, z⟩
                  rw [List.getElem?_eq_getElem (by (first | exact z89 hul (by assumption) | omega))] at z
                  exact hq (Option.some.inj z)
              · skip
                rename St _ _ _ _ _ _ => S
                refine k _ _ _ _ ?_ S
                symm; rw [decide_eq_false_iff_not]
                rintro ⟨z, _⟩
                (first | exact z90 hul hlt2 z | omega)
            · clear S
              intro n h tk S
              refine k _ _ ?_; clear k N
              refine ite_dec (fun hq => ?_) (fun hq => ?_)
              · obtain ⟨hlt2, hq⟩ := hq
                obtain ⟨q1, q2, qs, rfl⟩ : ∃ q1 q2 qs, ps = q1 :: q2 :: qs := by
                  match ps, hlt2 with
                  | q1 :: q2 :: qs, _ => exact ⟨_, _, _, rfl⟩
                obtain ⟨a1, us1, rfl, hq1, hR1⟩ := hR.cons_inv
                obtain ⟨a2, us2, rfl, ⟨t₂, hq2⟩, hR2⟩ := hR1.cons_inv
                obtain rfl : q1 = (45, false) := by simpa using hq
                have hq22 := hsm2 q2 (by simp)
                have hFw : wdF (p :: (45, false) :: q2 :: qs) = if q2.1 < p.1 then none else (wdF qs).map (rangeN p.1 q2.1 ++ ·) := wdF_three p q2 qs
                refine x_set ?_; intro N k
                refine Subscript_ ?_
                refine Subscript_ ?_
                (rename St _ _ _ _ _ _ => S'); refine r_name S' rfl ?_
                refine r_int ?_; intro _ _
                rename St _ _ _ _ _ _ => S
                refine r_item (Lst.w (S.fAt (.tail _ (.head _)))) (by decide) (v := .ref a2) rfl ?_
                refine r_int ?_; intro _ _
                rename St _ _ _ _ _ _ => S
                refine r_titem (S.gAt hq2) (j := 0) rfl rfl (by simp) ?_
                refine k _ _ ?_; clear k N
                (rename St _ _ _ _ _ _ => S'); refine r_store S' ?_; clear S'; intro _ _ S
                refine x_set ?_; intro N k
                refine x_sliceF ?_
                (rename St _ _ _ _ _ _ => S'); refine r_name S' rfl ?_
                refine r_int ?_; intro _ _
                rename St _ _ _ _ _ _ => S
                refine r_sliceF (k := 2) S (Lst.w (S.fAt (.tail _ (.head _)))) (by simp only [List.length_cons] at hul hal ⊢; (first | exact z91 hal hul | omega)) ?_
                clear S
                intro d2 h tk S
                refine k _ _ ?_; clear k N
                (rename St _ _ _ _ _ _ => S'); refine r_store S' ?_; clear S'; intro _ _ S
                refine x_if ?_; intro Rn kr N k
                refine wpAny_isTrue_Compare1 ?_
                (rename St _ _ _ _ _ _ => S'); refine r_name S' rfl ?_
                (rename St _ _ _ _ _ _ => S'); refine r_name S' rfl ?_
                refine r_ltCh ?_
                refine wpAny_truthy_bool ?_
                try (refine k _ _ ?_; clear k N)
                refine ite_dec (fun hlt => ?_) (fun hlt => ?_)
                · refine x_ret ?_; intro N k
                  refine wpAny_Constant_none ?_
                  rename St _ _ _ _ _ _ => S
                  refine k _ _ ?_
                  exact hQ2 (by rw [hwd, hFw, if_pos hlt]; rfl) _ _ (hg₁.trans S.kg)
                · refine wpAny_execs_nil ?_
                  try (refine kr _ ?_; clear kr Rn)
                  refine wpAny_execs_cons ?_
                  refine wpAny_Expr ?_ rfl rfl
                  refine MethodCall_ ?_
                  (rename St _ _ _ _ _ _ => S'); refine r_name S' rfl ?_
                  rename St _ _ _ _ _ _ => S
                  refine r_lmeth (S.fAt (.tail _ (.head _))) PySem.F.slot_list_extend PySem.F.type_list_extend ?_
                  refine PyProof.Rows.callWith_method1 ?_
                  refine r_spl ?_
                  refine x_comp [] ?_; intro N k
                  (rename St _ _ _ _ _ _ => S'); (rename Gn _ _ => G'); refine r_crange (S'.gn G') rfl ?_
                  refine r_spl ?_
                  (rename St _ _ _ _ _ _ => S'); (rename Gn _ _ => G'); refine r_cbi1 (S'.gn G') rfl boot_ord ?_
                  (rename St _ _ _ _ _ _ => S'); refine r_name S' rfl ?_
                  refine r_ord ?_; intro _ _
                  refine r_spl ?_
                  refine wpAny_BinOp ?_
                  (rename St _ _ _ _ _ _ => S'); (rename Gn _ _ => G'); refine r_cbi1 (S'.gn G') rfl boot_ord ?_
                  (rename St _ _ _ _ _ _ => S'); refine r_name S' rfl ?_
                  refine r_ord ?_; intro _ _
                  refine r_int ?_; intro _ _
                  refine r_add ?_; intro _ _
                  refine r_spl0 ?_
                  rename St _ _ _ _ _ _ => S
                  refine r_range2 S ?_
                  clear S
                  intro r h tk S hrg
                  refine r_iter_range S hh hrg (by exact le62) (by exact lt62 (Nat.le_trans (by assumption) (by decide))) (by (first | exact z92 | omega)) (by (first | exact z93 hq22 | omega)) ?_
                  clear S
                  intro I h fp Sti S T
                  refine k _ _ ?_; clear k N
                  refine comp0 (fsM := []) (fsK := [_, _, _]) (fun q ys fs => (fs = []) ∧ (Strs ys (((List.range q).map fun j => p.1 + j).map ch))) hh S T ?_ (by (first | exact z94 zL hq22 | omega)) ?_ ?_ (by rfl)
                  · exact ⟨rfl, .nil⟩
                  · clear S T
                    intro q v ys g₂ n₂ m₂ fs h tk C Fn hF hg hn hgL hlt' hp0 hp1 S
                    refine hide fun q₀ kq => ?_
                    obtain ⟨tv, rfl⟩ := hp0
                    obtain ⟨rfl, hys⟩ := hp1
                    refine kq ?_; clear kq q₀
                    rename Gn _ _ => G
                    replace G := G.le hg
                    (rename St _ _ _ _ _ _ => S'); (rename Gn _ _ => G'); refine r_cbi1 (S'.gn G') rfl boot_chr ?_
                    (rename St _ _ _ _ _ _ => S'); refine r_name S' rfl ?_
                    refine r_chr (by (first | exact z95 | omega)) (by (first | exact z96 hq22 hlt' | omega)) fun t₃ tk => ?_
                    rename St _ _ _ _ _ _ => S
                    refine hF _ _ _ _ _ _ S ⟨rfl, ?_⟩
                    rw [List.range_succ, List.map_append, List.map_append]
                    have : ((p.1 : Int) + (q : Int)).toNat = p.1 + q := by (first | exact z97 | omega)
                    rw [this]
                    exact hys.append' (.cons _ t₃ .nil)
                  · clear S T
                    intro D ys fs h tk hp0 S
                    refine hide fun q₀ kq => ?_
                    obtain ⟨rfl, hys⟩ := hp0
                    refine kq ?_; clear kq q₀
                    have hcnt : ((q2.1 : Int) + 1 - (p.1 : Int)).toNat = q2.1 + 1 - p.1 := by (first | exact z98 | omega)
                    rw [hcnt] at hys
                    have hyl := strs_len hys
                    simp only [List.length_map, List.length_range] at hyl
                    simp only [List.length_cons] at hal hul
                    refine r_spl0 ?_
                    rename St _ _ _ _ _ _ => S
                    refine r_extend S (S.fAt (.head _)) (.tail (.tail .head)) (by (first | exact z99 hwl hal hq22 hyl | omega)) ?_
                    clear S
                    intro h tk S
                    refine wpAny_execs_nil ?_
                    try (refine kr _ ?_; clear kr Rn)
                    refine wpAny_execs_nil ?_
                    try (refine kr _ ?_; clear kr Rn)
                    rename St _ _ _ _ _ _ => S
                    replace S := S.sub (fs' := [_, _]) (.cons _ (.cons_cons _ (.cons_cons _ (.cons _ .slnil))))
                    replace S := S.perm (.swap _ _ _)
                    refine hF _ _ _ _ _ _ S ⟨d2, e, _, _, qs, acc ++ rangeN p.1 q2.1, rfl, rfl, hR2, ?_, ?_, ?_, fun q hq => hsm2 q (by simp [hq]), by walk_at "has"⟩ (by simp only [List.length_cons]; (first | exact z100 | omega))
                    · rw [List.map_append]; exact hws.append' hys
                    · rw [hwd, hFw, if_neg hlt, Option.map_map]
                      congr 1; funext x; simp
                    · simp only [List.length_append, rangeN, List.length_map, List.length_range]; (first | exact z101 hal hq22 | omega)
              · have hFw : wdF (p :: ps) = (wdF ps).map (p.1 :: ·) := wdF_one _ _ hq
                rename St _ _ _ _ _ _ => S
                refine x_appendS S rfl (.head _) ?_; intro N k
                (rename St _ _ _ _ _ _ => S'); refine r_name S' rfl ?_
                rename St _ _ _ _ _ _ => S
                refine k _ _ ?_; clear k N
                refine r_append S .head (by (first | exact z102 zL hwl (by assumption) | omega)) ?_
                clear S
                intro h tk S
                refine wpAny_execs_nil ?_
                try (refine kr _ ?_; clear kr Rn)
                refine wpAny_execs_nil ?_
                try (refine kr _ ?_; clear kr Rn)
                rename St _ _ _ _ _ _ => S
                refine hF _ _ _ _ _ _ S ⟨d, e, _, _, ps, acc ++ [p.1], rfl, rfl, hR, ?_, ?_, ?_, hsm2, by walk_at "has"⟩ (by simp)
                · rw [List.map_append]; exact hws.append' (.cons _ _ .nil)
                · rw [hwd, hFw, Option.map_map]
                  congr 1; funext x; simp
                · simp only [List.length_append, List.length_cons, List.length_nil]; (first | exact z103 hal | omega)
        · obtain rfl : ps = [] := by simpa using hne
          refine kr _ ?_; clear kr Rn
          refine x_ret ?_; intro N k
          (rename St _ _ _ _ _ _ => S'); refine r_name S' rfl ?_
          rename St _ _ _ _ _ _ => S
          refine (S.less hg₁).freeze' ?_; intro N _ hN S
          refine k _ _ ?_
          refine hQ1 acc ?_ _ _ N _ _ hws hN S.out
          rw [hwd]; simp [wdF]

/-! _law_place -/
noncomputable def placeF (ws : List Nat) (c : Nat) (turned : Bool) : Int :=
  if turned = true then (if c ∈ ws then -1 else ((List.range c).filter fun d => decide (d ∉ ws)).length) else (if c ∈ ws then (ws.idxOf c : Int) else -1)
theorem any_ch (ws : List Nat) (c : Nat) : (ws.map ch).any (· == ch c) = decide (c ∈ ws) := by
  induction ws with
  | nil => simp
  | cons a r ih =>
    rw [List.map_cons, List.any_cons, ih, ch_eq]
    by_cases h : a = c
    · subst h; simp
    · have h' : ¬ c = a := Ne.symm h
      simp [h, h']
set_option maxHeartbeats 4000000 in
theorem c_place {prog : Program} {w : World} {A : Around} {E : Value → Shared → Prop} {Q : Value → Shared → Prop} {s : Shared} {h₀ : Heap} {tk : Nat} {a : Addr} {vs : List Value} {ws : List Nat} {c : Nat} {turned : Bool} {tc : Tok}
    (G : Gn w h₀.get?) (hd : A.depth + 1 < recursionLimit) (hu : A.units + 100 < cLine) (hh : A.handled = none) (hl : Lst h₀.get? a vs) (hw : Strs vs (ws.map ch)) (hwl : ws.length ≤ 10000) (hc : c ≤ 1000)
    (hQ : ∀ h' tk' t, Le h₀.get? h'.get? → Q (.int (placeF ws c turned) t) (mkS s h' tk')) :
    wpAny (model prog w) A (call (.ref 182) [.ref a, .str (ch c) tc, .bool turned]) Q E (mkS s h₀ tk) := by
  refine enterC [(Str.ofString "signs", .ref a), (Str.ofString "sign", .str (ch c) tc), (Str.ofString "is_turned", .bool turned)] G rfl rfl (by exact dd0 (by assumption)) rfl (fun k x hx => by
    simp only [List.mem_cons, List.not_mem_nil, or_false] at hx
    rcases hx with rfl | rfl | rfl
    · exact .inr ⟨rfl, rfl⟩
    · exact .inl rfl
    · exact .inl rfl) (by decide) ?_
  intro L h₁ tk₁ hL₀ S
  replace S : St h₀.get? PM0 h₁ L (fun y => if y = Str.ofString "is_turned" then some (.bool turned) else if y = Str.ofString "sign" then some (.str (ch c) tc) else none) [(L + 1, celO (some (.ref a)))] := S
  refine S.freeze' ?_; intro n _ hcl S
  have hlen := strs_len hw
  rw [List.length_map] at hlen
  have zL : (1000000 : Nat) ≤ sizeLine := by rw [sizeLine_eq]; decide
  refine x_if ?_; intro Rn kr N k
  refine wpAny_isTrue_Not ?_
  refine wpAny_isTrue_value ?_
  (rename St _ _ _ _ _ _ => S'); refine r_name S' rfl ?_
  refine wpAny_truthy_bool ?_
  try (refine k _ _ ?_; clear k N)
  refine ite_bool (fun ht => ?_) (fun ht => ?_)
  · have ht : turned = false := by simpa using ht
    subst ht
    refine x_ret ?_; intro N k
    refine wpAny_IfExp ?_
    refine wpAny_isTrue_Compare1 ?_
    (rename St _ _ _ _ _ _ => S'); refine r_name S' rfl ?_
    rename St _ _ _ _ _ _ => S
    refine r_cellN (S.nAt hcl) ?_
    refine r_inStrs (Lst.w (S.gAt hl)) hw ?_
    rw [any_ch]
    refine wpAny_truthy_bool ?_
    try (refine k _ _ ?_; clear k N)
    refine ite_dec (fun hin => ?_) (fun hin => ?_)
    · refine MethodCall_ ?_
      rename St _ _ _ _ _ _ => S
      refine r_cellN (S.nAt hcl) ?_
      refine r_lmeth (S.gAt hl) PySem.F.slot_list_index PySem.F.type_list_index ?_
      refine PyProof.Rows.callWith_method1 ?_
      refine r_spl ?_
      (rename St _ _ _ _ _ _ => S'); refine r_name S' rfl ?_
      refine r_spl0 ?_
      rename St _ _ _ _ _ _ => S
      have hlt := List.idxOf_lt_length_iff.mpr hin
      refine r_index (j := ws.idxOf c) (S.gAt hl) hw (by simpa using hlt) (by simp [List.getElem_idxOf]) (fun i hi hlt' => ?_) (by simp; exact Nat.le_trans (by assumption) (by decide)) fun t tk => ?_
      · rw [List.getElem_map]
        intro z
        have z' : ws[i]'(by simpa using hi) = c := by
          have := congrArg (fun x : Str => x.cps[0]!) z; simpa using this
        have := List.not_of_lt_findIdx (p := (· == c)) (xs := ws) hlt'
        simp [z'] at this
      · skip
        rename St _ _ _ _ _ _ => S
        have : (ws.idxOf c : Int) = placeF ws c false := by rw [placeF, if_neg (by decide), if_pos hin]
        rw [this]
        refine k _ _ ?_
        exact hQ _ _ _ S.kg
    · refine r_neg ?_; intro _ _
      rename St _ _ _ _ _ _ => S
      have : (-1 : Int) = placeF ws c false := by rw [placeF, if_neg (by decide), if_neg hin]
      rw [this]
      refine k _ _ ?_
      exact hQ _ _ _ S.kg
  · have ht : turned = true := by simpa using ht
    subst ht
    refine wpAny_execs_nil ?_
    try (refine kr _ ?_; clear kr Rn)
    refine x_ret ?_; intro N k
    refine wpAny_IfExp ?_
    refine wpAny_isTrue_Compare1 ?_
    (rename St _ _ _ _ _ _ => S'); refine r_name S' rfl ?_
    rename St _ _ _ _ _ _ => S
    refine r_cellN (S.nAt hcl) ?_
    refine r_inStrs (Lst.w (S.gAt hl)) hw ?_
    rw [any_ch]
    refine wpAny_truthy_bool ?_
    try (refine k _ _ ?_; clear k N)
    refine ite_dec (fun hin => ?_) (fun hin => ?_)
    · refine r_neg ?_; intro _ _
      rename St _ _ _ _ _ _ => S
      have : (-1 : Int) = placeF ws c true := by rw [placeF, if_pos rfl, if_pos hin]
      rw [this]
      refine k _ _ ?_
      exact hQ _ _ _ S.kg
    · (rename St _ _ _ _ _ _ => S'); (rename Gn _ _ => G'); refine r_cbi1 (S'.gn G') rfl boot_len ?_
      refine x_comp [(Str.ofString "signs", L + 1)] ?_; intro N k
      (rename St _ _ _ _ _ _ => S'); (rename Gn _ _ => G'); refine r_crange (S'.gn G') rfl ?_
      refine r_spl ?_
      (rename St _ _ _ _ _ _ => S'); (rename Gn _ _ => G'); refine r_cbi1 (S'.gn G') rfl boot_ord ?_
      (rename St _ _ _ _ _ _ => S'); refine r_name S' rfl ?_
      refine r_ord ?_; intro _ _
      refine r_spl0 ?_
      rename St _ _ _ _ _ _ => S
      refine r_range1 S ?_
      clear S
      intro r h tk S hrg
      refine r_iter_range S hh hrg (by decide) (by decide) (by exact le62) (by exact lt62 (Nat.le_trans (by assumption) (by decide))) ?_
      clear S
      intro I h fp Sti S T
      refine k _ _ ?_; clear k N
      refine comp1 (fsM := []) (fsK := []) (fun q ys fs => (fs = []) ∧ (ys.length = ((List.range q).filter fun d => decide (d ∉ ws)).length)) hh S T ?_ (by (first | exact z24 hc zL | omega)) ?_ ?_ (by rfl)
      · exact ⟨rfl, rfl⟩
      · clear S T
        intro q v ys g₂ n₂ m₂ fs h tk C Fn F₀ N hF hF₀ k hg hn hgL hlt' hp0 hp1 S
        refine hide fun q₀ kq => ?_
        obtain ⟨tv, rfl⟩ := hp0
        obtain ⟨rfl, hys⟩ := hp1
        refine kq ?_; clear kq q₀
        rename Gn _ _ => G
        replace G := G.le hg
        replace hl := hl.le hg
        replace hcl := hcl.le hn
        refine wpAny_isTrue_Compare1 ?_
        (rename St _ _ _ _ _ _ => S'); (rename Gn _ _ => G'); refine r_cbi1 (S'.gn G') rfl boot_chr ?_
        (rename St _ _ _ _ _ _ => S'); refine r_name S' rfl ?_
        refine r_chr (by exact nn0 _) (by (first | exact z25 hc hlt' | omega)) fun t₃ tk => ?_
        have hq : ((0 : Int) + (q : Int)).toNat = q := by exact tn0 _
        rw [hq]
        rename St _ _ _ _ _ _ => S
        refine r_cellN (S.gAt hcl) ?_
        refine r_notInStrs (Lst.w (S.gAt hl)) hw ?_
        rw [any_ch]
        refine wpAny_truthy_bool ?_
        try (refine k _ _ ?_; clear k N)
        have hr : (List.range (q + 1)).filter (fun d => decide (d ∉ ws)) = (List.range q).filter (fun d => decide (d ∉ ws)) ++ (if q ∉ ws then [q] else []) := by
          rw [List.range_succ, List.filter_append]
          congr 1
          by_cases z : q ∈ ws <;> simp [z]
        refine ite_bool (fun hin => ?_) (fun hin => ?_)
        · have hin : q ∉ ws := by simpa using hin
          (rename St _ _ _ _ _ _ => S'); refine r_name S' rfl ?_
          rename St _ _ _ _ _ _ => S
          refine hF _ _ _ _ _ _ S ⟨rfl, ?_⟩
          rw [hr, if_pos hin, List.length_append, List.length_append, hys]; rfl
        · have hin : q ∈ ws := by simpa using hin
          rename St _ _ _ _ _ _ => S
          refine hF₀ _ _ _ _ _ S ⟨rfl, ?_⟩
          rw [hr, if_neg (by simpa using hin), List.append_nil, hys]
      · clear S T
        intro D ys fs h tk hp0 S
        refine hide fun q₀ kq => ?_
        obtain ⟨rfl, hys⟩ := hp0
        refine kq ?_; clear kq q₀
        have hcnt : ((c : Int) - 0).toNat = c := by (first | exact z26 | omega)
        rw [hcnt] at hys
        have hyl : ys.length ≤ 1000 := by
          rw [hys]
          have := List.length_filter_le (fun d => decide (d ∉ ws)) (List.range c)
          simp at this ⊢; exact Nat.le_trans (by assumption) (by assumption)
        rename St _ _ _ _ _ _ => S
        refine r_len (Lst.w (S.fAt (.head _))) (by exact lt63 (Nat.le_trans (by assumption) (by decide))) fun t tk => ?_
        rename St _ _ _ _ _ _ => S
        have : (ys.length : Int) = placeF ws c true := by rw [placeF, if_pos rfl, if_neg hin, hys]
        rw [this]
        refine k _ _ ?_
        exact hQ _ _ _ S.kg

/-! _law_turned -/
structure TS where
  made : List (Nat × Bool)
  count : Int
noncomputable def turnSign (tgt : List Nat) (bd : Bool) (p : Int) (c : Nat) : Option Nat :=
  if p < tgt.length then some (tgt.getD p.toNat 0) else if bd = true then none else if tgt = [] then some c else some (tgt.getD (tgt.length - 1) 0)
noncomputable def turnStep (src tgt : List Nat) (bc bd bs : Bool) (r : TS) (c : Nat) : TS :=
  if placeF src c bc < 0 then ⟨r.made ++ [(c, false)], r.count⟩
  else match turnSign tgt bd (placeF src c bc) c with
    | none => ⟨r.made, r.count + 1⟩
    | some x => if bs = false ∨ r.made.getLast? ≠ some (x, true) then ⟨r.made ++ [(x, true)], r.count + 1⟩ else ⟨r.made, r.count + 1⟩
noncomputable def turnT (src tgt : List Nat) (bc bd bs : Bool) (cs : List Nat) : TS := cs.foldl (turnStep src tgt bc bd bs) ⟨[], 0⟩
theorem getD_ok {l : List Nat} {i : Nat} (h : ∀ x ∈ l, x ≤ 1000) : l.getD i 0 ≤ 1000 := by
  by_cases hi : i < l.length
  · rw [List.getD_eq_getElem?_getD, List.getElem?_eq_getElem hi]; exact h _ (List.getElem_mem hi)
  · rw [List.getD_eq_getElem?_getD, List.getElem?_eq_none (by exact Nat.le_of_not_lt (by assumption))]; simp
theorem turnSign_ok {tgt : List Nat} {bd : Bool} {p : Int} {c x : Nat} (ht : ∀ x ∈ tgt, x ≤ 1000) (hc : c ≤ 1000) (h : turnSign tgt bd p c = some x) : x ≤ 1000 := by
  unfold turnSign at h
  split at h
  · cases h; exact getD_ok ht
  · split at h
    · cases h
    · split at h
      · cases h; exact hc
      · cases h; exact getD_ok ht
theorem turnT_ok (src tgt : List Nat) (bc bd bs : Bool) (ht : ∀ x ∈ tgt, x ≤ 1000) : ∀ (cs : List Nat) (r : TS), (∀ c ∈ cs, c ≤ 1000) → (∀ q ∈ r.made, q.1 ≤ 1000) →
    (∀ q ∈ (cs.foldl (turnStep src tgt bc bd bs) r).made, q.1 ≤ 1000) ∧ (cs.foldl (turnStep src tgt bc bd bs) r).made.length ≤ r.made.length + cs.length
  | [], r, _, hr => ⟨hr, by simp⟩
  | c :: cs, r, hc, hr => by
    have hc0 := hc c (.head _)
    have step : (∀ q ∈ (turnStep src tgt bc bd bs r c).made, q.1 ≤ 1000) ∧ (turnStep src tgt bc bd bs r c).made.length ≤ r.made.length + 1 := by
      have sn : ∀ (q : Nat × Bool), q.1 ≤ 1000 → (∀ z ∈ r.made ++ [q], z.1 ≤ 1000) ∧ (r.made ++ [q]).length ≤ r.made.length + 1 := fun q hq => by
        refine ⟨fun z hz => ?_, by simp⟩
        rcases List.mem_append.mp hz with hz | hz
        · exact hr z hz
        · rw [List.mem_singleton] at hz; subst hz; exact hq
      unfold turnStep
      split
      · exact sn _ hc0
      · split
        · exact ⟨hr, Nat.le_succ _⟩
        · rename_i x hx
          split
          · exact sn _ (turnSign_ok ht hc0 hx)
          · exact ⟨hr, Nat.le_succ _⟩
    have ih := turnT_ok src tgt bc bd bs ht cs _ (fun x hx => hc x (.tail _ hx)) step.1
    simp only [List.foldl_cons, List.length_cons]
    exact ⟨ih.1, by omega⟩

theorem cut_testN {M : Model} {A : Around} {E : Value → Shared → Prop} {s : Shared} {g n : PM} {h : Heap} {L : Addr} {m : Str → Option Value} {fs : Fs} {tk : Nat} {t : Sem Bool} {Q : Bool → Shared → Prop} (S : St g n h L m fs) (b₀ : Bool)
    (h1 : ∀ N : Bool → Shared → Prop, (∀ b n' h' tk', b = b₀ → St g n' h' L m fs → Le n n' → N b (mkS s h' tk')) → wpAny M A t N E (mkS s h tk)) (h2 : ∀ n' h' tk', St g n' h' L m fs → Le n n' → Q b₀ (mkS s h' tk')) :
    wpAny M A t Q E (mkS s h tk) := h1 Q fun b n' h' tk' e S k => e ▸ h2 _ _ _ S k
theorem strs_getN {vs : List Value} {xs : List Nat} (H : Strs vs (xs.map ch)) {i : Nat} (hi : i < xs.length) : ∃ t, vs[i]? = some (.str (ch (xs.getD i 0)) t) := by
  obtain ⟨t, e⟩ := strs_get H (i := i) (by simpa using hi)
  refine ⟨t, ?_⟩
  rw [e, List.getElem_map, List.getD_eq_getElem?_getD, List.getElem?_eq_getElem hi]; rfl

set_option maxHeartbeats 4000000 in
theorem c_lturned {prog : Program} {w : World} {A : Around} {E : Value → Shared → Prop} {Q : Value → Shared → Prop} {s : Shared} {h₀ : Heap} {tk : Nat} {a b : Addr} {va vb : List Value} {src tgt cs : List Nat} {bc bd bs : Bool} {t0 t1 : Tok}
    (G : Gn w h₀.get?) (hd : A.depth + 2 < recursionLimit) (hu : A.units + 200 < cLine) (hh : A.handled = none) (ha : Lst h₀.get? a va) (hsa : Strs va (src.map ch)) (hb : Lst h₀.get? b vb) (hsb : Strs vb (tgt.map ch)) (hl1 : src.length ≤ 10000) (hl2 : tgt.length ≤ 10000)
    (ht : ∀ x ∈ tgt, x ≤ 1000) (hcs : cs.length ≤ 100) (hc : ∀ c ∈ cs, c ≤ 1000)
    (hQ : ∀ h' tk' N d t t', Tup N d [.str (tx ((turnT src tgt bc bd bs cs).made.map (·.1))) t, .int (turnT src tgt bc bd bs cs).count t'] → Ext h₀ h' N → Q (.ref d) (mkS s h' tk')) :
    wpAny (model prog w) A (call (.ref 187) [.ref a, .ref b, .str (tx (flagsL bc bd bs)) t0, .str (tx cs) t1]) Q E (mkS s h₀ tk) := by
  refine enter [(Str.ofString "source", .ref a), (Str.ofString "target", .ref b), (Str.ofString "flags", .str (tx (flagsL bc bd bs)) t0), (Str.ofString "text", .str (tx cs) t1)] G rfl rfl (by exact dd0 (by assumption)) rfl rfl rfl ?_
  intro L h₁ tk₁ S
  have zL : (1000000 : Nat) ≤ sizeLine := by rw [sizeLine_eq]; decide
  refine x_set ?_; intro N k
  refine List_ ?_
  refine r_spl0 ?_
  (rename St _ _ _ _ _ _ => S'); refine r_newList S' (Nat.zero_le _) ?_; clear S'; intro _ _ _ S
  refine k _ _ ?_; clear k N
  (rename St _ _ _ _ _ _ => S'); refine r_store S' ?_; clear S'; intro _ _ S
  refine x_set ?_; intro N k
  refine r_int ?_; intro _ _
  refine k _ _ ?_; clear k N
  (rename St _ _ _ _ _ _ => S'); refine r_store S' ?_; clear S'; intro _ _ S
  refine x_for ?_; intro Rn kr N k
  (rename St _ _ _ _ _ _ => S'); refine r_name S' rfl ?_
  rename St _ _ _ _ _ _ => S
  refine r_iter_str S hh ?_
  clear S
  intro I h fp Sti S T
  rename Gn _ _ => G
  refine k _ _ ?_; clear k N
  refine for_core (fun i n m fs => X2 fun d us => N3 (fs = [(d, lstP us)]) (RowsS n us ((cs.take i).foldl (turnStep src tgt bc bd bs) ⟨[], 0⟩).made) (X1 fun t₁ => Has m [(Str.ofString "source", .ref a), (Str.ofString "target", .ref b), (Str.ofString "flags", .str (tx (flagsL bc bd bs)) t0), (Str.ofString "made", .ref d), (Str.ofString "count", .int ((cs.take i).foldl (turnStep src tgt bc bd bs) ⟨[], 0⟩).count t₁)])) S T ?_ ?_ ?_
  · exact ⟨_, [], rfl, .nil, _, by walk_at "has"⟩
  · clear S T
    intro i v g n m fs h tk Fn hF hg hlt hv hp0 S
    refine hide fun q₀ kq => ?_
    obtain ⟨d, us, rfl, hR, t₁, hm⟩ := hp0
    refine kq ?_; clear kq q₀
    obtain ⟨c, u, hci, rfl⟩ := hv
    have hlt : i < cs.length := by simpa using hlt
    have hci : cs[i]? = some c := by simpa using hci
    obtain ⟨_, hcc⟩ := List.getElem?_eq_some_iff.mp hci
    have hc0 : c ≤ 1000 := hc c (hcc ▸ List.getElem_mem _)
    have hstep := take_foldl (turnStep src tgt bc bd bs) ⟨[], 0⟩ hlt
    rw [hcc] at hstep
    obtain ⟨hok, hrl⟩ := turnT_ok src tgt bc bd bs ht (cs.take i) ⟨[], 0⟩ (fun x hx => hc x (List.mem_of_mem_take hx)) (by simp)
    generalize hr : (cs.take i).foldl (turnStep src tgt bc bd bs) ⟨[], 0⟩ = r at *
    simp only [List.length_nil, List.length_take] at hrl
    have G := G.le hg
    replace ha := ha.le hg
    replace hb := hb.le hg
    have hul := hR.length
    rw [show m = ups _ m from (Has.ups hm).symm] at S
    clear hm
    have hbl := strs_len hsb
    rw [List.length_map] at hbl
    refine x_set ?_; intro N k
    (rename St _ _ _ _ _ _ => S'); (rename Gn _ _ => G'); refine r_cdef (S'.gn G') rfl rfl ?_
    refine r_spl ?_
    (rename St _ _ _ _ _ _ => S'); refine r_name S' rfl ?_
    refine r_spl ?_
    (rename St _ _ _ _ _ _ => S'); refine r_name S' rfl ?_
    refine r_spl ?_
    refine wpAny_Compare1 ?_
    refine r_str ?_; intro _ _
    (rename St _ _ _ _ _ _ => S'); refine r_name S' rfl ?_
    refine r_inStr ?_
    rw [flag_c]
    refine r_spl0 ?_
    (rename St _ _ _ _ _ _ => S'); (rename Gn _ _ => G'); refine And.intro (S'.gn G').in ?_
    rename St _ _ _ _ _ _ => S
    rename Gn _ _ => G
    refine c_place (S.gn G) (by exact dp (by assumption) (by decide)) (by exact un (by assumption) (by decide)) hh (S.gAt ha) hsa hl1 hc0 ?_
    intro h tk t₂ hk
    replace S := S.ext hk
    clear hk
    generalize hp : placeF src c bc = p at *
    refine k _ _ ?_; clear k N
    (rename St _ _ _ _ _ _ => S'); refine r_store S' ?_; clear S'; intro _ _ S
    refine x_if ?_; intro Rn kr N k
    refine wpAny_isTrue_Compare1 ?_
    (rename St _ _ _ _ _ _ => S'); refine r_name S' rfl ?_
    refine r_int ?_; intro _ _
    refine lt_int ?_
    refine wpAny_truthy_bool ?_
    try (refine k _ _ ?_; clear k N)
    refine ite_dec (fun hneg => ?_) (fun hneg => ?_)
    · rename St _ _ _ _ _ _ => S
      refine x_appendS S rfl (.head _) ?_; intro N k
      refine Tuple_ ?_
      refine r_spl ?_
      (rename St _ _ _ _ _ _ => S'); refine r_name S' rfl ?_
      refine r_spl ?_
      refine wpAny_Constant_bool ?_
      refine r_spl0 ?_
      rename St _ _ _ _ _ _ => S
      refine r_tup S (by simp) ?_
      clear S
      intro dt n' h tk hn hT _ S
      rename St _ _ _ _ _ _ => S
      refine k _ _ ?_; clear k N
      refine r_append S .head (by (first | exact z169 hcs zL hrl hul | omega)) ?_
      clear S
      intro h tk S
      refine wpAny_execs_cons ?_
      refine wpAny_Continue ?_
      rename St _ _ _ _ _ _ => S
      refine hF _ _ _ _ _ S ⟨d, _, rfl, ?_, t₁, by rw [hstep, turnStep, hp, if_pos hneg]; walk_at "has"⟩
      rw [hstep, turnStep, hp, if_pos hneg]
      exact (hR.le hn).snoc ⟨_, hT⟩
    · refine wpAny_execs_nil ?_
      try (refine kr _ ?_; clear kr Rn)
      refine x_aug ?_; intro N k
      (rename St _ _ _ _ _ _ => S'); refine r_lname S' rfl ?_
      refine r_int ?_; intro _ _
      refine r_iadd ?_; intro _ _
      refine k _ _ ?_; clear k N
      (rename St _ _ _ _ _ _ => S'); refine r_store S' ?_; clear S'; intro _ _ S
      rename St _ _ _ _ _ _ => S
      have hstep2 : List.foldl (turnStep src tgt bc bd bs) ⟨[], 0⟩ (List.take (i + 1) cs) = match turnSign tgt bd p c with
          | none => ⟨r.made, r.count + 1⟩
          | some x => if bs = false ∨ r.made.getLast? ≠ some (x, true) then ⟨r.made ++ [(x, true)], r.count + 1⟩ else ⟨r.made, r.count + 1⟩ := by
        rw [hstep, turnStep, hp, if_neg hneg]
      refine x_cut (fun s₂ => X6 fun (x : Nat) (m' : Str → Option Value) (h' : Heap) (tk' : Nat) (t₁ : Tok) (t₂ : Tok) => N4 (s₂ = mkS s h' tk') (St g n h' L m' [(d, lstP us)]) (turnSign tgt bd p c = some x) (Has m' [(Str.ofString "source", .ref a), (Str.ofString "target", .ref b), (Str.ofString "flags", .str (tx (flagsL bc bd bs)) t0), (Str.ofString "made", .ref d), (Str.ofString "count", .int (r.count + 1) t₁), (Str.ofString "sign", .str (ch x) t₂)])) ?_ ?_
      · intro Rn kr
        refine x_ifc ?_; intro N k
        refine wpAny_isTrue_Compare1 ?_
        (rename St _ _ _ _ _ _ => S'); refine r_name S' rfl ?_
        (rename St _ _ _ _ _ _ => S'); (rename Gn _ _ => G'); refine r_cbi1 (S'.gn G') rfl boot_len ?_
        (rename St _ _ _ _ _ _ => S'); refine r_name S' rfl ?_
        rename St _ _ _ _ _ _ => S
        refine r_len (Lst.w (S.gAt hb)) (by exact lt63 (eqle (by assumption) (Nat.le_trans (by assumption) (by decide)))) fun t₃ tk => ?_
        refine lt_int ?_
        refine wpAny_truthy_bool ?_
        try (refine k _ _ ?_; clear k N)
        refine ite_dec (fun h1 => ?_) (fun h1 => ?_)
        · obtain ⟨t₄, e₄⟩ := strs_getN hsb (i := p.toNat) (by exact tlt (by assumption) (by assumption) (by assumption))
          refine x_set ?_; intro N k
          refine Subscript_ ?_
          (rename St _ _ _ _ _ _ => S'); refine r_name S' rfl ?_
          (rename St _ _ _ _ _ _ => S'); refine r_name S' rfl ?_
          rename St _ _ _ _ _ _ => S
          refine r_item (Lst.w (S.gAt hb)) (by exact Int.not_lt.mp (by assumption)) e₄ ?_
          refine k _ _ ?_; clear k N
          (rename St _ _ _ _ _ _ => S'); refine r_store S' ?_; clear S'; intro _ _ S
          refine wpAny_execs_nil ?_
          try (refine kr _ ?_; clear kr Rn)
          rename St _ _ _ _ _ _ => S
          refine ⟨tgt.getD p.toNat 0, _, _, _, _, _, rfl, S, ?_, by walk_at "has"⟩
          rw [turnSign, if_pos (by (first | exact z170 hbl h1 | omega))]
        · refine x_if ?_; intro Rn kr N k
          refine wpAny_isTrue_Compare1 ?_
          refine r_str ?_; intro _ _
          (rename St _ _ _ _ _ _ => S'); refine r_name S' rfl ?_
          refine r_inStr ?_
          rw [flag_d]
          refine wpAny_truthy_bool ?_
          try (refine k _ _ ?_; clear k N)
          refine ite_bool (fun h2 => ?_) (fun h2 => ?_)
          · have hns : turnSign tgt bd p c = none := by rw [turnSign, if_neg (by (first | exact z171 hbl h1 | omega)), if_pos h2]
            refine wpAny_execs_cons ?_
            refine wpAny_Continue ?_
            rename St _ _ _ _ _ _ => S
            refine hF _ _ _ _ _ S ⟨d, _, rfl, ?_, _, by rw [hstep2, hns]; walk_at "has"⟩
            rw [hstep2, hns]
            exact hR
          · refine x_if ?_; intro Rn kr N k
            refine wpAny_isTrue_Compare1 ?_
            (rename St _ _ _ _ _ _ => S'); refine r_name S' rfl ?_
            refine List_ ?_
            refine r_spl0 ?_
            (rename St _ _ _ _ _ _ => S'); refine r_newList S' (Nat.zero_le _) ?_; clear S'; intro _ _ _ S
            rename St _ _ _ _ _ _ => S
            refine r_strsNe (Lst.w (S.gAt hb)) hsb (Lst.w (S.fAt (.head _))) (fun x hx => by
              obtain ⟨y, hy, rfl⟩ := List.mem_map.mp hx
              exact strOk_ch (ht y hy)) (by exact un (by assumption) (by decide)) ?_
            replace S := S.sub (List.sublist_cons_self ..)
            refine wpAny_truthy_bool ?_
            try (refine k _ _ ?_; clear k N)
            refine ite_bool (fun h3 => ?_) (fun h3 => ?_)
            · have h3 : tgt ≠ [] := by simpa using h3
              have hpos : 0 < tgt.length := List.length_pos_iff.mpr h3
              obtain ⟨t₄, e₄⟩ := strs_getN hsb (i := tgt.length - 1) (by exact pred (by assumption))
              refine x_set ?_; intro N k
              refine Subscript_ ?_
              (rename St _ _ _ _ _ _ => S'); refine r_name S' rfl ?_
              refine r_neg ?_; intro _ _
              rename St _ _ _ _ _ _ => S
              refine r_itemNeg (v := .str (ch (tgt.getD (tgt.length - 1) 0)) t₄) (Lst.w (S.gAt hb)) (by decide) (by (first | exact z172 hbl hpos | omega)) (by rw [← e₄]; congr 1; exact lastN (by assumption) (by assumption)) (by decide) ?_
              refine k _ _ ?_; clear k N
              (rename St _ _ _ _ _ _ => S'); refine r_store S' ?_; clear S'; intro _ _ S
              refine wpAny_execs_nil ?_
              try (refine kr _ ?_; clear kr Rn)
              refine wpAny_execs_nil ?_
              try (refine kr _ ?_; clear kr Rn)
              refine wpAny_execs_nil ?_
              try (refine kr _ ?_; clear kr Rn)
              rename St _ _ _ _ _ _ => S
              refine ⟨tgt.getD (tgt.length - 1) 0, _, _, _, _, _, rfl, S, ?_, by walk_at "has"⟩
              rw [turnSign, if_neg (by (first | exact z171 hbl h1 | omega)), if_neg (by simp [h2]), if_neg h3]
            · have h3 : tgt = [] := by simpa using h3
              refine wpAny_execs_nil ?_
              try (refine kr _ ?_; clear kr Rn)
              refine wpAny_execs_nil ?_
              try (refine kr _ ?_; clear kr Rn)
              refine wpAny_execs_nil ?_
              try (refine kr _ ?_; clear kr Rn)
              rename St _ _ _ _ _ _ => S
              refine ⟨c, _, _, _, _, _, rfl, S, ?_, by walk_at "has"⟩
              rw [turnSign, if_neg (by (first | exact z171 hbl h1 | omega)), if_neg (by simp [h2]), if_pos h3]
      · clear S
        intro s₂ hp0
        refine hide fun q₀ kq => ?_
        obtain ⟨x, m, h, tk, t₁, t₂, rfl, S, hts, hm⟩ := hp0
        refine kq ?_; clear kq q₀
        replace S := S.has hm
        clear hm
        rw [hts] at hstep2
        dsimp only at hstep2
        have hx := turnSign_ok ht hc0 hts
        refine x_if ?_; intro Rn kr N k
        rename St _ _ _ _ _ _ => S
        refine cut_testN S (decide (bs = false ∨ r.made.getLast? ≠ some (x, true))) ?_ ?_
        · intro N k
          refine wpAny_isTrue_BoolOp ?_
          refine wpAny_allTrue_Or_cons ?_
          refine wpAny_isTrue_Compare1 ?_
          refine r_str ?_; intro _ _
          (rename St _ _ _ _ _ _ => S'); refine r_name S' rfl ?_
          refine r_notInStr ?_
          rw [flag_s]
          refine wpAny_truthy_bool ?_
          try (refine k _ _ ?_; clear k N)
          refine ite_bool (fun h1 => ?_) (fun h1 => ?_)
          · have h1 : bs = false := by simpa using h1
            rename St _ _ _ _ _ _ => S
            exact k _ _ _ _ (by simp [h1]) S (Le.refl _)
          · have h1 : bs = true := by simpa using h1
            refine wpAny_allTrue_Or_cons ?_
            refine wpAny_isTrue_Compare1 ?_
            (rename St _ _ _ _ _ _ => S'); refine r_name S' rfl ?_
            refine List_ ?_
            refine r_spl0 ?_
            (rename St _ _ _ _ _ _ => S'); refine r_newList S' (Nat.zero_le _) ?_; clear S'; intro _ _ _ S
            rename St _ _ _ _ _ _ => S
            refine r_rowsEq (Lst.w (S.fAt (.tail _ (.head _)))) (hR.le S.kn) (Lst.w (S.fAt (.head _))) hok (by exact un (by assumption) (by decide)) ?_
            replace S := S.sub (List.sublist_cons_self ..)
            refine wpAny_truthy_bool ?_
            try (refine k _ _ ?_; clear k N)
            refine ite_bool (fun h2 => ?_) (fun h2 => ?_)
            · have h2 : r.made = [] := by simpa using h2
              rename St _ _ _ _ _ _ => S
              exact k _ _ _ _ (by simp [h2]) S (Le.refl _)
            · have h2 : r.made ≠ [] := by simpa using h2
              have hpos : 0 < r.made.length := List.length_pos_iff.mpr h2
              obtain ⟨a₁, e₁, T₁⟩ := hR.get (i := r.made.length - 1) (by exact pred (by assumption))
              have hlast : r.made.getLast? = some r.made[r.made.length - 1] := by rw [List.getLast?_eq_getElem?, List.getElem?_eq_getElem]
              refine wpAny_allTrue_Or_cons ?_
              refine wpAny_isTrue_Compare1 ?_
              refine Subscript_ ?_
              (rename St _ _ _ _ _ _ => S'); refine r_name S' rfl ?_
              refine r_neg ?_; intro _ _
              rename St _ _ _ _ _ _ => S
              refine r_itemNeg (v := .ref a₁) (Lst.w (S.fAt (.head _))) (by decide) (by (first | exact z172 hul hpos | omega)) (by rw [← e₁]; congr 1; exact lastN (by assumption) (by assumption)) (by decide) ?_
              refine Tuple_ ?_
              refine r_spl ?_
              (rename St _ _ _ _ _ _ => S'); refine r_name S' rfl ?_
              refine r_spl ?_
              refine wpAny_Constant_bool ?_
              refine r_spl0 ?_
              rename St _ _ _ _ _ _ => S
              refine r_tup S (by simp) ?_
              clear S
              intro dt n' h tk hn hT _ S
              rename St _ _ _ _ _ _ => S
              refine r_sPairNe (p := r.made[r.made.length - 1]) (q := (x, true)) ⟨_, S.nAt (T₁.choose_spec.le hn)⟩ ⟨_, S.nAt hT⟩ (hok _ (List.getElem_mem _)) hx (by exact un (by assumption) (by decide)) ?_
              refine wpAny_truthy_bool ?_
              try (refine k _ _ ?_; clear k N)
              refine ite_bool (fun h3 => ?_) (fun h3 => ?_)
              · have h3 : ¬ r.made[r.made.length - 1] = (x, true) := by simpa using h3
                rename St _ _ _ _ _ _ => S
                refine k _ _ _ _ ?_ S hn
                symm; rw [decide_eq_true_iff, hlast]
                exact .inr fun z => h3 (Option.some.inj z)
              · have h3 : r.made[r.made.length - 1] = (x, true) := by simpa using h3
                refine wpAny_allTrue_Or_nil ?_
                rename St _ _ _ _ _ _ => S
                refine k _ _ _ _ ?_ S hn
                symm; rw [decide_eq_false_iff_not, hlast, h3]
                simp [h1]
        · clear S
          intro n' h tk S hn
          refine k _ _ ?_; clear k N
          replace hR := hR.le hn
          refine ite_dec (fun h1 => ?_) (fun h1 => ?_)
          · rename St _ _ _ _ _ _ => S
            refine x_appendS S rfl (.head _) ?_; intro N k
            refine Tuple_ ?_
            refine r_spl ?_
            (rename St _ _ _ _ _ _ => S'); refine r_name S' rfl ?_
            refine r_spl ?_
            refine wpAny_Constant_bool ?_
            refine r_spl0 ?_
            rename St _ _ _ _ _ _ => S
            refine r_tup S (by simp) ?_
            clear S
            intro dt n' h tk hn hT _ S
            rename St _ _ _ _ _ _ => S
            refine k _ _ ?_; clear k N
            refine r_append S .head (by (first | exact z169 hcs zL hrl hul | omega)) ?_
            clear S
            intro h tk S
            refine wpAny_execs_nil ?_
            try (refine kr _ ?_; clear kr Rn)
            refine wpAny_execs_nil ?_
            try (refine kr _ ?_; clear kr Rn)
            rename St _ _ _ _ _ _ => S
            refine hF _ _ _ _ _ S ⟨d, _, rfl, ?_, _, by rw [hstep2, if_pos h1]; walk_at "has"⟩
            rw [hstep2, if_pos h1]
            exact (hR.le hn).snoc ⟨_, hT⟩
          · refine wpAny_execs_nil ?_
            try (refine kr _ ?_; clear kr Rn)
            refine wpAny_execs_nil ?_
            try (refine kr _ ?_; clear kr Rn)
            rename St _ _ _ _ _ _ => S
            refine hF _ _ _ _ _ S ⟨d, _, rfl, ?_, _, by rw [hstep2, if_neg h1]; walk_at "has"⟩
            rw [hstep2, if_neg h1]
            exact hR
  · clear S T
    intro n m fs h tk hp0 S
    refine hide fun q₀ kq => ?_
    obtain ⟨d, us, rfl, hR, t₁, hm⟩ := hp0
    refine kq ?_; clear kq q₀
    refine kr _ ?_; clear kr Rn
    replace S := S.has hm
    clear hm
    have hsz : (tx cs).cps.size = cs.length := by simp
    rw [hsz, List.take_of_length_le (Nat.le_refl _)] at hR S
    obtain ⟨hok, hrl⟩ := turnT_ok src tgt bc bd bs ht cs ⟨[], 0⟩ hc (by simp)
    simp only [List.length_nil, List.length_take] at hrl
    change RowsS n us (turnT src tgt bc bd bs cs).made at hR
    change St _ _ _ _ (ups [(Str.ofString "source", .ref a), (Str.ofString "target", .ref b), (Str.ofString "flags", .str (tx (flagsL bc bd bs)) t0), (Str.ofString "made", .ref d), (Str.ofString "count", .int (turnT src tgt bc bd bs cs).count t₁)] m) _ at S
    have hul := hR.length
    change (turnT src tgt bc bd bs cs).made.length ≤ 0 + cs.length at hrl
    -- the list of rows stands still from here on
    refine S.freeze' ?_; intro n₂ hn₂ hl S
    refine S.rise' ?_; intro g₂ hg₂ hng S
    replace hR := (hR.le hn₂).le hng
    replace hl := hl.le hng
    refine x_ret ?_; intro N k
    refine Tuple_ ?_
    refine r_spl ?_
    refine MethodCall_ ?_
    refine r_str ?_; intro _ _
    refine GM.join ?_
    refine PyProof.Rows.callWith_method1 ?_
    refine r_spl ?_
    refine x_comp [] ?_; intro N k
    (rename St _ _ _ _ _ _ => S'); refine r_name S' rfl ?_
    rename St _ _ _ _ _ _ => S
    refine r_iter_listL S hh (Lst.w hl) ?_
    clear S
    intro I h fp Sti S T hcls hk
    refine k _ _ ?_; clear k N
    refine comp_firsts hh S T hcls (hR.le S.kg) (by (first | exact z173 hcs hul hrl | omega)) ?_ (by rfl)
    clear S T
    intro D ys h tk hys S
    have hys : Strs ys (((turnT src tgt bc bd bs cs).made.map (·.1)).map ch) := by simpa [List.map_map, Function.comp_def] using hys
    refine r_spl0 ?_
    rename St _ _ _ _ _ _ => S
    refine r_join (Lst.w (S.fAt (.head _))) hys (joinOk_ch _ (by simp; (first | exact z174 hcs hrl | omega))) fun t₃ tk => ?_
    rw [join_ch]
    refine r_spl ?_
    (rename St _ _ _ _ _ _ => S'); refine r_name S' rfl ?_
    refine r_spl0 ?_
    rename St _ _ _ _ _ _ => S
    refine r_tup S (by simp) ?_
    clear S
    intro dt n' h tk hn hT _ S
    refine k _ _ ?_
    exact hQ _ _ n' _ _ _ hT (S.less hg₂).out

/-! the plain law: the two readings are one -/
noncomputable abbrev upN (l : List Nat) : List Int := l.map fun (c : Nat) => (c : Int)
noncomputable abbrev upP (l : List (Nat × Bool)) : List (Int × Bool) := l.map fun p => ((p.1 : Int), p.2)

theorem signs_sp : ∀ cs : List Nat, okE cs → signsF cs = upP (spF false cs)
  | [], _ => by simp [signsF, spF]
  | [c], _ => by
    by_cases h : c = 92
    · subst h; simp [signsF, spF]
    · simp [signsF, spF, h]
  | c :: d :: r, hok => by
    rw [signsF_cons]
    rw [okE_cons] at hok
    by_cases h : c = 92
    · rw [if_pos h] at hok ⊢
      subst h
      have ih := signs_sp r hok.2
      show _ = upP (if (92 : Nat) = 92 then spF true (d :: r) else _)
      rw [if_pos rfl, spF, ih]; rfl
    · rw [if_neg h] at hok ⊢
      have ih := signs_sp (d :: r) hok
      show _ = upP (if c = 92 then _ else (c, false) :: spF false (d :: r))
      rw [if_neg h, ih]; rfl

theorem range_up (a b : Nat) : rangeI (a : Int) (b : Int) = upN (rangeN a b) := by
  have h : ((b : Int) + 1 - a).toNat = b + 1 - a := by (first | exact z98 | omega)
  unfold rangeI rangeN upN
  rw [h, List.map_map]
  apply List.map_congr_left
  intro i _
  show (a : Int) + (i : Int) = ((a + i : Nat) : Int)
  (first | exact z267 | omega)
theorem range_one (a : Nat) : rangeI (a : Int) (a : Int) = [(a : Int)] := by
  unfold rangeI
  rw [show ((a : Int) + 1 - a).toNat = 1 by (first | exact z268 | omega)]
  simp [List.range_succ]

theorem codes_wd : ∀ (k : Nat) (l : List (Nat × Bool)), l.length ≤ k → codesF (upP l) = (wdF l).map upN := by
  intro k
  induction k with
  | zero =>
    intro l hl
    obtain rfl : l = [] := List.length_eq_zero_iff.mp (by (first | exact z8 hl | omega))
    simp [codesF, wdF]
  | succ k ih =>
    intro l hl
    match l with
    | [] => simp [codesF, wdF]
    | p :: r =>
      by_cases q : 1 < r.length ∧ r[0]? = some (45, false)
      · match r, q with
        | q1 :: q2 :: t, q =>
          obtain rfl : q1 = (45, false) := by simpa using q.2
          show codesF (((p.1 : Int), p.2) :: (45, false) :: ((q2.1 : Int), q2.2) :: upP t) = _
          rw [codesF_three, wdF_three]
          by_cases h : q2.1 < p.1
          · rw [if_pos (by show (q2.1 : Int) < (p.1 : Int); exact ni (by assumption)), if_pos h]; rfl
          · rw [if_neg (by show ¬ (q2.1 : Int) < (p.1 : Int); exact ni' (by assumption)), if_neg h, ih t (by simp at hl; (first | exact z9 hl | omega)), range_up]
            cases wdF t <;> simp [upN]
      · have q' : ¬ (2 ≤ (upP r).length ∧ (upP r)[0]? = some (45, false)) := by
          intro z
          refine q ⟨by have := z.1; rw [List.length_map] at this; exact Nat.lt_of_succ_le (by assumption), ?_⟩
          have z2 := z.2
          rw [List.getElem?_map, Option.map_eq_some_iff] at z2
          obtain ⟨⟨x, y⟩, e, z3⟩ := z2
          rw [e]
          have h1 := congrArg Prod.fst z3
          have h2 := congrArg Prod.snd z3
          dsimp only at h1 h2
          obtain rfl : x = 45 := by (first | exact z269 h1 | omega)
          rw [h2]
        show codesF (((p.1 : Int), p.2) :: upP r) = _
        rw [codesF_one _ _ q', wdF_one _ _ q, ih r (by simp at hl; assumption), range_one]
        cases wdF r <;> simp [upN]

theorem codes_sp {cs : List Nat} (hok : okE cs) : codesF (signsF cs) = (wdF (spF false cs)).map upN := by
  rw [signs_sp cs hok]; exact codes_wd _ _ (Nat.le_refl _)

theorem mem_up {F : List Nat} {c : Nat} : (c : Int) ∈ upN F ↔ c ∈ F := by
  constructor
  · intro h
    obtain ⟨x, hx, e⟩ := List.mem_map.mp h
    have : x = c := by (first | exact z270 e | omega)
    exact this ▸ hx
  · intro h; exact List.mem_map.mpr ⟨c, h, rfl⟩
theorem idxOf_up (F : List Nat) (c : Nat) : (upN F).idxOf (c : Int) = F.idxOf c := by
  induction F with
  | nil => rfl
  | cons a r ih =>
    show List.idxOf (c : Int) ((a : Int) :: upN r) = _
    rw [List.idxOf_cons, List.idxOf_cons, ih]
    by_cases h : a = c
    · subst h; simp
    · have h1 : ((a : Int) == (c : Int)) = false := by
        apply beq_eq_false_iff_ne.mpr; (first | exact z271 h | omega)
      have h2 : (a == c) = false := by simpa using h
      rw [h1, h2]
theorem getD_up (F : List Nat) (i : Nat) : (upN F).getD i 0 = ((F.getD i 0 : Nat) : Int) := by
  rw [List.getD_eq_getElem?_getD, List.getD_eq_getElem?_getD, List.getElem?_map]
  cases F[i]? <;> rfl

/-! the plain table -/
theorem lookup_snoc (D : List (Int × Int)) (k v c : Int) : (D ++ [(k, v)]).lookup c = match D.lookup c with
    | some x => some x
    | none => if c = k then some v else none := by
  induction D with
  | nil =>
    show List.lookup c [(k, v)] = _
    rw [List.lookup_cons]
    by_cases h : c = k
    · subst h; simp
    · have : (c == k) = false := by simpa using h
      simp [this, h]
  | cons p r ih =>
    show List.lookup c (p :: (r ++ [(k, v)])) = _
    obtain ⟨a, b⟩ := p
    rw [List.lookup_cons, List.lookup_cons, ih]
    by_cases h : c = a
    · subst h; simp
    · have : (c == a) = false := by simpa using h
      simp [this]
/-- after the first k places: what the table holds is the first place's -/
theorem plain_lookup (ss be : List Int) (bd : Bool) (c : Int) : ∀ k, k ≤ ss.length → ((List.range k).foldl (plainStep ss be bd) []).lookup c = if (ss.take k).idxOf c < k then some (plainV be bd ((ss.take k).idxOf c) c) else none
  | 0, _ => by simp
  | k + 1, hk => by
    have ih := plain_lookup ss be bd c k (by (first | exact z272 hk | omega))
    have ih' := plain_lookup ss be bd (ss.getD k 0) k (by (first | exact z272 hk | omega))
    rw [List.range_succ, List.foldl_append]
    show List.lookup c (plainStep ss be bd _ k) = _
    generalize (List.range k).foldl (plainStep ss be bd) [] = D at *
    have hlen : (ss.take k).length = k := by rw [List.length_take]; (first | exact z273 hk | omega)
    have htk : ss.take (k + 1) = ss.take k ++ [ss.getD k 0] := by
      rw [List.take_add_one, List.getD_eq_getElem?_getD, List.getElem?_eq_getElem (by exact Nat.lt_of_succ_le (by assumption))]; rfl
    have hidx : (ss.take (k + 1)).idxOf c = if c ∈ ss.take k then (ss.take k).idxOf c else if c = ss.getD k 0 then k else k + 1 := by
      rw [htk, List.idxOf_append]
      by_cases hm : c ∈ ss.take k
      · rw [if_pos hm, if_pos hm]
      · rw [if_neg hm, if_neg hm, hlen, List.idxOf_cons]
        by_cases he : c = ss.getD k 0
        · rw [if_pos he, ← he]; simp
        · have : (ss.getD k 0 == c) = false := by simpa using Ne.symm he
          rw [if_neg he, this]
          show List.idxOf c [] + 1 + k = k + 1
          simp; (first | exact z274 | omega)
    rw [hidx]
    clear hidx
    by_cases hm : c ∈ ss.take k
    · have hlt : (ss.take k).idxOf c < k := by have := List.idxOf_lt_length_iff.mpr hm; exact eqlt' (by assumption) (by assumption)
      have hlt' : (ss.take k).idxOf c < k + 1 := by (first | exact z275 hlt | omega)
      rw [if_pos hm, if_pos hlt']
      rw [if_pos hlt] at ih
      unfold plainStep
      split
      · exact ih
      · rw [lookup_snoc, ih]
    · have hge : ¬ (ss.take k).idxOf c < k := by
        intro z; exact hm (List.idxOf_lt_length_iff.mp (by exact eqlt (by assumption) (by assumption)))
      rw [if_neg hm]
      rw [if_neg hge] at ih
      by_cases he : c = ss.getD k 0
      · have hk' : k < k + 1 := Nat.lt_succ_self k
        rw [if_pos he, if_pos hk']
        unfold plainStep
        rw [← he, ih, if_neg (by simp), lookup_snoc, ih]
        simp
      · have hk' : ¬ k + 1 < k + 1 := Nat.lt_irrefl _
        rw [if_neg he, if_neg hk']
        unfold plainStep
        split
        · exact ih
        · rw [lookup_snoc, ih]
          dsimp only
          rw [if_neg he]
theorem plainT_lookup (ss be : List Int) (bd : Bool) (c : Int) : (plainT ss be bd).lookup c = if ss.idxOf c < ss.length then some (plainV be bd (ss.idxOf c) c) else none := by
  have := plain_lookup ss be bd c ss.length (Nat.le_refl _)
  rw [List.take_of_length_le (Nat.le_refl _)] at this
  exact this

/-! ranks -/
theorem rank_filter (c : Int) : ∀ bs : List Int, bs.Pairwise (· < ·) → rankN bs c = (bs.filter fun b => decide (b < c)).length
  | [], _ => rfl
  | b :: r, h => by
    rw [List.pairwise_cons] at h
    rw [rankN]
    by_cases q : b < c
    · rw [if_pos q, rank_filter c r h.2, List.filter_cons_of_pos (by simpa using q), List.length_cons]
    · rw [if_neg q, List.filter_cons_of_neg (by simpa using q)]
      have : r.filter (fun b => decide (b < c)) = [] := by
        rw [List.filter_eq_nil_iff]
        intro x hx
        have := h.1 x hx
        simp; (first | exact z109 q this | omega)
      rw [this]; rfl
theorem rank_mem (c : Int) : ∀ bs : List Int, bs.Pairwise (· < ·) → c ∈ bs → bs[rankN bs c]? = some c
  | [], _, h => nomatch h
  | b :: r, h, hm => by
    rw [List.pairwise_cons] at h
    rw [rankN]
    rcases List.mem_cons.mp hm with rfl | hm
    · rw [if_neg (Int.lt_irrefl _)]; rfl
    · rw [if_pos (h.1 c hm), List.getElem?_cons_succ]; exact rank_mem c r h.2 hm
theorem filter_lt_succ (c : Int) : ∀ bs : List Int, bs.Pairwise (· < ·) → (bs.filter fun b => decide (b < c + 1)).length = (bs.filter fun b => decide (b < c)).length + if c ∈ bs then 1 else 0
  | [], _ => by simp
  | b :: r, h => by
    rw [List.pairwise_cons] at h
    have ih := filter_lt_succ c r h.2
    by_cases q : b < c
    · have hne : ¬ c = b := by (first | exact z110 q | omega)
      rw [List.filter_cons_of_pos (by simp; (first | exact z111 q | omega)), List.filter_cons_of_pos (by simpa using q), List.length_cons, List.length_cons, ih]
      simp [hne]; (first | exact z112 | omega)
    · by_cases e : b = c
      · subst e
        have h0 : b ∉ r := fun z => by have := h.1 b z; (first | exact z113 this | omega)
        rw [if_neg h0] at ih
        rw [List.filter_cons_of_pos (by simp; (first | exact z114 | omega)), List.filter_cons_of_neg (by simp), List.length_cons, ih]
        simp
      · have hn : c ∉ r := fun z => by have := h.1 c z; (first | exact z115 q this | omega)
        have hn2 : ¬ c = b := fun z => e z.symm
        rw [if_neg hn] at ih
        rw [List.filter_cons_of_neg (by simp; (first | exact z116 q hn2 | omega)), List.filter_cons_of_neg (by simpa using q), ih]
        simp [hn, hn2]
theorem filter_range (F : List Nat) (bs : List Int) (hb : bs.Pairwise (· < ·)) (hm : ∀ x : Int, x ∈ bs ↔ x ∈ upN F) : ∀ c : Nat, ((List.range c).filter fun d => decide (d ∉ F)).length + (bs.filter fun b => decide (b < (c : Int))).length = c
  | 0 => by
    have : bs.filter (fun b => decide (b < ((0 : Nat) : Int))) = [] := by
      rw [List.filter_eq_nil_iff]
      intro x hx
      obtain ⟨y, _, rfl⟩ := List.mem_map.mp ((hm x).mp hx)
      simp
    rw [this]; rfl
  | c + 1 => by
    have ih := filter_range F bs hb hm c
    have h1 := filter_lt_succ (c : Int) bs hb
    have e : ((c + 1 : Nat) : Int) = (c : Int) + 1 := by (first | exact z117 | omega)
    rw [e, h1, List.range_succ, List.filter_append, List.length_append]
    by_cases q : c ∈ F
    · have q' : (c : Int) ∈ bs := (hm _).mpr (mem_up.mpr q)
      rw [if_pos q']
      have : ([c].filter fun d => decide (d ∉ F)) = [] := by simp [q]
      rw [this]; simp only [List.length_nil]; (first | exact z118 ih | omega)
    · have q' : ¬ (c : Int) ∈ bs := fun z => q (mem_up.mp ((hm _).mp z))
      rw [if_neg q']
      have : ([c].filter fun d => decide (d ∉ F)) = [c] := by simp [q]
      rw [this]; simp only [List.length_cons, List.length_nil]; (first | exact z119 ih | omega)
theorem once_inv : ∀ (ns acc : List Int), acc.Pairwise (· < ·) → (∀ a ∈ acc, ∀ x ∈ ns, a ≤ x) → ns.Pairwise (· ≤ ·) → (ns.foldl onceStep acc).Pairwise (· < ·) ∧ ∀ x, x ∈ ns.foldl onceStep acc ↔ x ∈ acc ∨ x ∈ ns
  | [], acc, h1, _, _ => ⟨h1, fun x => by simp⟩
  | y :: r, acc, h1, h2, h3 => by
    rw [List.pairwise_cons] at h3
    have step : (onceStep acc y).Pairwise (· < ·) ∧ (∀ x, x ∈ onceStep acc y ↔ x ∈ acc ∨ x = y) := by
      unfold onceStep
      split
      · rename_i e
        have hy : y ∈ acc := List.mem_of_getLast? e
        refine ⟨h1, fun x => ⟨.inl, fun z => ?_⟩⟩
        rcases z with z | rfl
        · exact z
        · exact hy
      · rename_i e
        refine ⟨?_, fun x => by simp⟩
        rw [List.pairwise_append]
        refine ⟨h1, by simp, fun a ha b hb => ?_⟩
        rw [List.mem_singleton] at hb; subst hb
        have hle := h2 a ha b (.head _)
        have hne : a ≠ b := by
          rintro rfl
          have hn : acc ≠ [] := List.ne_nil_of_mem ha
          have hl := h2 _ (List.getLast_mem hn) a (.head _)
          have hal : a ≤ acc.getLast hn := by
            obtain ⟨i, hi, e'⟩ := List.mem_iff_getElem.mp ha
            rw [List.getLast_eq_getElem]
            rw [List.pairwise_iff_getElem] at h1
            by_cases q : i < acc.length - 1
            · have := h1 i (acc.length - 1) hi (by omega) q
              omega
            · have hq : acc.length - 1 = i := by omega
              have : acc[acc.length - 1]'(by omega) = acc[i] := by congr 1
              omega
          apply e
          rw [List.getLast?_eq_some_getLast hn]
          congr 1; omega
        (first | exact z120 hle hne | omega)
    have ih := once_inv r (onceStep acc y) step.1 (fun a ha x hx => by
      rcases (step.2 a).mp ha with ha | rfl
      · exact h2 a ha x (.tail _ hx)
      · exact h3.1 x hx) h3.2
    refine ⟨ih.1, fun x => ?_⟩
    rw [List.foldl_cons, ih.2, step.2, List.mem_cons]
    constructor
    · rintro ((a | a) | a)
      · exact .inl a
      · exact .inr (.inl a)
      · exact .inr (.inr a)
    · rintro (a | a | a)
      · exact .inl (.inl a)
      · exact .inl (.inr a)
      · exact .inr a
theorem rank_place {F : List Nat} {ns' : List Int} (hp : ns'.Perm (upN F)) (hs : ns'.Pairwise (· ≤ ·)) (c : Nat) : rankO (once ns') (c : Int) = placeF F c true := by
  obtain ⟨o1, o2⟩ := once_inv ns' [] .nil (fun _ h => nomatch h) hs
  change (once ns').Pairwise _ at o1
  have hm : ∀ x : Int, x ∈ once ns' ↔ x ∈ upN F := fun x => by
    show x ∈ ns'.foldl onceStep [] ↔ _
    rw [o2]; simp only [List.not_mem_nil, false_or]; exact hp.mem_iff
  unfold rankO
  rw [placeF, if_pos rfl]
  by_cases q : c ∈ F
  · rw [if_pos (rank_mem _ _ o1 ((hm _).mpr (mem_up.mpr q))), if_pos q]
  · rw [if_neg (fun z => q (mem_up.mp ((hm _).mp (List.mem_of_getElem? z)))), if_neg q, rank_filter _ _ o1]
    have := filter_range F (once ns') o1 hm c
    (first | exact z121 this | omega)

/-! what becomes of one sign -/
theorem tail_law (S : List Nat) (bd : Bool) (c : Nat) {r : Int} (h1 : ¬ r < (S.length : Int)) :
    (if bd = true then (-2 : Int) else if upN S = [] then (c : Int) else (upN S).getD ((upN S).length - 1) 0) = match turnSign S bd r c with | none => -2 | some x => (x : Int) := by
  unfold turnSign
  rw [if_neg h1]
  cases bd
  · simp only [Bool.false_eq_true, if_false]
    by_cases h3 : S = []
    · subst h3; rfl
    · have h4 : ¬ upN S = [] := by simpa using h3
      rw [if_neg h3, if_neg h4, getD_up, List.length_map]
  · rfl
theorem head_law (S : List Nat) (bd : Bool) (c : Nat) {r : Int} (h1 : r < (S.length : Int)) : (upN S).getD r.toNat 0 = match turnSign S bd r c with | none => -2 | some x => (x : Int) := by
  unfold turnSign
  rw [if_pos h1, getD_up]
theorem code_law {F S : List Nat} {bc bd bs : Bool} {ns' : List Int} (hp : bc = true → ns'.Perm (upN F) ∧ ns'.Pairwise (· ≤ ·)) (c : Nat) :
    codeC (mkTbl bc bd bs (upN F) (upN S) ns') c = if placeF F c bc < 0 then -1 else match turnSign S bd (placeF F c bc) c with | none => -2 | some x => (x : Int) := by
  have hlen : (upN S).length = S.length := by simp
  cases bc
  · rw [mkTbl, if_neg Bool.false_ne_true]
    unfold codeC
    rw [if_neg Bool.false_ne_true]
    dsimp only
    rw [plainT_lookup, idxOf_up, show (upN F).length = F.length by simp]
    have hpl : placeF F c false = if c ∈ F then (F.idxOf c : Int) else -1 := by rw [placeF, if_neg Bool.false_ne_true]
    rw [hpl]
    by_cases q : c ∈ F
    · have h := List.idxOf_lt_length_iff.mpr q
      have hneg : ¬ (F.idxOf c : Int) < 0 := by (first | exact z122 | omega)
      rw [if_pos h, if_pos q, if_neg hneg]
      show plainV _ _ _ _ = _
      unfold plainV
      by_cases h1 : F.idxOf c < S.length
      · have h1' : (F.idxOf c : Int) < (S.length : Int) := by exact ni (by assumption)
        rw [← head_law S bd c h1', if_pos (by rw [hlen]; exact h1), Int.toNat_natCast]
      · have h1' : ¬ (F.idxOf c : Int) < (S.length : Int) := by exact ni' (by assumption)
        rw [← tail_law S bd c h1', if_neg (by rw [hlen]; exact h1)]
    · have h : ¬ F.idxOf c < F.length := fun z => q (List.idxOf_lt_length_iff.mp z)
      rw [if_neg h, if_neg q, if_pos (by decide)]; rfl
  · obtain ⟨p1, p2⟩ := hp rfl
    rw [mkTbl, if_pos rfl]
    unfold codeC
    rw [if_pos rfl]
    unfold turnedC
    dsimp only
    rw [rank_place p1 p2]
    generalize placeF F c true = r
    by_cases h0 : r < 0
    · rw [if_pos h0, if_pos h0]
    · rw [if_neg h0, if_neg h0]
      by_cases h1 : r < (S.length : Int)
      · rw [← head_law S bd c h1, if_pos (by rw [hlen]; exact h1)]
      · rw [← tail_law S bd c h1, if_neg (by rw [hlen]; exact h1)]

noncomputable def lastOf (m : List (Nat × Bool)) : Int := match m.getLast? with | some (x, true) => (x : Int) | _ => -1
theorem lastOf_snoc (m : List (Nat × Bool)) (x : Nat) (b : Bool) : lastOf (m ++ [(x, b)]) = if b then (x : Int) else -1 := by
  unfold lastOf
  rw [List.getLast?_concat]
  cases b <;> rfl
theorem lastOf_is (m : List (Nat × Bool)) (x : Nat) : (x : Int) = lastOf m ↔ m.getLast? = some (x, true) := by
  unfold lastOf
  rcases h : m.getLast? with _ | ⟨y, b⟩
  · simp
  · cases b
    · simp
    · simp
      constructor
      · intro h; (first | exact z123 h | omega)
      · intro h; (first | exact z124 h | omega)
theorem run_law {T : Tbl} {F S : List Nat} {bc bd bs : Bool} (hsq : T.sq = bs) (hcode : ∀ c : Nat, codeC T c = if placeF F c bc < 0 then -1 else match turnSign S bd (placeF F c bc) c with | none => -2 | some x => (x : Int)) :
    ∀ (cs : List Nat) (r : RS) (q : TS), r.out = q.made.map (·.1) → r.count = q.count → r.last = lastOf q.made →
      (cs.foldl (runStep T) r).out = (cs.foldl (turnStep F S bc bd bs) q).made.map (·.1) ∧ (cs.foldl (runStep T) r).count = (cs.foldl (turnStep F S bc bd bs) q).count
  | [], r, q, h1, h2, _ => ⟨h1, h2⟩
  | c :: cs, r, q, h1, h2, h3 => by
    rw [List.foldl_cons, List.foldl_cons]
    have hc := hcode c
    have step : (runStep T r c).out = (turnStep F S bc bd bs q c).made.map (·.1) ∧ (runStep T r c).count = (turnStep F S bc bd bs q c).count ∧ (runStep T r c).last = lastOf (turnStep F S bc bd bs q c).made := by
      unfold runStep turnStep
      by_cases hp : placeF F c bc < 0
      · rw [if_pos hp] at hc ⊢
        rw [if_pos hc]
        refine ⟨by simp [h1], h2, ?_⟩
        rw [lastOf_snoc]; rfl
      · rw [if_neg hp] at hc ⊢
        rcases ht : turnSign S bd (placeF F c bc) c with _ | x
        · rw [ht] at hc
          dsimp only at hc ⊢
          rw [if_neg (by rw [hc]; decide), if_pos (.inl hc)]
          exact ⟨h1, by rw [h2], h3⟩
        · rw [ht] at hc
          dsimp only at hc ⊢
          have n1 : ¬ codeC T c = -1 := fun z => by rw [hc] at z; exact absurd z (by simp; try omega)
          have n2 : ¬ codeC T c = -2 := fun z => by rw [hc] at z; exact absurd z (by simp; try omega)
          rw [if_neg n1]
          by_cases hl : bs = false ∨ q.made.getLast? ≠ some (x, true)
          · have : ¬ (codeC T c = -2 ∨ T.sq = true ∧ codeC T c = r.last) := by
              rintro (z | ⟨z1, z2⟩)
              · exact n2 z
              · rcases hl with e | e
                · rw [hsq, e] at z1; cases z1
                · rw [hc, h3] at z2; exact e ((lastOf_is _ _).mp z2)
            rw [if_neg this, if_pos hl]
            refine ⟨by simp [h1, hc], by rw [h2], ?_⟩
            rw [lastOf_snoc, hc]; rfl
          · have hb : bs = true := by cases bs <;> simp at hl ⊢
            have hg : q.made.getLast? = some (x, true) := by
              apply Classical.byContradiction
              intro z; exact hl (.inr z)
            rw [if_neg hl, if_pos (.inr ⟨hsq.trans hb, by rw [hc, h3]; exact (lastOf_is _ _).mpr hg⟩)]
            exact ⟨h1, by rw [h2], h3⟩
    exact run_law hsq hcode cs _ _ step.1 step.2.1 step.2.2

theorem text_law {F S : List Nat} {bc bd bs : Bool} {ns' : List Int} (hp : bc = true → ns'.Perm (upN F) ∧ ns'.Pairwise (· ≤ ·)) (cs : List Nat) :
    (runT (mkTbl bc bd bs (upN F) (upN S) ns') cs).out = (turnT F S bc bd bs cs).made.map (·.1) ∧ (runT (mkTbl bc bd bs (upN F) (upN S) ns') cs).count = (turnT F S bc bd bs cs).count :=
  run_law (by cases bc <;> rfl) (code_law hp) cs _ _ rfl rfl rfl
theorem count_turn (F : List Nat) : ∀ (cs : List Nat) (q : TS), (cs.foldl (turnStep F [] false false false) q).count = q.count + ((cs.filter fun c => decide (c ∈ F)).length : Int)
  | [], q => by simp
  | c :: cs, q => by
    rw [List.foldl_cons, count_turn F cs]
    have hp : placeF F c false = if c ∈ F then (F.idxOf c : Int) else -1 := by rw [placeF, if_neg Bool.false_ne_true]
    by_cases h : c ∈ F
    · rw [if_pos h] at hp
      have : (turnStep F [] false false false q c).count = q.count + 1 := by
        unfold turnStep
        rw [hp, if_neg (by (first | exact z122 | omega))]
        unfold turnSign
        rw [if_neg (by simp; try omega), if_neg Bool.false_ne_true, if_pos rfl]
        dsimp only
        rw [if_pos (.inl rfl)]
      rw [this, List.filter_cons_of_pos (by simpa using h), List.length_cons]
      (first | exact z125 | omega)
    · rw [if_neg h] at hp
      have : (turnStep F [] false false false q c).count = q.count := by
        unfold turnStep
        rw [hp, if_pos (by decide)]
      rw [this, List.filter_cons_of_neg (by simpa using h)]
theorem count_law (F : List Nat) (cs : List Nat) : (runT (mkTbl false false false (upN F) [] []) cs).count = ((cs.filter fun c => decide (c ∈ F)).length : Int) := by
  have h1 := (text_law (F := F) (S := []) (bc := false) (bd := false) (bs := false) (ns' := []) (fun z => by cases z) cs).2
  have h2 := count_turn F cs ⟨[], 0⟩
  rw [show upN [] = [] from rfl] at h1
  rw [h1]
  show (cs.foldl (turnStep F [] false false false) ⟨[], 0⟩).count = _
  rw [h2]; simp

/-! law: what it draws -/
noncomputable def restL : List Int := [2, 5, 0, 2, 1, 1, 1, 6, 2, 5, 0, 3, 1, 2, 0, 6, 4, 5]
noncomputable def penF (ns : List Int) : List Int := ns.take 36 ++ restL.drop (ns.take 36).length
noncomputable def flagsP (ns : List Int) (i k : Nat) : List Nat := (List.range k).flatMap fun j => if drawF ns (i + j) 2 = 1 then [[99, 100, 115].getD j 0] else []
theorem flagsP_is (ns : List Int) (i : Nat) : flagsP ns i 3 = flagsL (decide (drawF ns i 2 = 1)) (decide (drawF ns (i + 1) 2 = 1)) (decide (drawF ns (i + 2) 2 = 1)) := by
  unfold flagsP flagsL
  simp [List.range_succ]
noncomputable def signsL : List Nat := [97, 98, 99, 100, 101, 102, 45, 122, 10, 92, 33]
noncomputable def textN (ns : List Int) (i : Nat) : Nat := (drawF ns i 17).toNat
noncomputable def textP (ns : List Int) (i k : Nat) : List Nat := (List.range k).map fun j => signsL.getD (drawF ns (i + 1 + j) 11).toNat 0
theorem textP_small (ns : List Int) (i k : Nat) : ∀ c ∈ textP ns i k, c ≤ 122 := by
  intro c hc
  obtain ⟨j, _, rfl⟩ := List.mem_map.mp hc
  have : ∀ q, signsL.getD q 0 ≤ 122 := by
    intro q
    by_cases h : q < 11
    · have : ∀ q < 11, signsL.getD q 0 ≤ 122 := by decide
      exact this q h
    · rw [List.getD_eq_getElem?_getD, List.getElem?_eq_none (by simpa [signsL] using h)]; simp
  exact this _
theorem penF_len (ns : List Int) (h : ns.length ≤ 1000) : 0 < (penF ns).length ∧ (penF ns).length ≤ 1000 := by
  have : restL.length = 18 := by decide
  unfold penF
  rw [List.length_append, List.length_drop, List.length_take, this]
  (first | exact z277 | omega)

set_option maxHeartbeats 4000000 in
theorem c_rest {prog : Program} {w : World} {A : Around} {E : Value → Shared → Prop} {Q : Value → Shared → Prop} {s : Shared} {h : Heap} {tk : Nat}
    (G : Gn w h.get?) (hd : A.depth < recursionLimit) (hQ : ∀ h' tk' N d vs, Lst N d vs → IntsAre vs restL → Ext h h' N → Q (.ref d) (mkS s h' tk')) :
    wpAny (model prog w) A (call (.ref 159) []) Q E (mkS s h tk) := by
  refine enter [] G rfl rfl (by assumption) rfl rfl rfl ?_
  intro L h₁ tk₁ S
  have zL : (1000000 : Nat) ≤ sizeLine := by rw [sizeLine_eq]; decide
  refine x_ret ?_; intro N k
  refine List_ ?_
  refine r_spl ?_
  refine r_int ?_; intro _ _
  refine r_spl ?_
  refine r_int ?_; intro _ _
  refine r_spl ?_
  refine r_int ?_; intro _ _
  refine r_spl ?_
  refine r_int ?_; intro _ _
  refine r_spl ?_
  refine r_int ?_; intro _ _
  refine r_spl ?_
  refine r_int ?_; intro _ _
  refine r_spl ?_
  refine r_int ?_; intro _ _
  refine r_spl ?_
  refine r_int ?_; intro _ _
  refine r_spl ?_
  refine r_int ?_; intro _ _
  refine r_spl ?_
  refine r_int ?_; intro _ _
  refine r_spl ?_
  refine r_int ?_; intro _ _
  refine r_spl ?_
  refine r_int ?_; intro _ _
  refine r_spl ?_
  refine r_int ?_; intro _ _
  refine r_spl ?_
  refine r_int ?_; intro _ _
  refine r_spl ?_
  refine r_int ?_; intro _ _
  refine r_spl ?_
  refine r_int ?_; intro _ _
  refine r_spl ?_
  refine r_int ?_; intro _ _
  refine r_spl ?_
  refine r_int ?_; intro _ _
  refine r_spl0 ?_
  rename St _ _ _ _ _ _ => S
  refine r_newList S (by simp only [List.length_cons, List.length_nil]; decide) ?_
  clear S
  intro d h tk S
  refine S.freeze' ?_; intro n _ hl S
  rename St _ _ _ _ _ _ => S
  refine k _ _ ?_
  exact hQ _ _ _ _ _ hl (by unfold restL; repeat constructor) S.out

/-! the lists that are drawn -/
theorem okE_plain {c : Nat} {r : List Nat} (hc : c ≠ 92) (h : okE r) : okE (c :: r) := by
  cases r with
  | nil => rw [okE]; trivial
  | cons d r => rw [okE_cons, if_neg hc]; exact h
theorem okE_bar {d : Nat} {r : List Nat} (hd : d = 110 ∨ d = 45 ∨ d = 92) (h : okE r) : okE (92 :: d :: r) := by
  rw [okE_cons, if_pos rfl]; exact ⟨hd, h⟩
theorem okE_atom {a : List Nat} (ha : a ∈ atomsL) {r : List Nat} (h : okE r) : okE (a ++ r) := by
  simp only [atomsL, List.mem_cons, List.not_mem_nil, or_false] at ha
  rcases ha with rfl | rfl | rfl | rfl | rfl | rfl | rfl | rfl | rfl | rfl | rfl
  · exact okE_plain (by decide) h
  · exact okE_plain (by decide) h
  · exact okE_plain (by decide) h
  · exact okE_plain (by decide) h
  · exact okE_bar (by decide) h
  · exact okE_plain (by decide) (okE_plain (by decide) (okE_plain (by decide) h))
  · exact okE_plain (by decide) (okE_plain (by decide) (okE_plain (by decide) h))
  · exact okE_bar (by decide) h
  · exact okE_plain (by decide) (okE_plain (by decide) (okE_plain (by decide) h))
  · exact okE_plain (by decide) h
  · exact okE_bar (by decide) h
theorem okE_flat : ∀ l : List (List Nat), (∀ a ∈ l, a ∈ atomsL) → okE l.flatten
  | [], _ => by rw [List.flatten_nil, okE]; trivial
  | a :: r, h => by rw [List.flatten_cons]; exact okE_atom (h a (.head _)) (okE_flat r fun x hx => h x (.tail _ hx))
theorem small_flat (l : List (List Nat)) (h : ∀ a ∈ l, a ∈ atomsL) : ∀ c ∈ l.flatten, c ≤ 122 := by
  intro c hc
  obtain ⟨a, ha, hca⟩ := List.mem_flatten.mp hc
  have : ∀ a ∈ atomsL, ∀ c ∈ a, c ≤ 122 := by decide
  exact this a (h a ha) c hca
theorem len_flat : ∀ l : List (List Nat), (∀ a ∈ l, a ∈ atomsL) → l.flatten.length ≤ 3 * l.length
  | [], _ => by simp
  | a :: r, h => by
    have h1 := len_flat r fun x hx => h x (.tail _ hx)
    have : ∀ a ∈ atomsL, a.length ≤ 3 := by decide
    have h2 := this a (h a (.head _))
    rw [List.flatten_cons, List.length_append, List.length_cons]
    (first | exact z15 h1 h2 | omega)
theorem atom_in (ns : List Int) (i : Nat) : atomF ns i ∈ atomsL := by
  have h := drawF_range ns i (m := 11) (by decide)
  have hl : atomsL.length = 11 := by decide
  unfold atomF
  rw [List.getD_eq_getElem?_getD, List.getElem?_eq_getElem (by (first | exact z16 h hl | omega))]
  exact List.getElem_mem _
theorem listA_in (ns : List Int) (i : Nat) : ∀ a ∈ listA ns i, a ∈ atomsL := by
  intro a ha
  obtain ⟨j, _, rfl⟩ := List.mem_map.mp ha
  exact atom_in _ _
theorem listA_len (ns : List Int) (i : Nat) : (listA ns i).length ≤ 3 := by
  have h := drawF_range ns i (m := 4) (by decide)
  unfold listA listN
  rw [List.length_map, List.length_range]
  (first | exact z17 h | omega)
theorem listF_ok (ns : List Int) (i : Nat) : okE (listF ns i) := okE_flat _ (listA_in ns i)
theorem listF_small (ns : List Int) (i : Nat) : ∀ c ∈ listF ns i, c ≤ 122 := small_flat _ (listA_in ns i)
theorem listF_len (ns : List Int) (i : Nat) : (listF ns i).length ≤ 9 := by
  have h1 := len_flat _ (listA_in ns i)
  have h2 := listA_len ns i
  unfold listF; (first | exact z18 h1 h2 | omega)
theorem signs_small {cs : List Nat} (hok : okE cs) (h : ∀ c ∈ cs, c ≤ 122) : ∀ p ∈ signsF cs, 0 ≤ p.1 ∧ p.1 ≤ 122 := by
  intro p hp
  rw [signs_sp cs hok] at hp
  obtain ⟨q, hq, rfl⟩ := List.mem_map.mp hp
  have := spF_small cs false h q hq
  dsimp only
  (first | exact z19 this | omega)
theorem words_small {cs : List Nat} (h : ∀ c ∈ cs, c ≤ 122) {ws : List Nat} (hok : okE cs) (hw : wdF (spF false cs) = some ws) : ws.length ≤ 41 * cs.length ∧ ∀ c ∈ ws, c ≤ 122 := by
  have hc : codesF (signsF cs) = some (upN ws) := by rw [codes_sp hok, hw]; rfl
  obtain ⟨h1, h2⟩ := codesF_ok _ _ (Nat.le_refl _) (signs_small hok h) _ hc
  have h3 := signsF_len cs
  rw [List.length_map] at h1
  refine ⟨by (first | exact z20 h1 h3 | omega), fun c hc => ?_⟩
  have := h2 _ (mem_up.mpr hc)
  (first | exact z21 this | omega)

/-- what _law_spelt gives -/
noncomputable def Spelt (p : PM) (v : Value) : Option (List Nat) → Prop
  | none => v = .none
  | some ws => ∃ d us, v = .ref d ∧ Strs us (ws.map ch) ∧ Lst p d us
theorem Spelt.le {p q : PM} {v : Value} {o : Option (List Nat)} (x : Spelt p v o) (k : Le p q) : Spelt q v o := by
  cases o with
  | none => exact x
  | some ws => obtain ⟨d, us, a, b, c⟩ := x; exact ⟨d, us, a, b, c.le k⟩
theorem c_spelt2 {prog : Program} {w : World} {A : Around} {E : Value → Shared → Prop} {Q : Value → Shared → Prop} {s : Shared} {h₀ : Heap} {tk : Nat} {cs : List Nat} {tt : Tok}
    (G : Gn w h₀.get?) (hd : A.depth + 1 < recursionLimit) (hu : A.units + 100 < cLine) (hh : A.handled = none) (hcs : cs.length ≤ 20) (hsm : ∀ c ∈ cs, c ≤ 122)
    (hQ : ∀ h' tk' N v, Spelt N v (wdF (spF false cs)) → Ext h₀ h' N → Q v (mkS s h' tk')) :
    wpAny (model prog w) A (call (.ref 177) [.str (tx cs) tt]) Q E (mkS s h₀ tk) := by
  refine c_spelt G hd hu hh hcs hsm (fun ws hw h' tk' N d us hu hl X => ?_) (fun hw h' tk' k => ?_)
  · exact hQ _ _ N _ (by rw [hw]; exact ⟨d, us, rfl, hu, hl⟩) X
  · exact hQ _ _ PM0 _ (by rw [hw]; rfl) ⟨k, (fun _ _ e => nomatch e), fun _ _ e => nomatch e⟩

set_option maxHeartbeats 8000000 in
theorem c_law {prog : Program} {w : World} {A : Around} {E : Value → Shared → Prop} {Q : Value → Shared → Prop} {s : Shared} {h₀ : Heap} {tk : Nat} {l : Addr} {vs : List Value} {ns : List Int}
    (hS : ∀ N i ss, codesF (signsF (listF N i)) = some ss → ∀ us, IntsAre us ss → 2 ≤ us.length → SortOk us)
    (hA : A.frames = some []) (G : Gn w h₀.get?) (hd : A.depth + 40 < recursionLimit) (hu : A.units + 600 < cLine) (hh : A.handled = none) (hl : Wls h₀.get? l vs) (hI : IntsAre vs ns) (hz : ns.length ≤ 1000)
    (hQ : ∀ h' tk', Le h₀.get? h'.get? → Q (.bool true) (mkS s h' tk')) :
    wpAny (model prog w) A (call (.ref 192) [.ref l]) Q E (mkS s h₀ tk) := by
  refine enterC [(Str.ofString "script", .ref l)] G rfl rfl (by exact dd0 (by assumption)) rfl (fun k x hx => by rw [List.mem_singleton] at hx; subst hx; exact .inl rfl) (by decide) ?_
  intro L h₁ tk₁ hL₀ S
  replace S : St h₀.get? PM0 h₁ L (fun y => if y = Str.ofString "script" then some (.ref l) else none) [(L + 2, celO none), (L + 1, celO none)] := S
  have zL : (1000000 : Nat) ≤ sizeLine := by rw [sizeLine_eq]; decide
  have hvl := hI.length
  obtain ⟨hp0, hpz⟩ := penF_len ns hz
  have hIP : ∀ us, IntsAre us restL → IntsAre (vs.take 36 ++ us.drop (vs.take 36).length) (penF ns) := fun us hus => by
    have e : (vs.take 36).length = (ns.take 36).length := (IntsAre.take' hI 36).length
    rw [e]
    exact IntsAre.app (IntsAre.take' hI 36) (IntsAre.drop' hus _)
  refine x_set ?_; intro N k
  refine x_sliceU ?_
  (rename St _ _ _ _ _ _ => S'); refine r_name S' rfl ?_
  refine r_int ?_; intro _ _
  rename St _ _ _ _ _ _ => S
  refine r_sliceU S (S.gAt hl) (by exact eqle (by assumption) (Nat.le_trans (by assumption) (by decide))) ?_
  clear S
  intro d h tk S
  refine S.freeze' ?_; intro n _ hs S
  refine k _ _ ?_; clear k N
  (rename St _ _ _ _ _ _ => S'); refine r_store S' ?_; clear S'; intro _ _ S
  refine x_set ?_; intro N k
  refine List_ ?_
  refine r_spl ?_
  refine wpAny_BinOp ?_
  (rename St _ _ _ _ _ _ => S'); refine r_name S' rfl ?_
  refine x_sliceF ?_
  rename St _ _ _ _ _ _ => S
  rename Gn _ _ => G
  refine r_cdef0 (S.gn G) rfl rfl ?_
  refine c_rest (S.gn G) (by exact dp0 (by assumption) (by decide)) ?_
  intro h tk Nr dr us hr hus X
  refine S.absorb' X ?_; intro n' hn1 hN1 S
  replace hs := hs.le hn1
  replace hr := hr.le hN1
  have hul := hus.length
  have hrl : restL.length = 18 := by decide
  (rename St _ _ _ _ _ _ => S'); (rename Gn _ _ => G'); refine r_cbi1 (S'.gn G') rfl boot_len ?_
  (rename St _ _ _ _ _ _ => S'); refine r_name S' rfl ?_
  rename St _ _ _ _ _ _ => S
  refine r_len (Lst.w (S.nAt hs)) (by rw [List.length_take]; (first | exact z126 | omega)) fun t tk => ?_
  refine r_sliceFG S (Lst.w (S.nAt hr)) (by (first | exact z127 hul hrl | omega)) ?_
  clear S
  intro d2 h tk S
  refine r_ladd S (Lst.w (S.nAt hs)) (Lst.w (S.fAt (.head _))) (by rw [List.length_take, List.length_drop]; (first | exact z128 hul hrl | omega)) ?_
  clear S
  intro d3 h tk S
  replace hIP := hIP us hus
  generalize vs.take 36 ++ us.drop (vs.take 36).length = ps at *
  have hpl := hIP.length
  refine S.freeze' ?_; intro n hn2 hps S
  replace S := S.sub (List.sublist_cons_self ..)
  clear hs hr hus hul hrl hvl
  refine r_spl ?_
  refine r_int ?_; intro _ _
  refine r_spl0 ?_
  rename St _ _ _ _ _ _ => S
  refine r_newList S (by simp only [List.length_cons, List.length_nil]; decide) ?_
  clear S
  intro p h tk S
  refine k _ _ ?_; clear k N
  refine r_cellS S (.tail (.tail .head)) ?_
  clear S
  intro h S
  replace S := S.perm (List.perm_append_comm (l₁ := [(L + 1, celO (some (.ref p)))]) (l₂ := [_, _]))
  refine S.freeze' ?_; intro n hn3 hc S
  replace hps := hps.le hn3
  replace S : St _ _ _ _ _ [(p, wlsP [.ref d3, .int (0 : Nat) _]), (L + 2, celO none)] := S.weak .head (fun o ho => by obtain ⟨k, rfl⟩ := ho; exact ⟨rfl, k, rfl⟩)
  have hdp : d3 ≠ p := fun e => by obtain ⟨o, e', _⟩ := hps; rw [e, (S.fx _ (.head _)).2.2.2] at e'; cases e'
  -- the two lists
  refine x_set ?_; intro N k
  (rename St _ _ _ _ _ _ => S'); (rename Gn _ _ => G'); refine r_cdef (S'.gn G') rfl rfl ?_
  refine r_spl ?_
  rename St _ _ _ _ _ _ => S
  rename Gn _ _ => G
  refine r_cellN (S.nAt hc) ?_
  refine r_spl0 ?_
  (rename St _ _ _ _ _ _ => S'); (rename Gn _ _ => G'); refine And.intro (S'.gn G').in ?_
  rename St _ _ _ _ _ _ => S
  rename Gn _ _ => G
  refine c_list G S.kg (S.fx _ (.head _)).2.2.1 (by exact dp (by assumption) (by decide)) hh (S.fAt (.head _)) (Lst.w (S.nAt hps)) hdp hIP hp0 hpz (by exact Nat.zero_le _) ?_
  intro h tk t₁ t₂ hk hpp
  replace S := S.touch .head hpp hk
  clear hk hpp
  have hb1 : listN (penF ns) 0 ≤ 3 := by have := listA_len (penF ns) 0; unfold listA at this; simpa using this
  generalize hi1 : 0 + 1 + listN (penF ns) 0 = i1 at *
  refine k _ _ ?_; clear k N
  (rename St _ _ _ _ _ _ => S'); refine r_store S' ?_; clear S'; intro _ _ S
  refine x_set ?_; intro N k
  (rename St _ _ _ _ _ _ => S'); (rename Gn _ _ => G'); refine r_cdef (S'.gn G') rfl rfl ?_
  refine r_spl ?_
  rename St _ _ _ _ _ _ => S
  rename Gn _ _ => G
  refine r_cellN (S.nAt hc) ?_
  refine r_spl0 ?_
  (rename St _ _ _ _ _ _ => S'); (rename Gn _ _ => G'); refine And.intro (S'.gn G').in ?_
  rename St _ _ _ _ _ _ => S
  rename Gn _ _ => G
  refine c_list G S.kg (S.fx _ (.head _)).2.2.1 (by exact dp (by assumption) (by decide)) hh (S.fAt (.head _)) (Lst.w (S.nAt hps)) hdp hIP hp0 hpz (by (first | exact z129 hb1 hi1 | omega)) ?_
  intro h tk t₁ t₂ hk hpp
  replace S := S.touch .head hpp hk
  clear hk hpp
  have hb2 : listN (penF ns) i1 ≤ 3 := by have := listA_len (penF ns) i1; unfold listA at this; simpa using this
  generalize hi2 : i1 + 1 + listN (penF ns) i1 = i2 at *
  -- the flags
  refine k _ _ ?_; clear k N
  (rename St _ _ _ _ _ _ => S'); refine r_store S' ?_; clear S'; intro _ _ S
  refine x_set ?_; intro N k
  refine MethodCall_ ?_
  refine r_str ?_; intro _ _
  refine GM.join ?_
  refine PyProof.Rows.callWith_method1 ?_
  refine r_spl ?_
  refine x_comp [(Str.ofString "pen", L + 1)] ?_; intro N k
  refine r_str ?_; intro _ _
  rename St _ _ _ _ _ _ => S
  rw [show Str.ofString "cds" = tx [99, 100, 115] from by decide]
  refine r_iter_str S hh ?_
  clear S
  intro I h fp Sti S T
  replace T : Itr _ _ _ _ _ _ _ _ _ 3 _ _ _ := T
  refine k _ _ ?_; clear k N
  refine comp1 (fsM := [_]) (fsK := [_]) (fun q ys fs => X1 fun t => (fs = [(p, wlsP [.ref d3, .int (i2 + q : Nat) t])]) ∧ (Strs ys ((flagsP (penF ns) i2 q).map ch))) hh S T ?_ (by decide) ?_ ?_ (by rfl)
  · exact ⟨_, rfl, .nil⟩
  · clear S T
    intro q v ys g₂ n₂ m₂ fs h tk C Fn F₀ N hF hF₀ k hg hn hgL hlt hv hp0 S
    refine hide fun q₀ kq => ?_
    obtain ⟨t₃, rfl, hys⟩ := hp0
    refine kq ?_; clear kq q₀
    obtain ⟨c, u, hci, rfl⟩ := hv
    have hci : [99, 100, 115][q]? = some c := by simpa using hci
    replace G := G.le hg
    replace hps := hps.le hn
    replace hc := hc.le hn
    refine wpAny_isTrue_Compare1 ?_
    (rename St _ _ _ _ _ _ => S'); (rename Gn _ _ => G'); refine r_cdef (S'.gn G') rfl rfl ?_
    refine r_spl ?_
    rename St _ _ _ _ _ _ => S
    refine r_cellN (S.gAt hc) ?_
    refine r_spl ?_
    refine r_int ?_; intro _ _
    refine r_spl0 ?_
    (rename St _ _ _ _ _ _ => S'); (rename Gn _ _ => G'); refine And.intro (S'.gn G').in ?_
    rename St _ _ _ _ _ _ => S
    rename Gn _ _ => G
    refine c_draw G S.kg (S.fx _ (.head _)).2.2.1 (by exact dp0 (by assumption) (by decide)) (S.fAt (.head _)) (Lst.w (S.gAt hps)) hdp hIP hp0 hpz (by (first | exact z130 hb1 hi1 hb2 hi2 hlt | omega)) (by decide) ?_
    intro h₂ tk t₁ t₂ hk hp₂
    replace S := S.touch .head hp₂ hk
    clear hk hp₂
    have hr : flagsP (penF ns) i2 (q + 1) = flagsP (penF ns) i2 q ++ (if drawF (penF ns) (i2 + q) 2 = 1 then [c] else []) := by
      have hg : [99, 100, 115].getD q 0 = c := by rw [List.getD_eq_getElem?_getD, hci]; rfl
      unfold flagsP
      rw [List.range_succ, List.flatMap_append, List.flatMap_cons, hg, List.flatMap_nil, List.append_nil]
    refine r_int ?_; intro _ _
    refine eq_int ?_
    refine wpAny_truthy_bool ?_
    try (refine k _ _ ?_; clear k N)
    refine ite_dec (fun h1 => ?_) (fun h1 => ?_)
    · (rename St _ _ _ _ _ _ => S'); refine r_name S' rfl ?_
      rename St _ _ _ _ _ _ => S
      refine hF _ _ _ _ _ _ S ⟨_, rfl, ?_⟩
      rw [hr, if_pos h1, List.map_append]
      exact hys.append' (.cons _ _ .nil)
    · rename St _ _ _ _ _ _ => S
      refine hF₀ _ _ _ _ _ S ⟨_, rfl, ?_⟩
      rw [hr, if_neg h1, List.append_nil]
      exact hys
  · clear S T
    intro D ys fs h tk hp0 S
    refine hide fun q₀ kq => ?_
    obtain ⟨t₃, rfl, hys⟩ := hp0
    refine kq ?_; clear kq q₀
    rw [flagsP_is] at hys
    generalize hbc : decide (drawF (penF ns) i2 2 = 1) = bc at *
    generalize hbd : decide (drawF (penF ns) (i2 + 1) 2 = 1) = bd at *
    generalize hbs : decide (drawF (penF ns) (i2 + 2) 2 = 1) = bs at *
    have hfl : (flagsL bc bd bs).length ≤ 3 := by cases bc <;> cases bd <;> cases bs <;> decide
    refine r_spl0 ?_
    rename St _ _ _ _ _ _ => S
    refine r_join (Lst.w (S.fAt (.head _))) hys (joinOk_ch _ (by exact Nat.le_trans (by assumption) (by decide))) fun t₄ tk => ?_
    rw [join_ch]
    replace S := S.sub (List.sublist_cons_self ..)
    -- the text
    refine k _ _ ?_; clear k N
    (rename St _ _ _ _ _ _ => S'); refine r_store S' ?_; clear S'; intro _ _ S
    refine x_set ?_; intro N k
    refine MethodCall_ ?_
    refine r_str ?_; intro _ _
    refine GM.join ?_
    refine PyProof.Rows.callWith_method1 ?_
    refine r_spl ?_
    refine x_comp [(Str.ofString "pen", L + 1)] ?_; intro N k
    (rename St _ _ _ _ _ _ => S'); (rename Gn _ _ => G'); refine r_crange (S'.gn G') rfl ?_
    refine r_spl ?_
    (rename St _ _ _ _ _ _ => S'); (rename Gn _ _ => G'); refine r_cdef (S'.gn G') rfl rfl ?_
    refine r_spl ?_
    rename St _ _ _ _ _ _ => S
    rename Gn _ _ => G
    refine r_cellN (S.nAt hc) ?_
    refine r_spl ?_
    refine r_int ?_; intro _ _
    refine r_spl0 ?_
    (rename St _ _ _ _ _ _ => S'); (rename Gn _ _ => G'); refine And.intro (S'.gn G').in ?_
    rename St _ _ _ _ _ _ => S
    rename Gn _ _ => G
    refine c_draw G S.kg (S.fx _ (.head _)).2.2.1 (by exact dp0 (by assumption) (by decide)) (S.fAt (.head _)) (Lst.w (S.nAt hps)) hdp hIP hp0 hpz (by (first | exact z131 hb1 hi1 hb2 hi2 | omega)) (by decide) ?_
    intro h₂ tk t₁ t₂ hk hp₂
    replace S := S.touch .head hp₂ hk
    clear hk hp₂
    have hr := drawF_range (penF ns) (i2 + 3) (m := 17) (by decide)
    have hN : (textN (penF ns) (i2 + 3) : Int) = drawF (penF ns) (i2 + 3) 17 := by unfold textN; exact ts' (by assumption)
    refine r_spl0 ?_
    rename St _ _ _ _ _ _ => S
    refine r_range1 S ?_
    clear S
    intro r h tk S hrg
    refine r_iter_range S hh hrg (by decide) (by decide) (by (first | exact z132 hr | omega)) (by (first | exact z133 hr | omega)) ?_
    clear S
    intro I h fp Sti S T
    refine k _ _ ?_; clear k N
    refine comp0 (fsM := [_]) (fsK := [_]) (fun q ys fs => X1 fun t => (fs = [(p, wlsP [.ref d3, .int (i2 + 3 + 1 + q : Nat) t])]) ∧ (Strs ys ((textP (penF ns) (i2 + 3) q).map ch))) hh S T ?_ (by (first | exact z134 zL hr | omega)) ?_ ?_ (by rfl)
    · exact ⟨_, rfl, .nil⟩
    · clear S T
      intro q v ys g₂ n₂ m₂ fs h tk C Fn hF hg hn hgL hlt hp0 hp1 S
      refine hide fun q₀ kq => ?_
      obtain ⟨tv, rfl⟩ := hp0
      obtain ⟨t₃, rfl, hys⟩ := hp1
      refine kq ?_; clear kq q₀
      replace G := G.le hg
      replace hps := hps.le hn
      replace hc := hc.le hn
      refine Subscript_ ?_
      (rename St _ _ _ _ _ _ => S'); (rename Gn _ _ => G'); refine r_glob (S'.gn G') rfl ?_
      (rename St _ _ _ _ _ _ => S'); (rename Gn _ _ => G'); refine r_cdef (S'.gn G') rfl rfl ?_
      refine r_spl ?_
      rename St _ _ _ _ _ _ => S
      refine r_cellN (S.gAt hc) ?_
      refine r_spl ?_
      refine r_int ?_; intro _ _
      refine r_spl0 ?_
      (rename St _ _ _ _ _ _ => S'); (rename Gn _ _ => G'); refine And.intro (S'.gn G').in ?_
      rename St _ _ _ _ _ _ => S
      rename Gn _ _ => G
      refine c_draw G S.kg (S.fx _ (.head _)).2.2.1 (by exact dp0 (by assumption) (by decide)) (S.fAt (.head _)) (Lst.w (S.gAt hps)) hdp hIP hp0 hpz (by (first | exact z135 hb1 hi1 hb2 hi2 hr hlt | omega)) (by decide) ?_
      intro h₂ tk t₁ t₂ hk hp₂
      replace S := S.touch .head hp₂ hk
      clear hk hp₂
      have hr2 := drawF_range (penF ns) (i2 + 3 + 1 + q) (m := 11) (by decide)
      have hsl : signsL.length = 11 := by decide
      have hx : signsL[(drawF (penF ns) (i2 + 3 + 1 + q) 11).toNat]? = some (signsL.getD (drawF (penF ns) (i2 + 3 + 1 + q) 11).toNat 0) := by
        rw [List.getD_eq_getElem?_getD, List.getElem?_eq_getElem (by (first | exact z16 hr2 hsl | omega))]; rfl
      rw [show Str.ofString "abcdef-z\n\\!" = tx signsL from by decide]
      refine r_sitem (i := (drawF (penF ns) (i2 + 3 + 1 + q) 11).toNat) (by exact ts (by assumption)) hx (by decide) fun t₅ tk => ?_
      refine hF _ _ _ _ _ _ S ⟨_, rfl, ?_⟩
      unfold textP at hys ⊢
      rw [List.range_succ, List.map_append, List.map_append]
      exact hys.append' (.cons _ t₅ .nil)
    · clear S T
      intro D ys fs h tk hp0 S
      refine hide fun q₀ kq => ?_
      obtain ⟨t₃, rfl, hys⟩ := hp0
      refine kq ?_; clear kq q₀
      have hcnt : ((drawF (penF ns) (i2 + 3) 17 : Int) - 0).toNat = textN (penF ns) (i2 + 3) := by unfold textN; exact tz (by assumption)
      rw [hcnt] at hys S
      have hcl : (textP (penF ns) (i2 + 3) (textN (penF ns) (i2 + 3))).length ≤ 16 := by
        unfold textP; rw [List.length_map, List.length_range]; (first | exact z136 hr hN | omega)
      have hct := textP_small (penF ns) (i2 + 3) (textN (penF ns) (i2 + 3))
      generalize textP (penF ns) (i2 + 3) (textN (penF ns) (i2 + 3)) = cs at *
      refine r_spl0 ?_
      rename St _ _ _ _ _ _ => S
      refine r_join (Lst.w (S.fAt (.head _))) hys (joinOk_ch _ (by exact Nat.le_trans (by assumption) (by decide))) fun t₅ tk => ?_
      rw [join_ch]
      replace S := S.sub (List.sublist_cons_self ..)
      clear hys
      have ok1 := listF_ok (penF ns) 0
      have sm1 := listF_small (penF ns) 0
      have ln1 := listF_len (penF ns) 0
      have so1 := hS (penF ns) 0
      have ok2 := listF_ok (penF ns) i1
      have sm2 := listF_small (penF ns) i1
      have ln2 := listF_len (penF ns) i1
      generalize listF (penF ns) 0 = src at *
      generalize listF (penF ns) i1 = tgt at *
      -- the two spelt out
      refine k _ _ ?_; clear k N
      (rename St _ _ _ _ _ _ => S'); refine r_store S' ?_; clear S'; intro _ _ S
      refine x_set ?_; intro N k
      (rename St _ _ _ _ _ _ => S'); (rename Gn _ _ => G'); refine r_cdef (S'.gn G') rfl rfl ?_
      refine r_spl ?_
      (rename St _ _ _ _ _ _ => S'); refine r_name S' rfl ?_
      refine r_spl0 ?_
      (rename St _ _ _ _ _ _ => S'); (rename Gn _ _ => G'); refine And.intro (S'.gn G').in ?_
      rename St _ _ _ _ _ _ => S
      rename Gn _ _ => G
      refine c_spelt2 (S.gn G) (by exact dp (by assumption) (by decide)) (by exact un (by assumption) (by decide)) hh (by exact Nat.le_trans (by assumption) (by decide)) sm1 ?_
      intro h tk Nr v1 hv1 X
      refine S.absorb' X ?_; intro n hn4 hN4 S
      replace hv1 := hv1.le hN4
      refine k _ _ ?_; clear k N
      refine r_cellS S (.tail .head) ?_
      clear S
      intro h S
      refine x_set ?_; intro N k
      (rename St _ _ _ _ _ _ => S'); (rename Gn _ _ => G'); refine r_cdef (S'.gn G') rfl rfl ?_
      refine r_spl ?_
      (rename St _ _ _ _ _ _ => S'); refine r_name S' rfl ?_
      refine r_spl0 ?_
      (rename St _ _ _ _ _ _ => S'); (rename Gn _ _ => G'); refine And.intro (S'.gn G').in ?_
      rename St _ _ _ _ _ _ => S
      rename Gn _ _ => G
      refine c_spelt2 (S.gn G) (by exact dp (by assumption) (by decide)) (by exact un (by assumption) (by decide)) hh (by exact Nat.le_trans (by assumption) (by decide)) sm2 ?_
      intro h tk Nr v2 hv2 X
      refine S.absorb' X ?_; intro n' hn5 hN5 S
      replace hv1 := hv1.le hn5
      replace hv2 := hv2.le hN5
      replace S := S.sub (List.sublist_cons_self ..)
      refine S.freeze' ?_; intro n'' hn6 hf S
      replace hv1 := hv1.le hn6
      replace hv2 := hv2.le hn6
      refine k _ _ ?_; clear k N
      (rename St _ _ _ _ _ _ => S'); refine r_store S' ?_; clear S'; intro _ _ S
      refine x_st ?_; intro Rn kr
      refine wpAny_Try_except ?_
      refine x_set ?_; intro N k
      (rename St _ _ _ _ _ _ => S'); (rename Gn _ _ => G'); refine r_cdef (S'.gn G') rfl rfl ?_
      refine r_spl ?_
      (rename St _ _ _ _ _ _ => S'); refine r_name S' rfl ?_
      refine r_spl ?_
      (rename St _ _ _ _ _ _ => S'); refine r_name S' rfl ?_
      refine r_spl ?_
      (rename St _ _ _ _ _ _ => S'); refine r_name S' rfl ?_
      refine r_spl ?_
      (rename St _ _ _ _ _ _ => S'); refine r_name S' rfl ?_
      refine r_spl ?_
      refine r_int ?_; intro _ _
      refine r_spl0 ?_
      (rename St _ _ _ _ _ _ => S'); (rename Gn _ _ => G'); refine And.intro (S'.gn G').in ?_
      rename St _ _ _ _ _ _ => S
      rename Gn _ _ => G
      refine c_trans (outer := [_]) (frames_deeper' hA) (S.frames (fun _ h => nomatch h) rfl rfl) (S.gn G) (by exact dp (by assumption) (by decide)) (by exact un (by assumption) (by decide)) hh (by exact Nat.le_trans (by assumption) (by decide)) ok1 (signs_small ok1 sm1) (by exact Nat.le_trans (by assumption) (by decide)) ok2 (signs_small ok2 sm2) (by exact Nat.le_trans (by assumption) (by decide)) (fun c hc => by have := hct c hc; exact Nat.le_trans (by assumption) (by decide)) (fun _ ss h => so1 ss h) ?_ ?_
      · intro ss be ns' h tk Nr dd t t' hss hbe hperm hT X
        refine S.absorb' X ?_; intro n3 hn7 hN7 S
        obtain ⟨F, hF, rfl⟩ : ∃ F, wdF (spF false src) = some F ∧ upN F = ss := by rw [codes_sp ok1] at hss; exact Option.map_eq_some_iff.mp hss
        obtain ⟨W, hW, rfl⟩ : ∃ W, wdF (spF false tgt) = some W ∧ upN W = be := by rw [codes_sp ok2] at hbe; exact Option.map_eq_some_iff.mp hbe
        rw [hF] at hv1
        rw [hW] at hv2
        obtain ⟨d1, u1, rfl, hu1, hl1⟩ := hv1
        obtain ⟨e1, u2, rfl, hu2, hl2⟩ := hv2
        replace hl1 := hl1.le hn7
        replace hl2 := hl2.le hn7
        replace hT := hT.le hN7
        replace hf := hf.le hn7
        obtain ⟨w1, w2⟩ := words_small sm1 ok1 hF
        obtain ⟨w3, w4⟩ := words_small sm2 ok2 hW
        obtain ⟨law1, law2⟩ := text_law (F := F) (S := W) (bs := bs) (bd := bd) hperm cs
        rw [law1, law2] at hT
        refine k _ _ ?_; clear k N
        (rename St _ _ _ _ _ _ => S'); refine r_store S' ?_; clear S'; intro _ _ S
        refine wpAny_execs_nil ?_
        try (refine kr _ ?_; clear kr Rn)
        refine wpAny_execs_nil ?_
        try (refine kr _ ?_; clear kr Rn)
        refine x_if ?_; intro Rn kr N k
        refine wpAny_isTrue_BoolOp ?_
        refine wpAny_allTrue_Or_cons ?_
        refine wpAny_isTrue_Compare1 ?_
        rename St _ _ _ _ _ _ => S
        refine r_cellN (S.nAt hf) ?_
        refine wpAny_Constant_none ?_
        refine is_none ?_
        refine wpAny_truthy_bool ?_
        try (refine k _ _ ?_; clear k N)
        rw [show (Value.ref d1 == Value.none) = false from rfl]
        try (refine k _ _ ?_; clear k N)
        with_reducible refine ite_ff ?_
        try (refine kr _ ?_; clear kr Rn)
        refine wpAny_allTrue_Or_cons ?_
        refine wpAny_isTrue_Compare1 ?_
        (rename St _ _ _ _ _ _ => S'); refine r_name S' rfl ?_
        refine wpAny_Constant_none ?_
        refine is_none ?_
        refine wpAny_truthy_bool ?_
        try (refine k _ _ ?_; clear k N)
        rw [show (Value.ref e1 == Value.none) = false from rfl]
        try (refine k _ _ ?_; clear k N)
        with_reducible refine ite_ff ?_
        try (refine kr _ ?_; clear kr Rn)
        refine wpAny_allTrue_Or_nil ?_
        try (refine k _ _ ?_; clear k N)
        with_reducible refine ite_ff ?_
        try (refine kr _ ?_; clear kr Rn)
        refine wpAny_execs_nil ?_
        try (refine kr _ ?_; clear kr Rn)
        refine x_set ?_; intro N k
        (rename St _ _ _ _ _ _ => S'); (rename Gn _ _ => G'); refine r_cbi1 (S'.gn G') rfl boot_len ?_
        -- what is counted
        refine x_comp [(Str.ofString "first", L + 2)] ?_; intro N k
        (rename St _ _ _ _ _ _ => S'); refine r_name S' rfl ?_
        rename St _ _ _ _ _ _ => S
        refine r_iter_str S hh ?_
        clear S
        intro I h fp Sti S T
        refine k _ _ ?_; clear k N
        refine comp1 (fsM := []) (fsK := []) (fun q ys fs => (fs = []) ∧ (ys.length = ((cs.take q).filter fun c => decide (c ∈ F)).length)) hh S T ?_ (by simp; exact Nat.le_trans (by assumption) (by decide)) ?_ ?_ (by rfl)
        · exact ⟨rfl, rfl⟩
        · clear S T
          intro q v ys g₂ n₂ m₂ fs h tk C Fn F₀ N hF hF₀ k hg hn hgL hlt hv hp0 S
          refine hide fun q₀ kq => ?_
          obtain ⟨rfl, hys⟩ := hp0
          refine kq ?_; clear kq q₀
          obtain ⟨c, u, hci, rfl⟩ := hv
          have hci : cs[q]? = some c := by simpa using hci
          rename Gn _ _ => G
          replace G := G.le hg
          replace hl1 := hl1.le hn
          replace hf := hf.le hn
          refine wpAny_isTrue_Compare1 ?_
          (rename St _ _ _ _ _ _ => S'); refine r_name S' rfl ?_
          rename St _ _ _ _ _ _ => S
          refine r_cellN (S.gAt hf) ?_
          refine r_inStrs (Lst.w (S.gAt hl1)) hu1 ?_
          rw [any_ch]
          have hr : (cs.take (q + 1)).filter (fun c => decide (c ∈ F)) = (cs.take q).filter (fun c => decide (c ∈ F)) ++ (if c ∈ F then [c] else []) := by
            rw [List.take_add_one, hci, List.filter_append]
            congr 1
            by_cases z : c ∈ F <;> simp [z]
          refine wpAny_truthy_bool ?_
          try (refine k _ _ ?_; clear k N)
          refine ite_dec (fun h1 => ?_) (fun h1 => ?_)
          · (rename St _ _ _ _ _ _ => S'); refine r_name S' rfl ?_
            rename St _ _ _ _ _ _ => S
            refine hF _ _ _ _ _ _ S ⟨rfl, ?_⟩
            rw [hr, if_pos h1, List.length_append, List.length_append, hys]; rfl
          · rename St _ _ _ _ _ _ => S
            refine hF₀ _ _ _ _ _ S ⟨rfl, ?_⟩
            rw [hr, if_neg h1, List.append_nil, hys]
        · clear S T
          intro D ys fs h tk hp0 S
          refine hide fun q₀ kq => ?_
          obtain ⟨rfl, hys⟩ := hp0
          refine kq ?_; clear kq q₀
          have hcz : (tx cs).cps.size = cs.length := by simp
          rw [hcz, List.take_of_length_le (Nat.le_refl _)] at hys
          have hyl : ys.length ≤ 16 := by
            rw [hys]
            exact Nat.le_trans (List.length_filter_le _ _) hcl
          rename St _ _ _ _ _ _ => S
          refine r_len (Lst.w (S.fAt (.head _))) (by exact lt63 (Nat.le_trans (by assumption) (by decide))) fun t tk => ?_
          replace S := S.sub (List.sublist_cons_self ..)
          have hcw := count_law F cs
          rw [← hys] at hcw
          refine k _ _ ?_; clear k N
          (rename St _ _ _ _ _ _ => S'); refine r_store S' ?_; clear S'; intro _ _ S
          refine x_ret ?_; intro N k
          refine BoolOp_and ?_
          refine wpAny_Compare1 ?_
          (rename St _ _ _ _ _ _ => S'); refine r_name S' rfl ?_
          (rename St _ _ _ _ _ _ => S'); (rename Gn _ _ => G'); refine r_cdef (S'.gn G') rfl rfl ?_
          refine r_spl ?_
          rename St _ _ _ _ _ _ => S
          rename Gn _ _ => G
          refine r_cellN (S.nAt hf) ?_
          refine r_spl ?_
          (rename St _ _ _ _ _ _ => S'); refine r_name S' rfl ?_
          refine r_spl ?_
          (rename St _ _ _ _ _ _ => S'); refine r_name S' rfl ?_
          refine r_spl ?_
          (rename St _ _ _ _ _ _ => S'); refine r_name S' rfl ?_
          refine r_spl0 ?_
          (rename St _ _ _ _ _ _ => S'); (rename Gn _ _ => G'); refine And.intro (S'.gn G').in ?_
          rename St _ _ _ _ _ _ => S
          rename Gn _ _ => G
          refine c_lturned (S.gn G) (by exact dp (by assumption) (by decide)) (by exact un (by assumption) (by decide)) hh (S.nAt hl1) hu1 (S.nAt hl2) hu2 (by (first | exact z137 ln1 w1 | omega)) (by (first | exact z137 ln2 w3 | omega)) (fun x hx => by have := w4 x hx; exact Nat.le_trans (by assumption) (by decide)) (by exact Nat.le_trans (by assumption) (by decide)) (fun c hc => by have := hct c hc; exact Nat.le_trans (by assumption) (by decide)) ?_
          intro h tk N2 d4 t4 t5 hT2 X2
          refine S.absorb' X2 ?_; intro n4 hn8 hN8 S
          replace hT := hT.le hn8
          replace hT2 := hT2.le hN8
          have hmade := (turnT_ok F W bc bd bs (fun x hx => by have := w4 x hx; exact Nat.le_trans (by assumption) (by decide)) cs ⟨[], 0⟩ (fun c hc => by have := hct c hc; exact Nat.le_trans (by assumption) (by decide)) (by simp)).1
          have hmade : ∀ z ∈ (turnT F W bc bd bs cs).made.map (·.1), z ≤ 1000 := fun z hz => by
            obtain ⟨q, hq, rfl⟩ := List.mem_map.mp hz
            exact hmade q hq
          refine r_textsEq (S.nAt hT) (S.nAt hT2) hmade hmade ⟨rfl, rfl⟩ (by exact un (by assumption) (by decide)) ?_
          refine wpAny_truthy_bool ?_
          try (refine k _ _ ?_; clear k N)
          try (refine k _ _ ?_; clear k N)
          with_reducible refine ite_tt ?_
          try (refine kr _ ?_; clear kr Rn)
          refine BoolOp_one ?_
          refine wpAny_Compare1 ?_
          (rename St _ _ _ _ _ _ => S'); (rename Gn _ _ => G'); refine r_cdef (S'.gn G') rfl rfl ?_
          refine r_spl ?_
          (rename St _ _ _ _ _ _ => S'); refine r_name S' rfl ?_
          refine r_spl ?_
          (rename St _ _ _ _ _ _ => S'); refine r_name S' rfl ?_
          refine r_spl ?_
          refine r_int ?_; intro _ _
          refine r_spl0 ?_
          (rename St _ _ _ _ _ _ => S'); (rename Gn _ _ => G'); refine And.intro (S'.gn G').in ?_
          rename St _ _ _ _ _ _ => S
          rename Gn _ _ => G
          refine c_count (outer := [_]) (frames_deeper' hA) (S.frames (fun _ h => nomatch h) rfl rfl) (S.gn G) (by exact dp (by assumption) (by decide)) (by exact un (by assumption) (by decide)) hh (by exact Nat.le_trans (by assumption) (by decide)) ok1 (signs_small ok1 sm1) (by exact Nat.le_trans (by assumption) (by decide)) (fun c hc => by have := hct c hc; exact Nat.le_trans (by assumption) (by decide)) hss ?_
          intro h tk t6 hk
          replace S := S.ext hk
          rw [hcw]
          (rename St _ _ _ _ _ _ => S'); refine r_name S' rfl ?_
          refine eq_int ?_
          rw [beq_self_eq_true]
          rename St _ _ _ _ _ _ => S
          refine k _ _ ?_
          exact hQ _ _ S.kg
      · intro hn h' tk' e R
        refine caught_die (frames_deeper' hA) G S R ?_
        have e1 : codesF (signsF src) = none → (v1 == Value.none) = true := fun z => by
          rw [codes_sp ok1, Option.map_eq_none_iff] at z
          rw [z] at hv1
          have : v1 = .none := hv1
          rw [this]; rfl
        have e2 : codesF (signsF tgt) = none → (v2 == Value.none) = true := fun z => by
          rw [codes_sp ok2, Option.map_eq_none_iff] at z
          rw [z] at hv2
          have : v2 = .none := hv2
          rw [this]; rfl
        clear S R
        intro h tk S
        refine x_ret ?_; intro N k
        refine BoolOp_or ?_
        refine wpAny_Compare1 ?_
        rename St _ _ _ _ _ _ => S
        refine r_cellN (S.nAt hf) ?_
        refine wpAny_Constant_none ?_
        refine is_none ?_
        refine wpAny_truthy_bool ?_
        try (refine k _ _ ?_; clear k N)
        refine ite_bool (fun h1 => ?_) (fun h1 => ?_)
        · rw [h1]
          rename St _ _ _ _ _ _ => S
          refine k _ _ ?_
          exact hQ _ _ S.kg
        · have h2 : (v2 == Value.none) = true := by
            rcases hn with z | z
            · rw [e1 z] at h1; cases h1
            · exact e2 z
          refine BoolOp_one ?_
          refine wpAny_Compare1 ?_
          (rename St _ _ _ _ _ _ => S'); refine r_name S' rfl ?_
          refine wpAny_Constant_none ?_
          refine is_none ?_
          rw [h2]
          rename St _ _ _ _ _ _ => S
          refine k _ _ ?_
          exact hQ _ _ S.kg

end Mine
end

section
open PySem PySem.W PyProof.Rows
set_option maxRecDepth 100000
set_option linter.all false
namespace Mine
/-! which lists are sorted -/
noncomputable def ascN : List Nat → Bool
  | [] => true
  | a :: r => (match r with | [] => true | b :: _ => Nat.ble a b) && ascN r
theorem ascN_ok : ∀ l : List Nat, ascN l = true → l.Pairwise (· ≤ ·)
  | [], _ => .nil
  | [a], _ => by simp
  | a :: b :: r, h => by
    have h' : (Nat.ble a b && ascN (b :: r)) = true := h
    rw [Bool.and_eq_true] at h'
    have ih := ascN_ok (b :: r) h'.2
    have hab := Nat.le_of_ble_eq_true h'.1
    refine List.Pairwise.cons (fun y hy => ?_) ih
    rcases List.mem_cons.mp hy with rfl | hy
    · exact hab
    · exact Nat.le_trans hab ((List.pairwise_cons.mp ih).1 y hy)
noncomputable def longA : List Nat := rangeN 10 97 ++ [45, 100]
noncomputable def longB : List Nat := rangeN 10 99 ++ [45, 102]
noncomputable def longC : List Nat := rangeN 10 102 ++ [45, 98]
noncomputable def chk (cs : List Nat) : Bool := match wdF (spF false cs) with
  | none => true
  | some ws => Nat.ble ws.length 63 || (ascN ws || (ws == longA || (ws == longB || ws == longC)))
theorem chk_all : ((([] : List Nat) :: atomsL).all fun a => (([] : List Nat) :: atomsL).all fun b => (([] : List Nat) :: atomsL).all fun c => chk (a ++ (b ++ c))) = true := by decide +kernel
theorem chk_flat (l : List (List Nat)) (h : ∀ a ∈ l, a ∈ atomsL) (hl : l.length ≤ 3) : chk l.flatten = true := by
  have key : ∀ a ∈ ([] : List Nat) :: atomsL, ∀ b ∈ ([] : List Nat) :: atomsL, ∀ c ∈ ([] : List Nat) :: atomsL, chk (a ++ (b ++ c)) = true := fun a ha b hb c hc =>
    List.all_eq_true.mp (List.all_eq_true.mp (List.all_eq_true.mp chk_all a ha) b hb) c hc
  have m0 : ([] : List Nat) ∈ ([] : List Nat) :: atomsL := .head _
  match l, h, hl with
  | [], _, _ => exact key [] m0 [] m0 [] m0
  | [a], h, _ => simpa using key a (.tail _ (h a (by simp))) [] m0 [] m0
  | [a, b], h, _ => simpa using key a (.tail _ (h a (by simp))) b (.tail _ (h b (by simp))) [] m0
  | [a, b, c], h, _ => simpa using key a (.tail _ (h a (by simp))) b (.tail _ (h b (by simp))) c (.tail _ (h c (by simp)))
  | a :: b :: c :: d :: r, _, hl => simp at hl
theorem upA : upN longA = rangeI 10 45 ++ (rangeI 46 96 ++ [97]) ++ [45, 100] := by decide +kernel
theorem upB : upN longB = rangeI 10 45 ++ (rangeI 46 98 ++ [99]) ++ [45, 102] := by decide +kernel
theorem upC : upN longC = rangeI 10 45 ++ (rangeI 46 97 ++ [98, 99, 100, 101, 102]) ++ [45, 98] := by decide +kernel
theorem sorts : ∀ N i ss, codesF (signsF (listF N i)) = some ss → ∀ us, IntsAre us ss → 2 ≤ us.length → SortOk us := by
  intro N i ss hss us hI h2
  rw [codes_sp (listF_ok N i)] at hss
  obtain ⟨ws, hw, rfl⟩ := Option.map_eq_some_iff.mp hss
  have hc := chk_flat (listA N i) (listA_in N i) (listA_len N i)
  have hc : chk (listF N i) = true := hc
  unfold chk at hc
  rw [hw] at hc
  dsimp only at hc
  simp only [Bool.or_eq_true, beq_iff_eq] at hc
  rcases hc with h | h | rfl | rfl | rfl
  · have := Nat.le_of_ble_eq_true h
    have hl := hI.length
    rw [List.length_map] at hl
    exact sortOk_few hI h2 (by (first | exact z58 this hl | omega))
  · refine sortOk_asc hI h2 ?_
    have := ascN_ok ws h
    rw [List.pairwise_map]
    exact this.imp fun h => by (first | exact z59 h | omega)
  · rw [upA] at hI
    exact sortOk_two1 hI (by decide +kernel) (by decide +kernel) (by decide +kernel) (by decide +kernel) (by decide +kernel) (by decide +kernel) (by decide +kernel) (by decide +kernel)
  · rw [upB] at hI
    exact sortOk_two1 hI (by decide +kernel) (by decide +kernel) (by decide +kernel) (by decide +kernel) (by decide +kernel) (by decide +kernel) (by decide +kernel) (by decide +kernel)
  · rw [upC] at hI
    exact sortOk_two2 hI (by decide +kernel) (by decide +kernel) (by decide +kernel) (by decide +kernel) (by decide) (by decide) (by decide) (by decide) (by decide) (by decide) (by decide +kernel) (by decide +kernel)
end Mine
end

open PySem PySem.W PyProof.Rows PyProof.V
set_option maxRecDepth 100000
set_option linter.all false
set_option maxHeartbeats 8000000 in
theorem PySem.Challenge.cw_nz0179_01_holds : PySem.Challenge.rw_nz0179_01.Holds := by
  w_on
  o_law
  o_head (kHook Mine.HK [2, 3, 15, 27, 28, 30, 31, 32, 35, 47, 48, 50, 51, 54, 67, 68, 70, 71, 72, 73, 81, 82, 88, 89, 95, 96, 102, 103, 109, 110, 116, 117, 123, 124, 130, 131, 137, 138, 144, 145, 151, 152, 158, 159, 160, 166, 167, 171, 172, 176, 177, 181, 182, 186, 187, 191, 192] (fun _ => by kernel_rfl))
  (case hw => w_witness2)
  intro w s₀ s₁ mg mb G Y fa o pm cd doc dV kV ho hd hcd hD hmg hg args vals as hpre hlay hrd hwl hlo
  have KX := kIn_of Y
  refine Ground.open G ?_
  intro T B D TE TW
  wrow_args hpre hlay hrd hwl hlo
  have hfa : fa = 192 := by
    have e := mg_of KX T.g (show nsIn (Mine.KK w) mainGlobals (Str.ofString "law") = some (some (.ref 192)) from rfl)
    have e2 : mg (Str.ofString "law") = some (.ref fa) := hmg
    exact Value.ref.inj (Option.some.inj (e2.symm.trans e))
  clear hmg ho hD hcd hd
  subst hfa
  rename Heap.IsList _ _ _ => hL
  rename IntsAre _ _ => hI
  rename ¬ _ < _ => hz
  show wpAny (model _ w) callerA (call (.ref 192) [_]) _ _ (Mine.mkS s₁ s₁.heap s₁.toks)
  refine Mine.c_law Mine.sorts rfl (Mine.Gn.of_top KX T) (by decide) (by decide) rfl hL hI (by omega) ?_
  intro h' tk' k
  refine GoodW.toG ⟨.inl ⟨.bool true, .bool true, [], rfl, fun _ => rfl, .bool _, (by wrow_post), fun _ => ⟨List.nodup_nil, fun a ha => nomatch ha⟩⟩, k, rfl, hg⟩

