import PyProof.Rows.All
import Wide.All
import OpenK.AllK
import Wide.FinOn
import PySem.Challenge.RW_np0239_01
set_option Elab.async false
set_option linter.unusedVariables false
set_option tactic.hygienic false
set_option compiler.extract_closed false
section
open PySem PySem.W PyProof.Rows PySem.Calls
set_option maxRecDepth 100000
set_option maxHeartbeats 4000000
namespace Mine
theorem le1 {a b c : Nat} (h : Nat.ble a b = true) : c + a ≤ c + b := Nat.add_le_add_left (Nat.le_of_ble_eq_true h) c
theorem le3 {k d a b : Nat} (h : Nat.ble a (k + b) = true) : k * d + a ≤ k * (d + 1) + b := by
  have := Nat.le_of_ble_eq_true h
  rw [Nat.mul_succ]; lia
theorem lt1 {a b : Nat} : a < a + b + 1 := Nat.lt_succ_of_le (Nat.le_add_right a b)
theorem lt2 {a b : Nat} : b < a + b + 1 := Nat.lt_succ_of_le (Nat.le_add_left b a)
theorem mx1 {a b d : Nat} (h : max a b + 1 ≤ d + 1) : a ≤ d := Nat.le_trans (Nat.le_max_left _ _) (Nat.le_of_succ_le_succ h)
theorem mx2 {a b d : Nat} (h : max a b + 1 ≤ d + 1) : b ≤ d := Nat.le_trans (Nat.le_max_right _ _) (Nat.le_of_succ_le_succ h)
theorem mx3 {a b c d : Nat} (h : max a (max b c) + 1 ≤ d + 1) : b ≤ d := Nat.le_trans (Nat.le_max_left _ _) (mx2 h)
theorem mx4 {a b c d : Nat} (h : max a (max b c) + 1 ≤ d + 1) : c ≤ d := Nat.le_trans (Nat.le_max_right _ _) (mx2 h)
theorem ds1 {x d : Nat} (h : x + 1 ≤ d) : d = d - 1 + 1 := (Nat.sub_add_cancel (Nat.le_trans (Nat.le_add_left 1 x) h)).symm
theorem ms1 {a b d : Nat} (h : max a b + 1 ≤ d) : a ≤ d - 1 := mx1 (ds1 h ▸ h)
theorem ms2 {a b d : Nat} (h : max a b + 1 ≤ d) : b ≤ d - 1 := mx2 (ds1 h ▸ h)
theorem sub2 {x d b : Nat} (h : x + 1 ≤ d) : d - 1 + (b + 1) ≤ d + b := by rw [Nat.add_comm b 1, ← Nat.add_assoc, ← ds1 h]; exact Nat.le_refl _
theorem q2 {a b X : Nat} (h1 : a ≤ X) (h2 : b ≤ X) : a + b ≤ X * 4 := by lia
theorem q3 {a b c X : Nat} (h1 : a ≤ X) (h2 : b ≤ X) (h3 : c ≤ X) : a + (b + c) ≤ X * 4 := by lia
theorem q4 {a X : Nat} (h1 : a ≤ X) (h : 4 ≤ X) : 4 + a ≤ X * 4 := by lia
theorem q5 {a b X : Nat} (h1 : a ≤ X) (h2 : b ≤ X) (h : 4 ≤ X) : 4 + a + b ≤ X * 4 := by lia
theorem r1 {a X : Nat} (h1 : a + 1 ≤ X) : a + 1 + 1 ≤ X * 3 := by lia
theorem r2 {a b X : Nat} (h1 : a + 1 ≤ X) (h2 : b + 1 ≤ X) : a + b + 1 ≤ X * 3 := by lia
theorem r3 {a b c X : Nat} (h1 : a + 1 ≤ X) (h2 : b + 1 ≤ X) (h3 : c + 1 ≤ X) : a + b + c + 1 ≤ X * 3 := by lia
theorem r4 {a b X : Nat} (h1 : a + 1 ≤ X) (h2 : b + 1 ≤ X) : a + b + 2 + 1 ≤ X * 3 := by lia
theorem s1 {a X : Nat} (h1 : a ≤ X) : a ≤ X * 2 := by lia
theorem s2 {a b X : Nat} (h1 : a ≤ X) (h2 : b ≤ X) : a + b ≤ X * 2 := by lia
theorem pw {c a b M : Nat} (hc : 0 < c) (h : a ≤ c ^ b) (k : b ≤ M) : a ≤ c ^ M := Nat.le_trans h (Nat.pow_le_pow_right hc k)
theorem m1 {a b c : Nat} : a ≤ max a (max b c) := Nat.le_max_left _ _
theorem m2 {a b c : Nat} : b ≤ max a (max b c) := Nat.le_trans (Nat.le_max_left _ _) (Nat.le_max_right _ _)
theorem m3 {a b c : Nat} : c ≤ max a (max b c) := Nat.le_trans (Nat.le_max_right _ _) (Nat.le_max_right _ _)
theorem p44 {M : Nat} : 4 ≤ 4 ^ (M + 1) := pw (b := 1) (by decide) (Nat.le_refl _) (Nat.succ_le_succ (Nat.zero_le M))
theorem sb1 {n i k : Nat} (h : n - i = k + 1) : n - (i + 1) = k := by rw [Nat.sub_succ, h]; rfl
theorem sb2 {n i k : Nat} (h : n - i = k + 1) : i < n := Nat.lt_of_sub_eq_succ h
theorem sb0 {n i : Nat} (h : n - i = 0) (k : i ≤ n) : i = n := Nat.le_antisymm k (Nat.le_of_sub_eq_zero h)
theorem sb3 {n i : Nat} (h : i < n) : n + 1 - (i + 1) < n + 1 - i := Nat.sub_lt_sub_left (Nat.lt_succ_of_lt h) (Nat.lt_succ_self i)
theorem ds2 {x d : Nat} (h : x + 1 ≤ d) : d - 1 < d := Nat.sub_lt (Nat.le_trans (Nat.le_add_left 1 x) h) Nat.zero_lt_one
theorem pz {f : Nat} (h : f ≠ 0) : f = f - 1 + 1 := (Nat.sub_add_cancel (Nat.pos_of_ne_zero h)).symm
theorem ca1 {c' c d : Nat} (h : c' ≤ c) : c' ≤ c + d + 1 := Nat.le_trans h (Nat.le_succ_of_le (Nat.le_add_right _ _))
theorem ca2 {c' c d : Nat} (h : c' ≤ d) : c' ≤ c + d + 1 := Nat.le_trans h (Nat.le_succ_of_le (Nat.le_add_left _ _))
theorem ca4 {a b c : Nat} (h : a + b ≤ c) : a + 1 + b ≤ c + 1 := by rw [Nat.add_right_comm]; exact Nat.succ_le_succ h
theorem ca5 {a b c d s : Nat} (h : a + s ≤ c) (k : b ≤ d) : a + b + 1 + s ≤ c + d + 1 := by lia
theorem ca6 {a b c d s : Nat} (h : b + s ≤ d) (k : a ≤ c) : a + b + 1 + s ≤ c + d + 1 := by lia
theorem ca8 {t w c : Nat} (h : t + w ≤ c) : w < c + 1 := Nat.lt_succ_of_le (Nat.le_trans (Nat.le_add_left _ _) h)
theorem ca9 {t w c : Nat} (h : t + w ≤ c) : t < c + 1 := Nat.lt_succ_of_le (Nat.le_trans (Nat.le_add_right _ _) h)
theorem ca10 {a b c d s : Nat} (h : a + s ≤ c) (k : b ≤ d) : b + a + 1 + s ≤ d + c + 1 := ca6 h k
theorem ca11 {a b c d s : Nat} (h : a + s ≤ c) (k : b ≤ d) : b + a + 1 + s ≤ c + d + 1 := by lia
theorem ic {i n : Nat} (h : i < n) (k : Nat.ble n 9223372036854775808 = true) : (i : Int) < 2 ^ 63 := Int.ofNat_lt.mpr (Nat.lt_of_lt_of_le h (Nat.le_of_ble_eq_true k))
end Mine
end
section
open PySem PySem.W PyProof.Rows PySem.Calls
set_option maxRecDepth 100000
set_option maxHeartbeats 4000000
set_option maxHeartbeats 0
namespace Mine
open Challenge
/-! ### the head, without intermediate states -/
noncomputable def nthS : List Stmt → Nat → Stmt
  | [], _ => .Pass ⟨0, 0, 0, 0⟩
  | s :: _, 0 => s
  | _ :: r, n + 1 => nthS r n
noncomputable def fArgs : Stmt → Arguments
  | .FunctionDef _ a _ _ _ _ _ _ _ _ => a
  | _ => ⟨[], [], none, [], [], none, []⟩
noncomputable def fBody : Stmt → List Stmt
  | .FunctionDef _ _ b _ _ _ _ _ _ _ => b
  | .ClassDef _ _ _ b _ _ _ _ _ _ _ => b
  | _ => []
noncomputable def fScope : Stmt → Scope
  | .FunctionDef _ _ _ _ _ _ s _ _ _ => s
  | _ => { kind := .module, names := [], isGenerator := false, isCoroutine := false }
noncomputable def fA (i : Nat) : Stmt := nthS pw_np0239_01.main.body i
noncomputable def fM (i j : Nat) : Stmt := nthS (fBody (fA i)) j
noncomputable def k3e0 (P : Params) : List DictEntry := [⟨PyData.keyHash P (Str.ofString "__name__"), (.str (Str.ofString "__name__") 165), (.str (Str.ofString "law_np0239_01") 992)⟩, ⟨PyData.keyHash P (Str.ofString "__doc__"), (.str (Str.ofString "__doc__") 166), .none⟩, ⟨PyData.keyHash P (Str.ofString "__package__"), (.str (Str.ofString "__package__") 167), .none⟩, ⟨PyData.keyHash P (Str.ofString "__loader__"), (.str (Str.ofString "__loader__") 168), (.builtin "__main__.__loader__#opaque")⟩, ⟨PyData.keyHash P (Str.ofString "__spec__"), (.str (Str.ofString "__spec__") 169), .none⟩, ⟨PyData.keyHash P (Str.ofString "__annotations__"), (.str (Str.ofString "__annotations__") 170), (.ref 6)⟩, ⟨PyData.keyHash P (Str.ofString "__builtins__"), (.str (Str.ofString "__builtins__") 171), (.ref 4)⟩]
noncomputable def k3e1 (P : Params) : List DictEntry := [⟨PyData.keyHash P (Str.ofString "__file__"), (.str (Str.ofString "__file__") 173), (.str (Str.ofString "/claim/cut.py") 172)⟩, ⟨PyData.keyHash P (Str.ofString "__cached__"), (.str (Str.ofString "__cached__") 174), .none⟩, ⟨PyData.keyHash P (Str.ofString "_wall"), (.str (Str.ofString "_wall") 193), (.ref 21)⟩, ⟨PyData.keyHash P (Str.ofString "Var"), (.str (Str.ofString "Var") 247), (.ref 59)⟩, ⟨PyData.keyHash P (Str.ofString "Lit"), (.str (Str.ofString "Lit") 301), (.ref 101)⟩, ⟨PyData.keyHash P (Str.ofString "App"), (.str (Str.ofString "App") 354), (.ref 141)⟩, ⟨PyData.keyHash P (Str.ofString "Lam"), (.str (Str.ofString "Lam") 408), (.ref 183)⟩]
noncomputable def k3e2 (P : Params) : List DictEntry := [⟨PyData.keyHash P (Str.ofString "Let"), (.str (Str.ofString "Let") 462), (.ref 221)⟩, ⟨PyData.keyHash P (Str.ofString "Alt"), (.str (Str.ofString "Alt") 495), (.ref 242)⟩, ⟨PyData.keyHash P (Str.ofString "Case"), (.str (Str.ofString "Case") 554), (.ref 282)⟩, ⟨PyData.keyHash P (Str.ofString "Con"), (.str (Str.ofString "Con") 607), (.ref 322)⟩, ⟨PyData.keyHash P (Str.ofString "Prim"), (.str (Str.ofString "Prim") 660), (.ref 362)⟩, ⟨PyData.keyHash P (Str.ofString "CoreProgram"), (.str (Str.ofString "CoreProgram") 693), (.ref 383)⟩, ⟨PyData.keyHash P (Str.ofString "Signature"), (.str (Str.ofString "Signature") 735), (.ref 411)⟩]
noncomputable def k3e3 (P : Params) : List DictEntry := [⟨PyData.keyHash P (Str.ofString "hopeful"), (.str (Str.ofString "hopeful") 742), (.ref 422)⟩, ⟨PyData.keyHash P (Str.ofString "both"), (.str (Str.ofString "both") 751), (.ref 429)⟩, ⟨PyData.keyHash P (Str.ofString "either"), (.str (Str.ofString "either") 757), (.ref 434)⟩, ⟨PyData.keyHash P (Str.ofString "without"), (.str (Str.ofString "without") 763), (.ref 439)⟩, ⟨PyData.keyHash P (Str.ofString "extended"), (.str (Str.ofString "extended") 772), (.ref 446)⟩, ⟨PyData.keyHash P (Str.ofString "needed"), (.str (Str.ofString "needed") 780), (.ref 453)⟩, ⟨PyData.keyHash P (Str.ofString "prim_needs"), (.str (Str.ofString "prim_needs") 790), (.ref 460)⟩]
noncomputable def k3e4 (P : Params) : List DictEntry := [⟨PyData.keyHash P (Str.ofString "call_needs"), (.str (Str.ofString "call_needs") 802), (.ref 467)⟩, ⟨PyData.keyHash P (Str.ofString "case_needs"), (.str (Str.ofString "case_needs") 812), (.ref 474)⟩, ⟨PyData.keyHash P (Str.ofString "signature_of"), (.str (Str.ofString "signature_of") 818), (.ref 479)⟩, ⟨PyData.keyHash P (Str.ofString "functions_in"), (.str (Str.ofString "functions_in") 824), (.ref 484)⟩, ⟨PyData.keyHash P (Str.ofString "settled"), (.str (Str.ofString "settled") 830), (.ref 489)⟩, ⟨PyData.keyHash P (Str.ofString "bound_env"), (.str (Str.ofString "bound_env") 836), (.ref 494)⟩, ⟨PyData.keyHash P (Str.ofString "with_binds"), (.str (Str.ofString "with_binds") 842), (.ref 499)⟩]
noncomputable def k3e5 (P : Params) : List DictEntry := [⟨PyData.keyHash P (Str.ofString "let_needs"), (.str (Str.ofString "let_needs") 851), (.ref 506)⟩, ⟨PyData.keyHash P (Str.ofString "signatures"), (.str (Str.ofString "signatures") 860), (.ref 513)⟩, ⟨PyData.keyHash P (Str.ofString "strict_params"), (.str (Str.ofString "strict_params") 866), (.ref 518)⟩, ⟨PyData.keyHash P (Str.ofString "is_done"), (.str (Str.ofString "is_done") 873), (.ref 525)⟩, ⟨PyData.keyHash P (Str.ofString "Forcer"), (.str (Str.ofString "Forcer") 926), (.ref 562)⟩, ⟨PyData.keyHash P (Str.ofString "forced"), (.str (Str.ofString "forced") 932), (.ref 571)⟩, ⟨PyData.keyHash P (Str.ofString "base_of"), (.str (Str.ofString "base_of") 942), (.ref 578)⟩]
noncomputable def k3e6 (P : Params) : List DictEntry := [⟨PyData.keyHash P (Str.ofString "Fresh"), (.str (Str.ofString "Fresh") 991), (.ref 611)⟩, ⟨PyData.keyHash P (Str.ofString "_law_pool"), (.str (Str.ofString "_law_pool") 1004), (.ref 622)⟩, ⟨PyData.keyHash P (Str.ofString "_law_take"), (.str (Str.ofString "_law_take") 1013), (.ref 629)⟩, ⟨PyData.keyHash P (Str.ofString "_law_one"), (.str (Str.ofString "_law_one") 1021), (.ref 636)⟩, ⟨PyData.keyHash P (Str.ofString "_law_new"), (.str (Str.ofString "_law_new") 1029), (.ref 643)⟩, ⟨PyData.keyHash P (Str.ofString "_law_expr"), (.str (Str.ofString "_law_expr") 1035), (.ref 648)⟩, ⟨PyData.keyHash P (Str.ofString "_law_program"), (.str (Str.ofString "_law_program") 1041), (.ref 653)⟩]
noncomputable def k3e7 (P : Params) : List DictEntry := [⟨PyData.keyHash P (Str.ofString "_law_value"), (.str (Str.ofString "_law_value") 1047), (.ref 658)⟩, ⟨PyData.keyHash P (Str.ofString "_law_with"), (.str (Str.ofString "_law_with") 1057), (.ref 665)⟩, ⟨PyData.keyHash P (Str.ofString "_law_plainly"), (.str (Str.ofString "_law_plainly") 1064), (.ref 672)⟩, ⟨PyData.keyHash P (Str.ofString "_law_told_right"), (.str (Str.ofString "_law_told_right") 1070), (.ref 677)⟩, ⟨PyData.keyHash P (Str.ofString "law"), (.str (Str.ofString "law") 1086), (.ref 684)⟩]
noncomputable def k3 (P : Params) : Obj := ⟨(.type "dict"), none, (.dict (k3e0 P ++ k3e1 P ++ k3e2 P ++ k3e3 P ++ k3e4 P ++ k3e5 P ++ k3e6 P ++ k3e7 P).toArray 54), #[]⟩
noncomputable def k34 (P : Params) : Obj := ⟨(.type "code"), none, (.fields #[(.str (Str.ofString "__init__") 208), (.str (Str.ofString "Var.__init__") 209), (.str (Str.ofString "/claim/cut.py") 210), (.int (7) 0), (.int (2) 0), (.int (0) 0), (.int (0) 0), (.int (3) 0), (.ref 29), (.bool true), (.int (181) 0), (.ref 30), .none, (.ref 31), (.ref 32), (.ref 33), (.int (213) 0), (.int (7) 0), (.str (Str.ofString "/claim/cut.py") 214)]), #[]⟩
noncomputable def k35 (P : Params) : Obj := ⟨(.type "function"), none, (.func { name := Str.ofString "__init__", qualname := Str.ofString "Var.__init__", params := fArgs (fM 2 0), body := .stmts (fBody (fM 2 0)), scope := fScope (fM 2 0), globals := 3, closure := [], defaults := .none, kwdefaults := .none, doc := .none, pyModule := (.str (Str.ofString "lazycore.core") 194), annotations := none, code := (.ref 34), closureTuple := .none, builtins := 0 }), #[]⟩
noncomputable def k58 (P : Params) : Obj := ⟨(.type "dict"), none, (.dict #[⟨PyData.keyHash P (Str.ofString "__module__"), (.str (Str.ofString "__module__") 203), (.str (Str.ofString "lazycore.core") 194)⟩, ⟨PyData.keyHash P (Str.ofString "__firstlineno__"), (.str (Str.ofString "__firstlineno__") 207), (.int (5) 206)⟩, ⟨PyData.keyHash P (Str.ofString "__init__"), (.str (Str.ofString "__init__") 215), (.ref 35)⟩, ⟨PyData.keyHash P (Str.ofString "groups"), (.str (Str.ofString "groups") 222), (.ref 42)⟩, ⟨PyData.keyHash P (Str.ofString "parts"), (.str (Str.ofString "parts") 229), (.ref 49)⟩, ⟨PyData.keyHash P (Str.ofString "rebuilt"), (.str (Str.ofString "rebuilt") 238), (.ref 56)⟩, ⟨PyData.keyHash P (Str.ofString "__static_attributes__"), (.str (Str.ofString "__static_attributes__") 240), (.ref 57)⟩, ⟨PyData.keyHash P (Str.ofString "__dict__"), (.str (Str.ofString "__dict__") 242), (.ref 60)⟩, ⟨PyData.keyHash P (Str.ofString "__weakref__"), (.str (Str.ofString "__weakref__") 244), (.ref 61)⟩, ⟨PyData.keyHash P (Str.ofString "__doc__"), (.str (Str.ofString "__doc__") 245), .none⟩] 4), #[]⟩
noncomputable def k59 (P : Params) : Obj := ⟨(.type "type"), none, (.cls { name := Str.ofString "Var", bases := [(.type "object")], mro := [(.ref 59), (.type "object")], ns := 58, qualname := Str.ofString "Var", hasDict := true, slotNames := [], subclasses := [], abstract := false, collection := none, hasDel := false }), #[none, none, (some (.str (Str.ofString "Var") 196)), (some (.str (Str.ofString "Var") 204)), (some (.builtin "object.__new__")), (some (.bool true))]⟩
noncomputable def k76 (P : Params) : Obj := ⟨(.type "code"), none, (.fields #[(.str (Str.ofString "__init__") 260), (.str (Str.ofString "Lit.__init__") 261), (.str (Str.ofString "/claim/cut.py") 262), (.int (20) 0), (.int (3) 0), (.int (0) 0), (.int (0) 0), (.int (3) 0), (.ref 71), (.bool true), (.int (181) 0), (.ref 72), .none, (.ref 73), (.ref 74), (.ref 75), (.int (266) 0), (.int (20) 0), (.str (Str.ofString "/claim/cut.py") 267)]), #[]⟩
noncomputable def k77 (P : Params) : Obj := ⟨(.type "function"), none, (.func { name := Str.ofString "__init__", qualname := Str.ofString "Lit.__init__", params := fArgs (fM 3 0), body := .stmts (fBody (fM 3 0)), scope := fScope (fM 3 0), globals := 3, closure := [], defaults := .none, kwdefaults := .none, doc := .none, pyModule := (.str (Str.ofString "lazycore.core") 194), annotations := none, code := (.ref 76), closureTuple := .none, builtins := 0 }), #[]⟩
noncomputable def k100 (P : Params) : Obj := ⟨(.type "dict"), none, (.dict #[⟨PyData.keyHash P (Str.ofString "__module__"), (.str (Str.ofString "__module__") 255), (.str (Str.ofString "lazycore.core") 194)⟩, ⟨PyData.keyHash P (Str.ofString "__firstlineno__"), (.str (Str.ofString "__firstlineno__") 259), (.int (18) 258)⟩, ⟨PyData.keyHash P (Str.ofString "__init__"), (.str (Str.ofString "__init__") 268), (.ref 77)⟩, ⟨PyData.keyHash P (Str.ofString "groups"), (.str (Str.ofString "groups") 275), (.ref 84)⟩, ⟨PyData.keyHash P (Str.ofString "parts"), (.str (Str.ofString "parts") 282), (.ref 91)⟩, ⟨PyData.keyHash P (Str.ofString "rebuilt"), (.str (Str.ofString "rebuilt") 291), (.ref 98)⟩, ⟨PyData.keyHash P (Str.ofString "__static_attributes__"), (.str (Str.ofString "__static_attributes__") 294), (.ref 99)⟩, ⟨PyData.keyHash P (Str.ofString "__dict__"), (.str (Str.ofString "__dict__") 296), (.ref 102)⟩, ⟨PyData.keyHash P (Str.ofString "__weakref__"), (.str (Str.ofString "__weakref__") 298), (.ref 103)⟩, ⟨PyData.keyHash P (Str.ofString "__doc__"), (.str (Str.ofString "__doc__") 299), .none⟩] 4), #[]⟩
noncomputable def k101 (P : Params) : Obj := ⟨(.type "type"), none, (.cls { name := Str.ofString "Lit", bases := [(.type "object")], mro := [(.ref 101), (.type "object")], ns := 100, qualname := Str.ofString "Lit", hasDict := true, slotNames := [], subclasses := [], abstract := false, collection := none, hasDel := false }), #[none, none, (some (.str (Str.ofString "Lit") 248)), (some (.str (Str.ofString "Lit") 256)), (some (.builtin "object.__new__")), (some (.bool true))]⟩
noncomputable def k118 (P : Params) : Obj := ⟨(.type "code"), none, (.fields #[(.str (Str.ofString "__init__") 314), (.str (Str.ofString "App.__init__") 315), (.str (Str.ofString "/claim/cut.py") 316), (.int (34) 0), (.int (3) 0), (.int (0) 0), (.int (0) 0), (.int (3) 0), (.ref 113), (.bool true), (.int (181) 0), (.ref 114), .none, (.ref 115), (.ref 116), (.ref 117), (.int (320) 0), (.int (34) 0), (.str (Str.ofString "/claim/cut.py") 321)]), #[]⟩
noncomputable def k119 (P : Params) : Obj := ⟨(.type "function"), none, (.func { name := Str.ofString "__init__", qualname := Str.ofString "App.__init__", params := fArgs (fM 4 0), body := .stmts (fBody (fM 4 0)), scope := fScope (fM 4 0), globals := 3, closure := [], defaults := .none, kwdefaults := .none, doc := .none, pyModule := (.str (Str.ofString "lazycore.core") 194), annotations := none, code := (.ref 118), closureTuple := .none, builtins := 0 }), #[]⟩
noncomputable def k140 (P : Params) : Obj := ⟨(.type "dict"), none, (.dict #[⟨PyData.keyHash P (Str.ofString "__module__"), (.str (Str.ofString "__module__") 309), (.str (Str.ofString "lazycore.core") 194)⟩, ⟨PyData.keyHash P (Str.ofString "__firstlineno__"), (.str (Str.ofString "__firstlineno__") 313), (.int (32) 312)⟩, ⟨PyData.keyHash P (Str.ofString "__init__"), (.str (Str.ofString "__init__") 322), (.ref 119)⟩, ⟨PyData.keyHash P (Str.ofString "groups"), (.str (Str.ofString "groups") 329), (.ref 126)⟩, ⟨PyData.keyHash P (Str.ofString "parts"), (.str (Str.ofString "parts") 335), (.ref 131)⟩, ⟨PyData.keyHash P (Str.ofString "rebuilt"), (.str (Str.ofString "rebuilt") 344), (.ref 138)⟩, ⟨PyData.keyHash P (Str.ofString "__static_attributes__"), (.str (Str.ofString "__static_attributes__") 347), (.ref 139)⟩, ⟨PyData.keyHash P (Str.ofString "__dict__"), (.str (Str.ofString "__dict__") 349), (.ref 142)⟩, ⟨PyData.keyHash P (Str.ofString "__weakref__"), (.str (Str.ofString "__weakref__") 351), (.ref 143)⟩, ⟨PyData.keyHash P (Str.ofString "__doc__"), (.str (Str.ofString "__doc__") 352), .none⟩] 4), #[]⟩
noncomputable def kg0 (P : Params) : Frag := [(3, k3 P), (34, k34 P), (35, k35 P), (58, k58 P), (59, k59 P), (76, k76 P), (77, k77 P), (100, k100 P), (101, k101 P), (118, k118 P), (119, k119 P), (140, k140 P)]
noncomputable def k141 (P : Params) : Obj := ⟨(.type "type"), none, (.cls { name := Str.ofString "App", bases := [(.type "object")], mro := [(.ref 141), (.type "object")], ns := 140, qualname := Str.ofString "App", hasDict := true, slotNames := [], subclasses := [], abstract := false, collection := none, hasDel := false }), #[none, none, (some (.str (Str.ofString "App") 302)), (some (.str (Str.ofString "App") 310)), (some (.builtin "object.__new__")), (some (.bool true))]⟩
noncomputable def k158 (P : Params) : Obj := ⟨(.type "code"), none, (.fields #[(.str (Str.ofString "__init__") 367), (.str (Str.ofString "Lam.__init__") 368), (.str (Str.ofString "/claim/cut.py") 369), (.int (48) 0), (.int (3) 0), (.int (0) 0), (.int (0) 0), (.int (3) 0), (.ref 153), (.bool true), (.int (181) 0), (.ref 154), .none, (.ref 155), (.ref 156), (.ref 157), (.int (373) 0), (.int (48) 0), (.str (Str.ofString "/claim/cut.py") 374)]), #[]⟩
noncomputable def k159 (P : Params) : Obj := ⟨(.type "function"), none, (.func { name := Str.ofString "__init__", qualname := Str.ofString "Lam.__init__", params := fArgs (fM 5 0), body := .stmts (fBody (fM 5 0)), scope := fScope (fM 5 0), globals := 3, closure := [], defaults := .none, kwdefaults := .none, doc := .none, pyModule := (.str (Str.ofString "lazycore.core") 194), annotations := none, code := (.ref 158), closureTuple := .none, builtins := 0 }), #[]⟩
noncomputable def k182 (P : Params) : Obj := ⟨(.type "dict"), none, (.dict #[⟨PyData.keyHash P (Str.ofString "__module__"), (.str (Str.ofString "__module__") 362), (.str (Str.ofString "lazycore.core") 194)⟩, ⟨PyData.keyHash P (Str.ofString "__firstlineno__"), (.str (Str.ofString "__firstlineno__") 366), (.int (46) 365)⟩, ⟨PyData.keyHash P (Str.ofString "__init__"), (.str (Str.ofString "__init__") 375), (.ref 159)⟩, ⟨PyData.keyHash P (Str.ofString "groups"), (.str (Str.ofString "groups") 382), (.ref 166)⟩, ⟨PyData.keyHash P (Str.ofString "parts"), (.str (Str.ofString "parts") 389), (.ref 173)⟩, ⟨PyData.keyHash P (Str.ofString "rebuilt"), (.str (Str.ofString "rebuilt") 398), (.ref 180)⟩, ⟨PyData.keyHash P (Str.ofString "__static_attributes__"), (.str (Str.ofString "__static_attributes__") 401), (.ref 181)⟩, ⟨PyData.keyHash P (Str.ofString "__dict__"), (.str (Str.ofString "__dict__") 403), (.ref 184)⟩, ⟨PyData.keyHash P (Str.ofString "__weakref__"), (.str (Str.ofString "__weakref__") 405), (.ref 185)⟩, ⟨PyData.keyHash P (Str.ofString "__doc__"), (.str (Str.ofString "__doc__") 406), .none⟩] 4), #[]⟩
noncomputable def k183 (P : Params) : Obj := ⟨(.type "type"), none, (.cls { name := Str.ofString "Lam", bases := [(.type "object")], mro := [(.ref 183), (.type "object")], ns := 182, qualname := Str.ofString "Lam", hasDict := true, slotNames := [], subclasses := [], abstract := false, collection := none, hasDel := false }), #[none, none, (some (.str (Str.ofString "Lam") 355)), (some (.str (Str.ofString "Lam") 363)), (some (.builtin "object.__new__")), (some (.bool true))]⟩
noncomputable def k200 (P : Params) : Obj := ⟨(.type "code"), none, (.fields #[(.str (Str.ofString "__init__") 421), (.str (Str.ofString "Let.__init__") 422), (.str (Str.ofString "/claim/cut.py") 423), (.int (62) 0), (.int (4) 0), (.int (0) 0), (.int (0) 0), (.int (3) 0), (.ref 195), (.bool true), (.int (181) 0), (.ref 196), .none, (.ref 197), (.ref 198), (.ref 199), (.int (428) 0), (.int (62) 0), (.str (Str.ofString "/claim/cut.py") 429)]), #[]⟩
noncomputable def k201 (P : Params) : Obj := ⟨(.type "function"), none, (.func { name := Str.ofString "__init__", qualname := Str.ofString "Let.__init__", params := fArgs (fM 6 0), body := .stmts (fBody (fM 6 0)), scope := fScope (fM 6 0), globals := 3, closure := [], defaults := .none, kwdefaults := .none, doc := .none, pyModule := (.str (Str.ofString "lazycore.core") 194), annotations := none, code := (.ref 200), closureTuple := .none, builtins := 0 }), #[]⟩
noncomputable def k220 (P : Params) : Obj := ⟨(.type "dict"), none, (.dict #[⟨PyData.keyHash P (Str.ofString "__module__"), (.str (Str.ofString "__module__") 416), (.str (Str.ofString "lazycore.core") 194)⟩, ⟨PyData.keyHash P (Str.ofString "__firstlineno__"), (.str (Str.ofString "__firstlineno__") 420), (.int (60) 419)⟩, ⟨PyData.keyHash P (Str.ofString "__init__"), (.str (Str.ofString "__init__") 430), (.ref 201)⟩, ⟨PyData.keyHash P (Str.ofString "groups"), (.str (Str.ofString "groups") 436), (.ref 206)⟩, ⟨PyData.keyHash P (Str.ofString "parts"), (.str (Str.ofString "parts") 442), (.ref 211)⟩, ⟨PyData.keyHash P (Str.ofString "rebuilt"), (.str (Str.ofString "rebuilt") 451), (.ref 218)⟩, ⟨PyData.keyHash P (Str.ofString "__static_attributes__"), (.str (Str.ofString "__static_attributes__") 455), (.ref 219)⟩, ⟨PyData.keyHash P (Str.ofString "__dict__"), (.str (Str.ofString "__dict__") 457), (.ref 222)⟩, ⟨PyData.keyHash P (Str.ofString "__weakref__"), (.str (Str.ofString "__weakref__") 459), (.ref 223)⟩, ⟨PyData.keyHash P (Str.ofString "__doc__"), (.str (Str.ofString "__doc__") 460), .none⟩] 4), #[]⟩
noncomputable def k221 (P : Params) : Obj := ⟨(.type "type"), none, (.cls { name := Str.ofString "Let", bases := [(.type "object")], mro := [(.ref 221), (.type "object")], ns := 220, qualname := Str.ofString "Let", hasDict := true, slotNames := [], subclasses := [], abstract := false, collection := none, hasDel := false }), #[none, none, (some (.str (Str.ofString "Let") 409)), (some (.str (Str.ofString "Let") 417)), (some (.builtin "object.__new__")), (some (.bool true))]⟩
noncomputable def k238 (P : Params) : Obj := ⟨(.type "code"), none, (.fields #[(.str (Str.ofString "__init__") 475), (.str (Str.ofString "Alt.__init__") 476), (.str (Str.ofString "/claim/cut.py") 477), (.int (78) 0), (.int (4) 0), (.int (0) 0), (.int (0) 0), (.int (3) 0), (.ref 233), (.bool true), (.int (181) 0), (.ref 234), .none, (.ref 235), (.ref 236), (.ref 237), (.int (482) 0), (.int (78) 0), (.str (Str.ofString "/claim/cut.py") 483)]), #[]⟩
noncomputable def k239 (P : Params) : Obj := ⟨(.type "function"), none, (.func { name := Str.ofString "__init__", qualname := Str.ofString "Alt.__init__", params := fArgs (fM 7 0), body := .stmts (fBody (fM 7 0)), scope := fScope (fM 7 0), globals := 3, closure := [], defaults := .none, kwdefaults := .none, doc := .none, pyModule := (.str (Str.ofString "lazycore.core") 194), annotations := none, code := (.ref 238), closureTuple := .none, builtins := 0 }), #[]⟩
noncomputable def k241 (P : Params) : Obj := ⟨(.type "dict"), none, (.dict #[⟨PyData.keyHash P (Str.ofString "__module__"), (.str (Str.ofString "__module__") 470), (.str (Str.ofString "lazycore.core") 194)⟩, ⟨PyData.keyHash P (Str.ofString "__firstlineno__"), (.str (Str.ofString "__firstlineno__") 474), (.int (76) 473)⟩, ⟨PyData.keyHash P (Str.ofString "__init__"), (.str (Str.ofString "__init__") 484), (.ref 239)⟩, ⟨PyData.keyHash P (Str.ofString "__static_attributes__"), (.str (Str.ofString "__static_attributes__") 488), (.ref 240)⟩, ⟨PyData.keyHash P (Str.ofString "__dict__"), (.str (Str.ofString "__dict__") 490), (.ref 243)⟩, ⟨PyData.keyHash P (Str.ofString "__weakref__"), (.str (Str.ofString "__weakref__") 492), (.ref 244)⟩, ⟨PyData.keyHash P (Str.ofString "__doc__"), (.str (Str.ofString "__doc__") 493), .none⟩] 4), #[]⟩
noncomputable def kg1 (P : Params) : Frag := [(141, k141 P), (158, k158 P), (159, k159 P), (182, k182 P), (183, k183 P), (200, k200 P), (201, k201 P), (220, k220 P), (221, k221 P), (238, k238 P), (239, k239 P), (241, k241 P)]
noncomputable def k242 (P : Params) : Obj := ⟨(.type "type"), none, (.cls { name := Str.ofString "Alt", bases := [(.type "object")], mro := [(.ref 242), (.type "object")], ns := 241, qualname := Str.ofString "Alt", hasDict := true, slotNames := [], subclasses := [], abstract := false, collection := none, hasDel := false }), #[none, none, (some (.str (Str.ofString "Alt") 463)), (some (.str (Str.ofString "Alt") 471)), (some (.builtin "object.__new__")), (some (.bool true))]⟩
noncomputable def k259 (P : Params) : Obj := ⟨(.type "code"), none, (.fields #[(.str (Str.ofString "__init__") 508), (.str (Str.ofString "Case.__init__") 509), (.str (Str.ofString "/claim/cut.py") 510), (.int (84) 0), (.int (5) 0), (.int (0) 0), (.int (0) 0), (.int (3) 0), (.ref 254), (.bool true), (.int (181) 0), (.ref 255), .none, (.ref 256), (.ref 257), (.ref 258), (.int (516) 0), (.int (84) 0), (.str (Str.ofString "/claim/cut.py") 517)]), #[]⟩
noncomputable def k260 (P : Params) : Obj := ⟨(.type "function"), none, (.func { name := Str.ofString "__init__", qualname := Str.ofString "Case.__init__", params := fArgs (fM 8 0), body := .stmts (fBody (fM 8 0)), scope := fScope (fM 8 0), globals := 3, closure := [], defaults := .none, kwdefaults := .none, doc := .none, pyModule := (.str (Str.ofString "lazycore.core") 194), annotations := none, code := (.ref 259), closureTuple := .none, builtins := 0 }), #[]⟩
noncomputable def k281 (P : Params) : Obj := ⟨(.type "dict"), none, (.dict #[⟨PyData.keyHash P (Str.ofString "__module__"), (.str (Str.ofString "__module__") 503), (.str (Str.ofString "lazycore.core") 194)⟩, ⟨PyData.keyHash P (Str.ofString "__firstlineno__"), (.str (Str.ofString "__firstlineno__") 507), (.int (82) 506)⟩, ⟨PyData.keyHash P (Str.ofString "__init__"), (.str (Str.ofString "__init__") 518), (.ref 260)⟩, ⟨PyData.keyHash P (Str.ofString "groups"), (.str (Str.ofString "groups") 524), (.ref 265)⟩, ⟨PyData.keyHash P (Str.ofString "parts"), (.str (Str.ofString "parts") 533), (.ref 272)⟩, ⟨PyData.keyHash P (Str.ofString "rebuilt"), (.str (Str.ofString "rebuilt") 542), (.ref 279)⟩, ⟨PyData.keyHash P (Str.ofString "__static_attributes__"), (.str (Str.ofString "__static_attributes__") 547), (.ref 280)⟩, ⟨PyData.keyHash P (Str.ofString "__dict__"), (.str (Str.ofString "__dict__") 549), (.ref 283)⟩, ⟨PyData.keyHash P (Str.ofString "__weakref__"), (.str (Str.ofString "__weakref__") 551), (.ref 284)⟩, ⟨PyData.keyHash P (Str.ofString "__doc__"), (.str (Str.ofString "__doc__") 552), .none⟩] 4), #[]⟩
noncomputable def k282 (P : Params) : Obj := ⟨(.type "type"), none, (.cls { name := Str.ofString "Case", bases := [(.type "object")], mro := [(.ref 282), (.type "object")], ns := 281, qualname := Str.ofString "Case", hasDict := true, slotNames := [], subclasses := [], abstract := false, collection := none, hasDel := false }), #[none, none, (some (.str (Str.ofString "Case") 496)), (some (.str (Str.ofString "Case") 504)), (some (.builtin "object.__new__")), (some (.bool true))]⟩
noncomputable def k299 (P : Params) : Obj := ⟨(.type "code"), none, (.fields #[(.str (Str.ofString "__init__") 567), (.str (Str.ofString "Con.__init__") 568), (.str (Str.ofString "/claim/cut.py") 569), (.int (103) 0), (.int (3) 0), (.int (0) 0), (.int (0) 0), (.int (3) 0), (.ref 294), (.bool true), (.int (181) 0), (.ref 295), .none, (.ref 296), (.ref 297), (.ref 298), (.int (573) 0), (.int (103) 0), (.str (Str.ofString "/claim/cut.py") 574)]), #[]⟩
noncomputable def k300 (P : Params) : Obj := ⟨(.type "function"), none, (.func { name := Str.ofString "__init__", qualname := Str.ofString "Con.__init__", params := fArgs (fM 9 0), body := .stmts (fBody (fM 9 0)), scope := fScope (fM 9 0), globals := 3, closure := [], defaults := .none, kwdefaults := .none, doc := .none, pyModule := (.str (Str.ofString "lazycore.core") 194), annotations := none, code := (.ref 299), closureTuple := .none, builtins := 0 }), #[]⟩
noncomputable def k321 (P : Params) : Obj := ⟨(.type "dict"), none, (.dict #[⟨PyData.keyHash P (Str.ofString "__module__"), (.str (Str.ofString "__module__") 562), (.str (Str.ofString "lazycore.core") 194)⟩, ⟨PyData.keyHash P (Str.ofString "__firstlineno__"), (.str (Str.ofString "__firstlineno__") 566), (.int (101) 565)⟩, ⟨PyData.keyHash P (Str.ofString "__init__"), (.str (Str.ofString "__init__") 575), (.ref 300)⟩, ⟨PyData.keyHash P (Str.ofString "groups"), (.str (Str.ofString "groups") 582), (.ref 307)⟩, ⟨PyData.keyHash P (Str.ofString "parts"), (.str (Str.ofString "parts") 588), (.ref 312)⟩, ⟨PyData.keyHash P (Str.ofString "rebuilt"), (.str (Str.ofString "rebuilt") 597), (.ref 319)⟩, ⟨PyData.keyHash P (Str.ofString "__static_attributes__"), (.str (Str.ofString "__static_attributes__") 600), (.ref 320)⟩, ⟨PyData.keyHash P (Str.ofString "__dict__"), (.str (Str.ofString "__dict__") 602), (.ref 323)⟩, ⟨PyData.keyHash P (Str.ofString "__weakref__"), (.str (Str.ofString "__weakref__") 604), (.ref 324)⟩, ⟨PyData.keyHash P (Str.ofString "__doc__"), (.str (Str.ofString "__doc__") 605), .none⟩] 4), #[]⟩
noncomputable def k322 (P : Params) : Obj := ⟨(.type "type"), none, (.cls { name := Str.ofString "Con", bases := [(.type "object")], mro := [(.ref 322), (.type "object")], ns := 321, qualname := Str.ofString "Con", hasDict := true, slotNames := [], subclasses := [], abstract := false, collection := none, hasDel := false }), #[none, none, (some (.str (Str.ofString "Con") 555)), (some (.str (Str.ofString "Con") 563)), (some (.builtin "object.__new__")), (some (.bool true))]⟩
noncomputable def k339 (P : Params) : Obj := ⟨(.type "code"), none, (.fields #[(.str (Str.ofString "__init__") 620), (.str (Str.ofString "Prim.__init__") 621), (.str (Str.ofString "/claim/cut.py") 622), (.int (117) 0), (.int (3) 0), (.int (0) 0), (.int (0) 0), (.int (3) 0), (.ref 334), (.bool true), (.int (181) 0), (.ref 335), .none, (.ref 336), (.ref 337), (.ref 338), (.int (626) 0), (.int (117) 0), (.str (Str.ofString "/claim/cut.py") 627)]), #[]⟩
noncomputable def k340 (P : Params) : Obj := ⟨(.type "function"), none, (.func { name := Str.ofString "__init__", qualname := Str.ofString "Prim.__init__", params := fArgs (fM 10 0), body := .stmts (fBody (fM 10 0)), scope := fScope (fM 10 0), globals := 3, closure := [], defaults := .none, kwdefaults := .none, doc := .none, pyModule := (.str (Str.ofString "lazycore.core") 194), annotations := none, code := (.ref 339), closureTuple := .none, builtins := 0 }), #[]⟩
noncomputable def k361 (P : Params) : Obj := ⟨(.type "dict"), none, (.dict #[⟨PyData.keyHash P (Str.ofString "__module__"), (.str (Str.ofString "__module__") 615), (.str (Str.ofString "lazycore.core") 194)⟩, ⟨PyData.keyHash P (Str.ofString "__firstlineno__"), (.str (Str.ofString "__firstlineno__") 619), (.int (115) 618)⟩, ⟨PyData.keyHash P (Str.ofString "__init__"), (.str (Str.ofString "__init__") 628), (.ref 340)⟩, ⟨PyData.keyHash P (Str.ofString "groups"), (.str (Str.ofString "groups") 635), (.ref 347)⟩, ⟨PyData.keyHash P (Str.ofString "parts"), (.str (Str.ofString "parts") 641), (.ref 352)⟩, ⟨PyData.keyHash P (Str.ofString "rebuilt"), (.str (Str.ofString "rebuilt") 650), (.ref 359)⟩, ⟨PyData.keyHash P (Str.ofString "__static_attributes__"), (.str (Str.ofString "__static_attributes__") 653), (.ref 360)⟩, ⟨PyData.keyHash P (Str.ofString "__dict__"), (.str (Str.ofString "__dict__") 655), (.ref 363)⟩, ⟨PyData.keyHash P (Str.ofString "__weakref__"), (.str (Str.ofString "__weakref__") 657), (.ref 364)⟩, ⟨PyData.keyHash P (Str.ofString "__doc__"), (.str (Str.ofString "__doc__") 658), .none⟩] 4), #[]⟩
noncomputable def kg2 (P : Params) : Frag := [(242, k242 P), (259, k259 P), (260, k260 P), (281, k281 P), (282, k282 P), (299, k299 P), (300, k300 P), (321, k321 P), (322, k322 P), (339, k339 P), (340, k340 P), (361, k361 P)]
noncomputable def k362 (P : Params) : Obj := ⟨(.type "type"), none, (.cls { name := Str.ofString "Prim", bases := [(.type "object")], mro := [(.ref 362), (.type "object")], ns := 361, qualname := Str.ofString "Prim", hasDict := true, slotNames := [], subclasses := [], abstract := false, collection := none, hasDel := false }), #[none, none, (some (.str (Str.ofString "Prim") 608)), (some (.str (Str.ofString "Prim") 616)), (some (.builtin "object.__new__")), (some (.bool true))]⟩
noncomputable def k379 (P : Params) : Obj := ⟨(.type "code"), none, (.fields #[(.str (Str.ofString "__init__") 673), (.str (Str.ofString "CoreProgram.__init__") 674), (.str (Str.ofString "/claim/cut.py") 675), (.int (131) 0), (.int (4) 0), (.int (0) 0), (.int (0) 0), (.int (3) 0), (.ref 374), (.bool true), (.int (181) 0), (.ref 375), .none, (.ref 376), (.ref 377), (.ref 378), (.int (680) 0), (.int (131) 0), (.str (Str.ofString "/claim/cut.py") 681)]), #[]⟩
noncomputable def k380 (P : Params) : Obj := ⟨(.type "function"), none, (.func { name := Str.ofString "__init__", qualname := Str.ofString "CoreProgram.__init__", params := fArgs (fM 11 0), body := .stmts (fBody (fM 11 0)), scope := fScope (fM 11 0), globals := 3, closure := [], defaults := .none, kwdefaults := .none, doc := .none, pyModule := (.str (Str.ofString "lazycore.core") 194), annotations := none, code := (.ref 379), closureTuple := .none, builtins := 0 }), #[]⟩
noncomputable def k382 (P : Params) : Obj := ⟨(.type "dict"), none, (.dict #[⟨PyData.keyHash P (Str.ofString "__module__"), (.str (Str.ofString "__module__") 668), (.str (Str.ofString "lazycore.core") 194)⟩, ⟨PyData.keyHash P (Str.ofString "__firstlineno__"), (.str (Str.ofString "__firstlineno__") 672), (.int (129) 671)⟩, ⟨PyData.keyHash P (Str.ofString "__init__"), (.str (Str.ofString "__init__") 682), (.ref 380)⟩, ⟨PyData.keyHash P (Str.ofString "__static_attributes__"), (.str (Str.ofString "__static_attributes__") 686), (.ref 381)⟩, ⟨PyData.keyHash P (Str.ofString "__dict__"), (.str (Str.ofString "__dict__") 688), (.ref 384)⟩, ⟨PyData.keyHash P (Str.ofString "__weakref__"), (.str (Str.ofString "__weakref__") 690), (.ref 385)⟩, ⟨PyData.keyHash P (Str.ofString "__doc__"), (.str (Str.ofString "__doc__") 691), .none⟩] 4), #[]⟩
noncomputable def k383 (P : Params) : Obj := ⟨(.type "type"), none, (.cls { name := Str.ofString "CoreProgram", bases := [(.type "object")], mro := [(.ref 383), (.type "object")], ns := 382, qualname := Str.ofString "CoreProgram", hasDict := true, slotNames := [], subclasses := [], abstract := false, collection := none, hasDel := false }), #[none, none, (some (.str (Str.ofString "CoreProgram") 661)), (some (.str (Str.ofString "CoreProgram") 669)), (some (.builtin "object.__new__")), (some (.bool true))]⟩
noncomputable def k400 (P : Params) : Obj := ⟨(.type "code"), none, (.fields #[(.str (Str.ofString "__init__") 708), (.str (Str.ofString "Signature.__init__") 709), (.str (Str.ofString "/claim/cut.py") 710), (.int (138) 0), (.int (4) 0), (.int (0) 0), (.int (0) 0), (.int (3) 0), (.ref 395), (.bool true), (.int (181) 0), (.ref 396), .none, (.ref 397), (.ref 398), (.ref 399), (.int (715) 0), (.int (138) 0), (.str (Str.ofString "/claim/cut.py") 716)]), #[]⟩
noncomputable def k401 (P : Params) : Obj := ⟨(.type "function"), none, (.func { name := Str.ofString "__init__", qualname := Str.ofString "Signature.__init__", params := fArgs (fM 13 0), body := .stmts (fBody (fM 13 0)), scope := fScope (fM 13 0), globals := 3, closure := [], defaults := .none, kwdefaults := .none, doc := .none, pyModule := (.str (Str.ofString "lazycore.demand") 694), annotations := none, code := (.ref 400), closureTuple := .none, builtins := 0 }), #[]⟩
noncomputable def k407 (P : Params) : Obj := ⟨(.type "code"), none, (.fields #[(.str (Str.ofString "row") 718), (.str (Str.ofString "Signature.row") 719), (.str (Str.ofString "/claim/cut.py") 720), (.int (143) 0), (.int (1) 0), (.int (0) 0), (.int (0) 0), (.int (3) 0), (.ref 402), (.bool true), (.int (181) 0), (.ref 403), .none, (.ref 404), (.ref 405), (.ref 406), (.int (722) 0), (.int (143) 0), (.str (Str.ofString "/claim/cut.py") 723)]), #[]⟩
noncomputable def k408 (P : Params) : Obj := ⟨(.type "function"), none, (.func { name := Str.ofString "row", qualname := Str.ofString "Signature.row", params := fArgs (fM 13 1), body := .stmts (fBody (fM 13 1)), scope := fScope (fM 13 1), globals := 3, closure := [], defaults := .none, kwdefaults := .none, doc := .none, pyModule := (.str (Str.ofString "lazycore.demand") 694), annotations := none, code := (.ref 407), closureTuple := .none, builtins := 0 }), #[]⟩
noncomputable def k410 (P : Params) : Obj := ⟨(.type "dict"), none, (.dict #[⟨PyData.keyHash P (Str.ofString "__module__"), (.str (Str.ofString "__module__") 703), (.str (Str.ofString "lazycore.demand") 694)⟩, ⟨PyData.keyHash P (Str.ofString "__firstlineno__"), (.str (Str.ofString "__firstlineno__") 707), (.int (136) 706)⟩, ⟨PyData.keyHash P (Str.ofString "__init__"), (.str (Str.ofString "__init__") 717), (.ref 401)⟩, ⟨PyData.keyHash P (Str.ofString "row"), (.str (Str.ofString "row") 724), (.ref 408)⟩, ⟨PyData.keyHash P (Str.ofString "__static_attributes__"), (.str (Str.ofString "__static_attributes__") 728), (.ref 409)⟩, ⟨PyData.keyHash P (Str.ofString "__dict__"), (.str (Str.ofString "__dict__") 730), (.ref 412)⟩, ⟨PyData.keyHash P (Str.ofString "__weakref__"), (.str (Str.ofString "__weakref__") 732), (.ref 413)⟩, ⟨PyData.keyHash P (Str.ofString "__doc__"), (.str (Str.ofString "__doc__") 733), .none⟩] 4), #[]⟩
noncomputable def k411 (P : Params) : Obj := ⟨(.type "type"), none, (.cls { name := Str.ofString "Signature", bases := [(.type "object")], mro := [(.ref 411), (.type "object")], ns := 410, qualname := Str.ofString "Signature", hasDict := true, slotNames := [], subclasses := [], abstract := false, collection := none, hasDel := false }), #[none, none, (some (.str (Str.ofString "Signature") 696)), (some (.str (Str.ofString "Signature") 704)), (some (.builtin "object.__new__")), (some (.bool true))]⟩
noncomputable def k421 (P : Params) : Obj := ⟨(.type "code"), none, (.fields #[(.str (Str.ofString "hopeful") 736), (.str (Str.ofString "hopeful") 737), (.str (Str.ofString "/claim/cut.py") 738), (.int (145) 0), (.int (1) 0), (.int (0) 0), (.int (0) 0), (.int (3) 0), (.ref 416), (.bool true), (.int (181) 0), (.ref 417), .none, (.ref 418), (.ref 419), (.ref 420), (.int (740) 0), (.int (145) 0), (.str (Str.ofString "/claim/cut.py") 741)]), #[]⟩
noncomputable def kg3 (P : Params) : Frag := [(362, k362 P), (379, k379 P), (380, k380 P), (382, k382 P), (383, k383 P), (400, k400 P), (401, k401 P), (407, k407 P), (408, k408 P), (410, k410 P), (411, k411 P), (421, k421 P)]
noncomputable def k422 (P : Params) : Obj := ⟨(.type "function"), none, (.func { name := Str.ofString "hopeful", qualname := Str.ofString "hopeful", params := fArgs (fA 14), body := .stmts (fBody (fA 14)), scope := fScope (fA 14), globals := 3, closure := [], defaults := .none, kwdefaults := .none, doc := .none, pyModule := (.str (Str.ofString "lazycore.demand") 694), annotations := none, code := (.ref 421), closureTuple := .none, builtins := 0 }), #[]⟩
noncomputable def k428 (P : Params) : Obj := ⟨(.type "code"), none, (.fields #[(.str (Str.ofString "both") 743), (.str (Str.ofString "both") 744), (.str (Str.ofString "/claim/cut.py") 745), (.int (147) 0), (.int (2) 0), (.int (0) 0), (.int (0) 0), (.int (3) 0), (.ref 423), (.bool true), (.int (181) 0), (.ref 424), .none, (.ref 425), (.ref 426), (.ref 427), (.int (749) 0), (.int (147) 0), (.str (Str.ofString "/claim/cut.py") 750)]), #[]⟩
noncomputable def k429 (P : Params) : Obj := ⟨(.type "function"), none, (.func { name := Str.ofString "both", qualname := Str.ofString "both", params := fArgs (fA 15), body := .stmts (fBody (fA 15)), scope := fScope (fA 15), globals := 3, closure := [], defaults := .none, kwdefaults := .none, doc := .none, pyModule := (.str (Str.ofString "lazycore.demand") 694), annotations := none, code := (.ref 428), closureTuple := .none, builtins := 0 }), #[]⟩
noncomputable def k433 (P : Params) : Obj := ⟨(.type "code"), none, (.fields #[(.str (Str.ofString "either") 752), (.str (Str.ofString "either") 753), (.str (Str.ofString "/claim/cut.py") 754), (.int (153) 0), (.int (1) 0), (.int (0) 0), (.int (0) 0), (.int (3) 0), (.ref 430), (.bool true), (.int (181) 0), (.ref 431), .none, .none, .none, (.ref 432), (.int (755) 0), (.int (153) 0), (.str (Str.ofString "/claim/cut.py") 756)]), #[]⟩
noncomputable def k434 (P : Params) : Obj := ⟨(.type "function"), none, (.func { name := Str.ofString "either", qualname := Str.ofString "either", params := fArgs (fA 16), body := .stmts (fBody (fA 16)), scope := fScope (fA 16), globals := 3, closure := [], defaults := .none, kwdefaults := .none, doc := .none, pyModule := (.str (Str.ofString "lazycore.demand") 694), annotations := none, code := (.ref 433), closureTuple := .none, builtins := 0 }), #[]⟩
noncomputable def k438 (P : Params) : Obj := ⟨(.type "code"), none, (.fields #[(.str (Str.ofString "without") 758), (.str (Str.ofString "without") 759), (.str (Str.ofString "/claim/cut.py") 760), (.int (159) 0), (.int (2) 0), (.int (0) 0), (.int (0) 0), (.int (3) 0), (.ref 435), (.bool true), (.int (181) 0), (.ref 436), .none, .none, .none, (.ref 437), (.int (761) 0), (.int (159) 0), (.str (Str.ofString "/claim/cut.py") 762)]), #[]⟩
noncomputable def k439 (P : Params) : Obj := ⟨(.type "function"), none, (.func { name := Str.ofString "without", qualname := Str.ofString "without", params := fArgs (fA 17), body := .stmts (fBody (fA 17)), scope := fScope (fA 17), globals := 3, closure := [], defaults := .none, kwdefaults := .none, doc := .none, pyModule := (.str (Str.ofString "lazycore.demand") 694), annotations := none, code := (.ref 438), closureTuple := .none, builtins := 0 }), #[]⟩
noncomputable def k445 (P : Params) : Obj := ⟨(.type "code"), none, (.fields #[(.str (Str.ofString "extended") 764), (.str (Str.ofString "extended") 765), (.str (Str.ofString "/claim/cut.py") 766), (.int (163) 0), (.int (2) 0), (.int (0) 0), (.int (0) 0), (.int (3) 0), (.ref 440), (.bool true), (.int (181) 0), (.ref 441), .none, (.ref 442), (.ref 443), (.ref 444), (.int (770) 0), (.int (163) 0), (.str (Str.ofString "/claim/cut.py") 771)]), #[]⟩
noncomputable def k446 (P : Params) : Obj := ⟨(.type "function"), none, (.func { name := Str.ofString "extended", qualname := Str.ofString "extended", params := fArgs (fA 18), body := .stmts (fBody (fA 18)), scope := fScope (fA 18), globals := 3, closure := [], defaults := .none, kwdefaults := .none, doc := .none, pyModule := (.str (Str.ofString "lazycore.demand") 694), annotations := none, code := (.ref 445), closureTuple := .none, builtins := 0 }), #[]⟩
noncomputable def k452 (P : Params) : Obj := ⟨(.type "code"), none, (.fields #[(.str (Str.ofString "needed") 773), (.str (Str.ofString "needed") 774), (.str (Str.ofString "/claim/cut.py") 775), (.int (167) 0), (.int (2) 0), (.int (0) 0), (.int (0) 0), (.int (3) 0), (.ref 447), (.bool true), (.int (181) 0), (.ref 448), .none, (.ref 449), (.ref 450), (.ref 451), (.int (778) 0), (.int (167) 0), (.str (Str.ofString "/claim/cut.py") 779)]), #[]⟩
noncomputable def k453 (P : Params) : Obj := ⟨(.type "function"), none, (.func { name := Str.ofString "needed", qualname := Str.ofString "needed", params := fArgs (fA 19), body := .stmts (fBody (fA 19)), scope := fScope (fA 19), globals := 3, closure := [], defaults := .none, kwdefaults := .none, doc := .none, pyModule := (.str (Str.ofString "lazycore.demand") 694), annotations := none, code := (.ref 452), closureTuple := .none, builtins := 0 }), #[]⟩
noncomputable def k459 (P : Params) : Obj := ⟨(.type "code"), none, (.fields #[(.str (Str.ofString "prim_needs") 781), (.str (Str.ofString "prim_needs") 782), (.str (Str.ofString "/claim/cut.py") 783), (.int (179) 0), (.int (2) 0), (.int (0) 0), (.int (0) 0), (.int (3) 0), (.ref 454), (.bool true), (.int (181) 0), (.ref 455), .none, (.ref 456), (.ref 457), (.ref 458), (.int (788) 0), (.int (179) 0), (.str (Str.ofString "/claim/cut.py") 789)]), #[]⟩
noncomputable def kg4 (P : Params) : Frag := [(422, k422 P), (428, k428 P), (429, k429 P), (433, k433 P), (434, k434 P), (438, k438 P), (439, k439 P), (445, k445 P), (446, k446 P), (452, k452 P), (453, k453 P), (459, k459 P)]
noncomputable def k460 (P : Params) : Obj := ⟨(.type "function"), none, (.func { name := Str.ofString "prim_needs", qualname := Str.ofString "prim_needs", params := fArgs (fA 20), body := .stmts (fBody (fA 20)), scope := fScope (fA 20), globals := 3, closure := [], defaults := .none, kwdefaults := .none, doc := .none, pyModule := (.str (Str.ofString "lazycore.demand") 694), annotations := none, code := (.ref 459), closureTuple := .none, builtins := 0 }), #[]⟩
noncomputable def k466 (P : Params) : Obj := ⟨(.type "code"), none, (.fields #[(.str (Str.ofString "call_needs") 791), (.str (Str.ofString "call_needs") 792), (.str (Str.ofString "/claim/cut.py") 793), (.int (186) 0), (.int (2) 0), (.int (0) 0), (.int (0) 0), (.int (3) 0), (.ref 461), (.bool true), (.int (181) 0), (.ref 462), .none, (.ref 463), (.ref 464), (.ref 465), (.int (800) 0), (.int (186) 0), (.str (Str.ofString "/claim/cut.py") 801)]), #[]⟩
noncomputable def k467 (P : Params) : Obj := ⟨(.type "function"), none, (.func { name := Str.ofString "call_needs", qualname := Str.ofString "call_needs", params := fArgs (fA 21), body := .stmts (fBody (fA 21)), scope := fScope (fA 21), globals := 3, closure := [], defaults := .none, kwdefaults := .none, doc := .none, pyModule := (.str (Str.ofString "lazycore.demand") 694), annotations := none, code := (.ref 466), closureTuple := .none, builtins := 0 }), #[]⟩
noncomputable def k473 (P : Params) : Obj := ⟨(.type "code"), none, (.fields #[(.str (Str.ofString "case_needs") 803), (.str (Str.ofString "case_needs") 804), (.str (Str.ofString "/claim/cut.py") 805), (.int (202) 0), (.int (2) 0), (.int (0) 0), (.int (0) 0), (.int (3) 0), (.ref 468), (.bool true), (.int (181) 0), (.ref 469), .none, (.ref 470), (.ref 471), (.ref 472), (.int (810) 0), (.int (202) 0), (.str (Str.ofString "/claim/cut.py") 811)]), #[]⟩
noncomputable def k474 (P : Params) : Obj := ⟨(.type "function"), none, (.func { name := Str.ofString "case_needs", qualname := Str.ofString "case_needs", params := fArgs (fA 22), body := .stmts (fBody (fA 22)), scope := fScope (fA 22), globals := 3, closure := [], defaults := .none, kwdefaults := .none, doc := .none, pyModule := (.str (Str.ofString "lazycore.demand") 694), annotations := none, code := (.ref 473), closureTuple := .none, builtins := 0 }), #[]⟩
noncomputable def k478 (P : Params) : Obj := ⟨(.type "code"), none, (.fields #[(.str (Str.ofString "signature_of") 813), (.str (Str.ofString "signature_of") 814), (.str (Str.ofString "/claim/cut.py") 815), (.int (209) 0), (.int (2) 0), (.int (0) 0), (.int (0) 0), (.int (3) 0), (.ref 475), (.bool true), (.int (181) 0), (.ref 476), .none, .none, .none, (.ref 477), (.int (816) 0), (.int (209) 0), (.str (Str.ofString "/claim/cut.py") 817)]), #[]⟩
noncomputable def k479 (P : Params) : Obj := ⟨(.type "function"), none, (.func { name := Str.ofString "signature_of", qualname := Str.ofString "signature_of", params := fArgs (fA 23), body := .stmts (fBody (fA 23)), scope := fScope (fA 23), globals := 3, closure := [], defaults := .none, kwdefaults := .none, doc := .none, pyModule := (.str (Str.ofString "lazycore.demand") 694), annotations := none, code := (.ref 478), closureTuple := .none, builtins := 0 }), #[]⟩
noncomputable def k483 (P : Params) : Obj := ⟨(.type "code"), none, (.fields #[(.str (Str.ofString "functions_in") 819), (.str (Str.ofString "functions_in") 820), (.str (Str.ofString "/claim/cut.py") 821), (.int (215) 0), (.int (1) 0), (.int (0) 0), (.int (0) 0), (.int (3) 0), (.ref 480), (.bool true), (.int (181) 0), (.ref 481), .none, .none, .none, (.ref 482), (.int (822) 0), (.int (215) 0), (.str (Str.ofString "/claim/cut.py") 823)]), #[]⟩
noncomputable def k484 (P : Params) : Obj := ⟨(.type "function"), none, (.func { name := Str.ofString "functions_in", qualname := Str.ofString "functions_in", params := fArgs (fA 24), body := .stmts (fBody (fA 24)), scope := fScope (fA 24), globals := 3, closure := [], defaults := .none, kwdefaults := .none, doc := .none, pyModule := (.str (Str.ofString "lazycore.demand") 694), annotations := none, code := (.ref 483), closureTuple := .none, builtins := 0 }), #[]⟩
noncomputable def k488 (P : Params) : Obj := ⟨(.type "code"), none, (.fields #[(.str (Str.ofString "settled") 825), (.str (Str.ofString "settled") 826), (.str (Str.ofString "/claim/cut.py") 827), (.int (217) 0), (.int (2) 0), (.int (0) 0), (.int (0) 0), (.int (3) 0), (.ref 485), (.bool true), (.int (181) 0), (.ref 486), .none, .none, .none, (.ref 487), (.int (828) 0), (.int (217) 0), (.str (Str.ofString "/claim/cut.py") 829)]), #[]⟩
noncomputable def k489 (P : Params) : Obj := ⟨(.type "function"), none, (.func { name := Str.ofString "settled", qualname := Str.ofString "settled", params := fArgs (fA 25), body := .stmts (fBody (fA 25)), scope := fScope (fA 25), globals := 3, closure := [], defaults := .none, kwdefaults := .none, doc := .none, pyModule := (.str (Str.ofString "lazycore.demand") 694), annotations := none, code := (.ref 488), closureTuple := .none, builtins := 0 }), #[]⟩
noncomputable def k493 (P : Params) : Obj := ⟨(.type "code"), none, (.fields #[(.str (Str.ofString "bound_env") 831), (.str (Str.ofString "bound_env") 832), (.str (Str.ofString "/claim/cut.py") 833), (.int (228) 0), (.int (2) 0), (.int (0) 0), (.int (0) 0), (.int (3) 0), (.ref 490), (.bool true), (.int (181) 0), (.ref 491), .none, .none, .none, (.ref 492), (.int (834) 0), (.int (228) 0), (.str (Str.ofString "/claim/cut.py") 835)]), #[]⟩
noncomputable def kg5 (P : Params) : Frag := [(460, k460 P), (466, k466 P), (467, k467 P), (473, k473 P), (474, k474 P), (478, k478 P), (479, k479 P), (483, k483 P), (484, k484 P), (488, k488 P), (489, k489 P), (493, k493 P)]
noncomputable def k494 (P : Params) : Obj := ⟨(.type "function"), none, (.func { name := Str.ofString "bound_env", qualname := Str.ofString "bound_env", params := fArgs (fA 26), body := .stmts (fBody (fA 26)), scope := fScope (fA 26), globals := 3, closure := [], defaults := .none, kwdefaults := .none, doc := .none, pyModule := (.str (Str.ofString "lazycore.demand") 694), annotations := none, code := (.ref 493), closureTuple := .none, builtins := 0 }), #[]⟩
noncomputable def k498 (P : Params) : Obj := ⟨(.type "code"), none, (.fields #[(.str (Str.ofString "with_binds") 837), (.str (Str.ofString "with_binds") 838), (.str (Str.ofString "/claim/cut.py") 839), (.int (233) 0), (.int (4) 0), (.int (0) 0), (.int (0) 0), (.int (3) 0), (.ref 495), (.bool true), (.int (181) 0), (.ref 496), .none, .none, .none, (.ref 497), (.int (840) 0), (.int (233) 0), (.str (Str.ofString "/claim/cut.py") 841)]), #[]⟩
noncomputable def k499 (P : Params) : Obj := ⟨(.type "function"), none, (.func { name := Str.ofString "with_binds", qualname := Str.ofString "with_binds", params := fArgs (fA 27), body := .stmts (fBody (fA 27)), scope := fScope (fA 27), globals := 3, closure := [], defaults := .none, kwdefaults := .none, doc := .none, pyModule := (.str (Str.ofString "lazycore.demand") 694), annotations := none, code := (.ref 498), closureTuple := .none, builtins := 0 }), #[]⟩
noncomputable def k505 (P : Params) : Obj := ⟨(.type "code"), none, (.fields #[(.str (Str.ofString "let_needs") 843), (.str (Str.ofString "let_needs") 844), (.str (Str.ofString "/claim/cut.py") 845), (.int (244) 0), (.int (2) 0), (.int (0) 0), (.int (0) 0), (.int (3) 0), (.ref 500), (.bool true), (.int (181) 0), (.ref 501), .none, (.ref 502), (.ref 503), (.ref 504), (.int (849) 0), (.int (244) 0), (.str (Str.ofString "/claim/cut.py") 850)]), #[]⟩
noncomputable def k506 (P : Params) : Obj := ⟨(.type "function"), none, (.func { name := Str.ofString "let_needs", qualname := Str.ofString "let_needs", params := fArgs (fA 28), body := .stmts (fBody (fA 28)), scope := fScope (fA 28), globals := 3, closure := [], defaults := .none, kwdefaults := .none, doc := .none, pyModule := (.str (Str.ofString "lazycore.demand") 694), annotations := none, code := (.ref 505), closureTuple := .none, builtins := 0 }), #[]⟩
noncomputable def k512 (P : Params) : Obj := ⟨(.type "code"), none, (.fields #[(.str (Str.ofString "signatures") 854), (.str (Str.ofString "signatures") 855), (.str (Str.ofString "/claim/cut.py") 856), (.int (248) 0), (.int (1) 0), (.int (0) 0), (.int (0) 0), (.int (3) 0), (.ref 507), (.bool true), (.int (181) 0), (.ref 508), .none, (.ref 509), (.ref 510), (.ref 511), (.int (858) 0), (.int (248) 0), (.str (Str.ofString "/claim/cut.py") 859)]), #[]⟩
noncomputable def k513 (P : Params) : Obj := ⟨(.type "function"), none, (.func { name := Str.ofString "signatures", qualname := Str.ofString "signatures", params := fArgs (fA 30), body := .stmts (fBody (fA 30)), scope := fScope (fA 30), globals := 3, closure := [], defaults := .none, kwdefaults := .none, doc := .none, pyModule := (.str (Str.ofString "lazycore.strictness") 852), annotations := none, code := (.ref 512), closureTuple := .none, builtins := 0 }), #[]⟩
noncomputable def k517 (P : Params) : Obj := ⟨(.type "code"), none, (.fields #[(.str (Str.ofString "strict_params") 861), (.str (Str.ofString "strict_params") 862), (.str (Str.ofString "/claim/cut.py") 863), (.int (250) 0), (.int (1) 0), (.int (0) 0), (.int (0) 0), (.int (3) 0), (.ref 514), (.bool true), (.int (181) 0), (.ref 515), .none, .none, .none, (.ref 516), (.int (864) 0), (.int (250) 0), (.str (Str.ofString "/claim/cut.py") 865)]), #[]⟩
noncomputable def k518 (P : Params) : Obj := ⟨(.type "function"), none, (.func { name := Str.ofString "strict_params", qualname := Str.ofString "strict_params", params := fArgs (fA 31), body := .stmts (fBody (fA 31)), scope := fScope (fA 31), globals := 3, closure := [], defaults := .none, kwdefaults := .none, doc := .none, pyModule := (.str (Str.ofString "lazycore.strictness") 852), annotations := none, code := (.ref 517), closureTuple := .none, builtins := 0 }), #[]⟩
noncomputable def k524 (P : Params) : Obj := ⟨(.type "code"), none, (.fields #[(.str (Str.ofString "is_done") 867), (.str (Str.ofString "is_done") 868), (.str (Str.ofString "/claim/cut.py") 869), (.int (253) 0), (.int (1) 0), (.int (0) 0), (.int (0) 0), (.int (3) 0), (.ref 519), (.bool true), (.int (181) 0), (.ref 520), .none, (.ref 521), (.ref 522), (.ref 523), (.int (871) 0), (.int (253) 0), (.str (Str.ofString "/claim/cut.py") 872)]), #[]⟩
noncomputable def k525 (P : Params) : Obj := ⟨(.type "function"), none, (.func { name := Str.ofString "is_done", qualname := Str.ofString "is_done", params := fArgs (fA 32), body := .stmts (fBody (fA 32)), scope := fScope (fA 32), globals := 3, closure := [], defaults := .none, kwdefaults := .none, doc := .none, pyModule := (.str (Str.ofString "lazycore.strictness") 852), annotations := none, code := (.ref 524), closureTuple := .none, builtins := 0 }), #[]⟩
noncomputable def k538 (P : Params) : Obj := ⟨(.type "code"), none, (.fields #[(.str (Str.ofString "__init__") 886), (.str (Str.ofString "Forcer.__init__") 887), (.str (Str.ofString "/claim/cut.py") 888), (.int (257) 0), (.int (2) 0), (.int (0) 0), (.int (0) 0), (.int (3) 0), (.ref 533), (.bool true), (.int (181) 0), (.ref 534), .none, (.ref 535), (.ref 536), (.ref 537), (.int (891) 0), (.int (257) 0), (.str (Str.ofString "/claim/cut.py") 892)]), #[]⟩
noncomputable def kg6 (P : Params) : Frag := [(494, k494 P), (498, k498 P), (499, k499 P), (505, k505 P), (506, k506 P), (512, k512 P), (513, k513 P), (517, k517 P), (518, k518 P), (524, k524 P), (525, k525 P), (538, k538 P)]
noncomputable def k539 (P : Params) : Obj := ⟨(.type "function"), none, (.func { name := Str.ofString "__init__", qualname := Str.ofString "Forcer.__init__", params := fArgs (fM 33 0), body := .stmts (fBody (fM 33 0)), scope := fScope (fM 33 0), globals := 3, closure := [], defaults := .none, kwdefaults := .none, doc := .none, pyModule := (.str (Str.ofString "lazycore.strictness") 852), annotations := none, code := (.ref 538), closureTuple := .none, builtins := 0 }), #[]⟩
noncomputable def k543 (P : Params) : Obj := ⟨(.type "code"), none, (.fields #[(.str (Str.ofString "expr") 894), (.str (Str.ofString "Forcer.expr") 895), (.str (Str.ofString "/claim/cut.py") 896), (.int (260) 0), (.int (3) 0), (.int (0) 0), (.int (0) 0), (.int (3) 0), (.ref 540), (.bool true), (.int (181) 0), (.ref 541), .none, .none, .none, (.ref 542), (.int (897) 0), (.int (260) 0), (.str (Str.ofString "/claim/cut.py") 898)]), #[]⟩
noncomputable def k544 (P : Params) : Obj := ⟨(.type "function"), none, (.func { name := Str.ofString "expr", qualname := Str.ofString "Forcer.expr", params := fArgs (fM 33 1), body := .stmts (fBody (fM 33 1)), scope := fScope (fM 33 1), globals := 3, closure := [], defaults := .none, kwdefaults := .none, doc := .none, pyModule := (.str (Str.ofString "lazycore.strictness") 852), annotations := none, code := (.ref 543), closureTuple := .none, builtins := 0 }), #[]⟩
noncomputable def k548 (P : Params) : Obj := ⟨(.type "code"), none, (.fields #[(.str (Str.ofString "case") 900), (.str (Str.ofString "Forcer.case") 901), (.str (Str.ofString "/claim/cut.py") 902), (.int (275) 0), (.int (3) 0), (.int (0) 0), (.int (0) 0), (.int (3) 0), (.ref 545), (.bool true), (.int (181) 0), (.ref 546), .none, .none, .none, (.ref 547), (.int (903) 0), (.int (275) 0), (.str (Str.ofString "/claim/cut.py") 904)]), #[]⟩
noncomputable def k549 (P : Params) : Obj := ⟨(.type "function"), none, (.func { name := Str.ofString "case", qualname := Str.ofString "Forcer.case", params := fArgs (fM 33 2), body := .stmts (fBody (fM 33 2)), scope := fScope (fM 33 2), globals := 3, closure := [], defaults := .none, kwdefaults := .none, doc := .none, pyModule := (.str (Str.ofString "lazycore.strictness") 852), annotations := none, code := (.ref 548), closureTuple := .none, builtins := 0 }), #[]⟩
noncomputable def k553 (P : Params) : Obj := ⟨(.type "code"), none, (.fields #[(.str (Str.ofString "let") 906), (.str (Str.ofString "Forcer.let") 907), (.str (Str.ofString "/claim/cut.py") 908), (.int (280) 0), (.int (3) 0), (.int (0) 0), (.int (0) 0), (.int (3) 0), (.ref 550), (.bool true), (.int (181) 0), (.ref 551), .none, .none, .none, (.ref 552), (.int (909) 0), (.int (280) 0), (.str (Str.ofString "/claim/cut.py") 910)]), #[]⟩
noncomputable def k554 (P : Params) : Obj := ⟨(.type "function"), none, (.func { name := Str.ofString "let", qualname := Str.ofString "Forcer.let", params := fArgs (fM 33 3), body := .stmts (fBody (fM 33 3)), scope := fScope (fM 33 3), globals := 3, closure := [], defaults := .none, kwdefaults := .none, doc := .none, pyModule := (.str (Str.ofString "lazycore.strictness") 852), annotations := none, code := (.ref 553), closureTuple := .none, builtins := 0 }), #[]⟩
noncomputable def k558 (P : Params) : Obj := ⟨(.type "code"), none, (.fields #[(.str (Str.ofString "call") 912), (.str (Str.ofString "Forcer.call") 913), (.str (Str.ofString "/claim/cut.py") 914), (.int (290) 0), (.int (3) 0), (.int (0) 0), (.int (0) 0), (.int (3) 0), (.ref 555), (.bool true), (.int (181) 0), (.ref 556), .none, .none, .none, (.ref 557), (.int (915) 0), (.int (290) 0), (.str (Str.ofString "/claim/cut.py") 916)]), #[]⟩
noncomputable def k559 (P : Params) : Obj := ⟨(.type "function"), none, (.func { name := Str.ofString "call", qualname := Str.ofString "Forcer.call", params := fArgs (fM 33 4), body := .stmts (fBody (fM 33 4)), scope := fScope (fM 33 4), globals := 3, closure := [], defaults := .none, kwdefaults := .none, doc := .none, pyModule := (.str (Str.ofString "lazycore.strictness") 852), annotations := none, code := (.ref 558), closureTuple := .none, builtins := 0 }), #[]⟩
noncomputable def k561 (P : Params) : Obj := ⟨(.type "dict"), none, (.dict #[⟨PyData.keyHash P (Str.ofString "__module__"), (.str (Str.ofString "__module__") 881), (.str (Str.ofString "lazycore.strictness") 852)⟩, ⟨PyData.keyHash P (Str.ofString "__firstlineno__"), (.str (Str.ofString "__firstlineno__") 885), (.int (255) 884)⟩, ⟨PyData.keyHash P (Str.ofString "__init__"), (.str (Str.ofString "__init__") 893), (.ref 539)⟩, ⟨PyData.keyHash P (Str.ofString "expr"), (.str (Str.ofString "expr") 899), (.ref 544)⟩, ⟨PyData.keyHash P (Str.ofString "case"), (.str (Str.ofString "case") 905), (.ref 549)⟩, ⟨PyData.keyHash P (Str.ofString "let"), (.str (Str.ofString "let") 911), (.ref 554)⟩, ⟨PyData.keyHash P (Str.ofString "call"), (.str (Str.ofString "call") 917), (.ref 559)⟩, ⟨PyData.keyHash P (Str.ofString "__static_attributes__"), (.str (Str.ofString "__static_attributes__") 919), (.ref 560)⟩, ⟨PyData.keyHash P (Str.ofString "__dict__"), (.str (Str.ofString "__dict__") 921), (.ref 563)⟩, ⟨PyData.keyHash P (Str.ofString "__weakref__"), (.str (Str.ofString "__weakref__") 923), (.ref 564)⟩, ⟨PyData.keyHash P (Str.ofString "__doc__"), (.str (Str.ofString "__doc__") 924), .none⟩] 4), #[]⟩
noncomputable def k562 (P : Params) : Obj := ⟨(.type "type"), none, (.cls { name := Str.ofString "Forcer", bases := [(.type "object")], mro := [(.ref 562), (.type "object")], ns := 561, qualname := Str.ofString "Forcer", hasDict := true, slotNames := [], subclasses := [], abstract := false, collection := none, hasDel := false }), #[none, none, (some (.str (Str.ofString "Forcer") 874)), (some (.str (Str.ofString "Forcer") 882)), (some (.builtin "object.__new__")), (some (.bool true))]⟩
noncomputable def k570 (P : Params) : Obj := ⟨(.type "code"), none, (.fields #[(.str (Str.ofString "forced") 927), (.str (Str.ofString "forced") 928), (.str (Str.ofString "/claim/cut.py") 929), (.int (303) 0), (.int (2) 0), (.int (0) 0), (.int (0) 0), (.int (3) 0), (.ref 567), (.bool true), (.int (181) 0), (.ref 568), .none, .none, .none, (.ref 569), (.int (930) 0), (.int (303) 0), (.str (Str.ofString "/claim/cut.py") 931)]), #[]⟩
noncomputable def kg7 (P : Params) : Frag := [(539, k539 P), (543, k543 P), (544, k544 P), (548, k548 P), (549, k549 P), (553, k553 P), (554, k554 P), (558, k558 P), (559, k559 P), (561, k561 P), (562, k562 P), (570, k570 P)]
noncomputable def k571 (P : Params) : Obj := ⟨(.type "function"), none, (.func { name := Str.ofString "forced", qualname := Str.ofString "forced", params := fArgs (fA 34), body := .stmts (fBody (fA 34)), scope := fScope (fA 34), globals := 3, closure := [], defaults := .none, kwdefaults := .none, doc := .none, pyModule := (.str (Str.ofString "lazycore.strictness") 852), annotations := none, code := (.ref 570), closureTuple := .none, builtins := 0 }), #[]⟩
noncomputable def k577 (P : Params) : Obj := ⟨(.type "code"), none, (.fields #[(.str (Str.ofString "base_of") 935), (.str (Str.ofString "base_of") 936), (.str (Str.ofString "/claim/cut.py") 937), (.int (308) 0), (.int (1) 0), (.int (0) 0), (.int (0) 0), (.int (3) 0), (.ref 572), (.bool true), (.int (181) 0), (.ref 573), .none, (.ref 574), (.ref 575), (.ref 576), (.int (940) 0), (.int (308) 0), (.str (Str.ofString "/claim/cut.py") 941)]), #[]⟩
noncomputable def k578 (P : Params) : Obj := ⟨(.type "function"), none, (.func { name := Str.ofString "base_of", qualname := Str.ofString "base_of", params := fArgs (fA 36), body := .stmts (fBody (fA 36)), scope := fScope (fA 36), globals := 3, closure := [], defaults := .none, kwdefaults := .none, doc := .none, pyModule := (.str (Str.ofString "lazycore.fresh") 933), annotations := none, code := (.ref 577), closureTuple := .none, builtins := 0 }), #[]⟩
noncomputable def k587 (P : Params) : Obj := ⟨(.type "tuple"), none, (.seq #[(.ref 586)] 0), #[]⟩
noncomputable def k593 (P : Params) : Obj := ⟨(.type "code"), none, (.fields #[(.str (Str.ofString "__init__") 955), (.str (Str.ofString "Fresh.__init__") 956), (.str (Str.ofString "/claim/cut.py") 957), (.int (313) 0), (.int (2) 0), (.int (0) 0), (.int (0) 0), (.int (3) 0), (.ref 588), (.bool true), (.int (181) 0), (.ref 589), .none, (.ref 590), (.ref 591), (.ref 592), (.int (960) 0), (.int (313) 0), (.str (Str.ofString "/claim/cut.py") 961)]), #[]⟩
noncomputable def k594 (P : Params) : Obj := ⟨(.type "function"), none, (.func { name := Str.ofString "__init__", qualname := Str.ofString "Fresh.__init__", params := fArgs (fM 37 0), body := .stmts (fBody (fM 37 0)), scope := fScope (fM 37 0), globals := 3, closure := [], defaults := (.ref 587), kwdefaults := .none, doc := .none, pyModule := (.str (Str.ofString "lazycore.fresh") 933), annotations := none, code := (.ref 593), closureTuple := .none, builtins := 0 }), #[]⟩
noncomputable def k600 (P : Params) : Obj := ⟨(.type "code"), none, (.fields #[(.str (Str.ofString "avoid") 963), (.str (Str.ofString "Fresh.avoid") 964), (.str (Str.ofString "/claim/cut.py") 965), (.int (318) 0), (.int (2) 0), (.int (0) 0), (.int (0) 0), (.int (3) 0), (.ref 595), (.bool true), (.int (181) 0), (.ref 596), .none, (.ref 597), (.ref 598), (.ref 599), (.int (969) 0), (.int (318) 0), (.str (Str.ofString "/claim/cut.py") 970)]), #[]⟩
noncomputable def k601 (P : Params) : Obj := ⟨(.type "function"), none, (.func { name := Str.ofString "avoid", qualname := Str.ofString "Fresh.avoid", params := fArgs (fM 37 1), body := .stmts (fBody (fM 37 1)), scope := fScope (fM 37 1), globals := 3, closure := [], defaults := .none, kwdefaults := .none, doc := .none, pyModule := (.str (Str.ofString "lazycore.fresh") 933), annotations := none, code := (.ref 600), closureTuple := .none, builtins := 0 }), #[]⟩
noncomputable def k607 (P : Params) : Obj := ⟨(.type "code"), none, (.fields #[(.str (Str.ofString "next") 972), (.str (Str.ofString "Fresh.next") 973), (.str (Str.ofString "/claim/cut.py") 974), (.int (322) 0), (.int (2) 0), (.int (0) 0), (.int (0) 0), (.int (3) 0), (.ref 602), (.bool true), (.int (181) 0), (.ref 603), .none, (.ref 604), (.ref 605), (.ref 606), (.int (979) 0), (.int (322) 0), (.str (Str.ofString "/claim/cut.py") 980)]), #[]⟩
noncomputable def k608 (P : Params) : Obj := ⟨(.type "function"), none, (.func { name := Str.ofString "next", qualname := Str.ofString "Fresh.next", params := fArgs (fM 37 2), body := .stmts (fBody (fM 37 2)), scope := fScope (fM 37 2), globals := 3, closure := [], defaults := .none, kwdefaults := .none, doc := .none, pyModule := (.str (Str.ofString "lazycore.fresh") 933), annotations := none, code := (.ref 607), closureTuple := .none, builtins := 0 }), #[]⟩
noncomputable def k610 (P : Params) : Obj := ⟨(.type "dict"), none, (.dict #[⟨PyData.keyHash P (Str.ofString "__module__"), (.str (Str.ofString "__module__") 950), (.str (Str.ofString "lazycore.fresh") 933)⟩, ⟨PyData.keyHash P (Str.ofString "__firstlineno__"), (.str (Str.ofString "__firstlineno__") 954), (.int (311) 953)⟩, ⟨PyData.keyHash P (Str.ofString "__init__"), (.str (Str.ofString "__init__") 962), (.ref 594)⟩, ⟨PyData.keyHash P (Str.ofString "avoid"), (.str (Str.ofString "avoid") 971), (.ref 601)⟩, ⟨PyData.keyHash P (Str.ofString "next"), (.str (Str.ofString "next") 981), (.ref 608)⟩, ⟨PyData.keyHash P (Str.ofString "__static_attributes__"), (.str (Str.ofString "__static_attributes__") 984), (.ref 609)⟩, ⟨PyData.keyHash P (Str.ofString "__dict__"), (.str (Str.ofString "__dict__") 986), (.ref 612)⟩, ⟨PyData.keyHash P (Str.ofString "__weakref__"), (.str (Str.ofString "__weakref__") 988), (.ref 613)⟩, ⟨PyData.keyHash P (Str.ofString "__doc__"), (.str (Str.ofString "__doc__") 989), .none⟩] 4), #[]⟩
noncomputable def k611 (P : Params) : Obj := ⟨(.type "type"), none, (.cls { name := Str.ofString "Fresh", bases := [(.type "object")], mro := [(.ref 611), (.type "object")], ns := 610, qualname := Str.ofString "Fresh", hasDict := true, slotNames := [], subclasses := [], abstract := false, collection := none, hasDel := false }), #[none, none, (some (.str (Str.ofString "Fresh") 943)), (some (.str (Str.ofString "Fresh") 951)), (some (.builtin "object.__new__")), (some (.bool true))]⟩
noncomputable def kg8 (P : Params) : Frag := [(571, k571 P), (577, k577 P), (578, k578 P), (587, k587 P), (593, k593 P), (594, k594 P), (600, k600 P), (601, k601 P), (607, k607 P), (608, k608 P), (610, k610 P), (611, k611 P)]
noncomputable def k621 (P : Params) : Obj := ⟨(.type "code"), none, (.fields #[(.str (Str.ofString "_law_pool") 994), (.str (Str.ofString "_law_pool") 995), (.str (Str.ofString "/claim/cut.py") 996), (.int (330) 0), (.int (2) 0), (.int (0) 0), (.int (0) 0), (.int (3) 0), (.ref 616), (.bool true), (.int (181) 0), (.ref 617), .none, (.ref 618), (.ref 619), (.ref 620), (.int (1002) 0), (.int (330) 0), (.str (Str.ofString "/claim/cut.py") 1003)]), #[]⟩
noncomputable def k622 (P : Params) : Obj := ⟨(.type "function"), none, (.func { name := Str.ofString "_law_pool", qualname := Str.ofString "_law_pool", params := fArgs (fA 39), body := .stmts (fBody (fA 39)), scope := fScope (fA 39), globals := 3, closure := [], defaults := .none, kwdefaults := .none, doc := .none, pyModule := (.str (Str.ofString "law_np0239_01") 992), annotations := none, code := (.ref 621), closureTuple := .none, builtins := 0 }), #[]⟩
noncomputable def k628 (P : Params) : Obj := ⟨(.type "code"), none, (.fields #[(.str (Str.ofString "_law_take") 1005), (.str (Str.ofString "_law_take") 1006), (.str (Str.ofString "/claim/cut.py") 1007), (.int (337) 0), (.int (2) 0), (.int (0) 0), (.int (0) 0), (.int (3) 0), (.ref 623), (.bool true), (.int (181) 0), (.ref 624), .none, (.ref 625), (.ref 626), (.ref 627), (.int (1011) 0), (.int (337) 0), (.str (Str.ofString "/claim/cut.py") 1012)]), #[]⟩
noncomputable def k629 (P : Params) : Obj := ⟨(.type "function"), none, (.func { name := Str.ofString "_law_take", qualname := Str.ofString "_law_take", params := fArgs (fA 40), body := .stmts (fBody (fA 40)), scope := fScope (fA 40), globals := 3, closure := [], defaults := .none, kwdefaults := .none, doc := .none, pyModule := (.str (Str.ofString "law_np0239_01") 992), annotations := none, code := (.ref 628), closureTuple := .none, builtins := 0 }), #[]⟩
noncomputable def k635 (P : Params) : Obj := ⟨(.type "code"), none, (.fields #[(.str (Str.ofString "_law_one") 1014), (.str (Str.ofString "_law_one") 1015), (.str (Str.ofString "/claim/cut.py") 1016), (.int (344) 0), (.int (2) 0), (.int (0) 0), (.int (0) 0), (.int (3) 0), (.ref 630), (.bool true), (.int (181) 0), (.ref 631), .none, (.ref 632), (.ref 633), (.ref 634), (.int (1019) 0), (.int (344) 0), (.str (Str.ofString "/claim/cut.py") 1020)]), #[]⟩
noncomputable def k636 (P : Params) : Obj := ⟨(.type "function"), none, (.func { name := Str.ofString "_law_one", qualname := Str.ofString "_law_one", params := fArgs (fA 41), body := .stmts (fBody (fA 41)), scope := fScope (fA 41), globals := 3, closure := [], defaults := .none, kwdefaults := .none, doc := .none, pyModule := (.str (Str.ofString "law_np0239_01") 992), annotations := none, code := (.ref 635), closureTuple := .none, builtins := 0 }), #[]⟩
noncomputable def k642 (P : Params) : Obj := ⟨(.type "code"), none, (.fields #[(.str (Str.ofString "_law_new") 1022), (.str (Str.ofString "_law_new") 1023), (.str (Str.ofString "/claim/cut.py") 1024), (.int (346) 0), (.int (2) 0), (.int (0) 0), (.int (0) 0), (.int (3) 0), (.ref 637), (.bool true), (.int (181) 0), (.ref 638), .none, (.ref 639), (.ref 640), (.ref 641), (.int (1027) 0), (.int (346) 0), (.str (Str.ofString "/claim/cut.py") 1028)]), #[]⟩
noncomputable def k643 (P : Params) : Obj := ⟨(.type "function"), none, (.func { name := Str.ofString "_law_new", qualname := Str.ofString "_law_new", params := fArgs (fA 42), body := .stmts (fBody (fA 42)), scope := fScope (fA 42), globals := 3, closure := [], defaults := .none, kwdefaults := .none, doc := .none, pyModule := (.str (Str.ofString "law_np0239_01") 992), annotations := none, code := (.ref 642), closureTuple := .none, builtins := 0 }), #[]⟩
noncomputable def k647 (P : Params) : Obj := ⟨(.type "code"), none, (.fields #[(.str (Str.ofString "_law_expr") 1030), (.str (Str.ofString "_law_expr") 1031), (.str (Str.ofString "/claim/cut.py") 1032), (.int (349) 0), (.int (5) 0), (.int (0) 0), (.int (0) 0), (.int (3) 0), (.ref 644), (.bool true), (.int (181) 0), (.ref 645), .none, .none, .none, (.ref 646), (.int (1033) 0), (.int (349) 0), (.str (Str.ofString "/claim/cut.py") 1034)]), #[]⟩
noncomputable def k648 (P : Params) : Obj := ⟨(.type "function"), none, (.func { name := Str.ofString "_law_expr", qualname := Str.ofString "_law_expr", params := fArgs (fA 43), body := .stmts (fBody (fA 43)), scope := fScope (fA 43), globals := 3, closure := [], defaults := .none, kwdefaults := .none, doc := .none, pyModule := (.str (Str.ofString "law_np0239_01") 992), annotations := none, code := (.ref 647), closureTuple := .none, builtins := 0 }), #[]⟩
noncomputable def k652 (P : Params) : Obj := ⟨(.type "code"), none, (.fields #[(.str (Str.ofString "_law_program") 1036), (.str (Str.ofString "_law_program") 1037), (.str (Str.ofString "/claim/cut.py") 1038), (.int (368) 0), (.int (2) 0), (.int (0) 0), (.int (0) 0), (.int (3) 0), (.ref 649), (.bool true), (.int (181) 0), (.ref 650), .none, .none, .none, (.ref 651), (.int (1039) 0), (.int (368) 0), (.str (Str.ofString "/claim/cut.py") 1040)]), #[]⟩
noncomputable def k653 (P : Params) : Obj := ⟨(.type "function"), none, (.func { name := Str.ofString "_law_program", qualname := Str.ofString "_law_program", params := fArgs (fA 44), body := .stmts (fBody (fA 44)), scope := fScope (fA 44), globals := 3, closure := [], defaults := .none, kwdefaults := .none, doc := .none, pyModule := (.str (Str.ofString "law_np0239_01") 992), annotations := none, code := (.ref 652), closureTuple := .none, builtins := 0 }), #[]⟩
noncomputable def kg9 (P : Params) : Frag := [(621, k621 P), (622, k622 P), (628, k628 P), (629, k629 P), (635, k635 P), (636, k636 P), (642, k642 P), (643, k643 P), (647, k647 P), (648, k648 P), (652, k652 P), (653, k653 P)]
noncomputable def k657 (P : Params) : Obj := ⟨(.type "code"), none, (.fields #[(.str (Str.ofString "_law_value") 1042), (.str (Str.ofString "_law_value") 1043), (.str (Str.ofString "/claim/cut.py") 1044), (.int (382) 0), (.int (4) 0), (.int (0) 0), (.int (0) 0), (.int (3) 0), (.ref 654), (.bool true), (.int (181) 0), (.ref 655), .none, .none, .none, (.ref 656), (.int (1045) 0), (.int (382) 0), (.str (Str.ofString "/claim/cut.py") 1046)]), #[]⟩
noncomputable def k658 (P : Params) : Obj := ⟨(.type "function"), none, (.func { name := Str.ofString "_law_value", qualname := Str.ofString "_law_value", params := fArgs (fA 45), body := .stmts (fBody (fA 45)), scope := fScope (fA 45), globals := 3, closure := [], defaults := .none, kwdefaults := .none, doc := .none, pyModule := (.str (Str.ofString "law_np0239_01") 992), annotations := none, code := (.ref 657), closureTuple := .none, builtins := 0 }), #[]⟩
noncomputable def k664 (P : Params) : Obj := ⟨(.type "code"), none, (.fields #[(.str (Str.ofString "_law_with") 1048), (.str (Str.ofString "_law_with") 1049), (.str (Str.ofString "/claim/cut.py") 1050), (.int (415) 0), (.int (3) 0), (.int (0) 0), (.int (0) 0), (.int (3) 0), (.ref 659), (.bool true), (.int (181) 0), (.ref 660), .none, (.ref 661), (.ref 662), (.ref 663), (.int (1055) 0), (.int (415) 0), (.str (Str.ofString "/claim/cut.py") 1056)]), #[]⟩
noncomputable def k665 (P : Params) : Obj := ⟨(.type "function"), none, (.func { name := Str.ofString "_law_with", qualname := Str.ofString "_law_with", params := fArgs (fA 46), body := .stmts (fBody (fA 46)), scope := fScope (fA 46), globals := 3, closure := [], defaults := .none, kwdefaults := .none, doc := .none, pyModule := (.str (Str.ofString "law_np0239_01") 992), annotations := none, code := (.ref 664), closureTuple := .none, builtins := 0 }), #[]⟩
noncomputable def k671 (P : Params) : Obj := ⟨(.type "code"), none, (.fields #[(.str (Str.ofString "_law_plainly") 1058), (.str (Str.ofString "_law_plainly") 1059), (.str (Str.ofString "/claim/cut.py") 1060), (.int (419) 0), (.int (1) 0), (.int (0) 0), (.int (0) 0), (.int (3) 0), (.ref 666), (.bool true), (.int (181) 0), (.ref 667), .none, (.ref 668), (.ref 669), (.ref 670), (.int (1062) 0), (.int (419) 0), (.str (Str.ofString "/claim/cut.py") 1063)]), #[]⟩
noncomputable def k672 (P : Params) : Obj := ⟨(.type "function"), none, (.func { name := Str.ofString "_law_plainly", qualname := Str.ofString "_law_plainly", params := fArgs (fA 47), body := .stmts (fBody (fA 47)), scope := fScope (fA 47), globals := 3, closure := [], defaults := .none, kwdefaults := .none, doc := .none, pyModule := (.str (Str.ofString "law_np0239_01") 992), annotations := none, code := (.ref 671), closureTuple := .none, builtins := 0 }), #[]⟩
noncomputable def k676 (P : Params) : Obj := ⟨(.type "code"), none, (.fields #[(.str (Str.ofString "_law_told_right") 1065), (.str (Str.ofString "_law_told_right") 1066), (.str (Str.ofString "/claim/cut.py") 1067), (.int (427) 0), (.int (3) 0), (.int (0) 0), (.int (0) 0), (.int (3) 0), (.ref 673), (.bool true), (.int (181) 0), (.ref 674), .none, .none, .none, (.ref 675), (.int (1068) 0), (.int (427) 0), (.str (Str.ofString "/claim/cut.py") 1069)]), #[]⟩
noncomputable def k677 (P : Params) : Obj := ⟨(.type "function"), none, (.func { name := Str.ofString "_law_told_right", qualname := Str.ofString "_law_told_right", params := fArgs (fA 48), body := .stmts (fBody (fA 48)), scope := fScope (fA 48), globals := 3, closure := [], defaults := .none, kwdefaults := .none, doc := .none, pyModule := (.str (Str.ofString "law_np0239_01") 992), annotations := none, code := (.ref 676), closureTuple := .none, builtins := 0 }), #[]⟩
noncomputable def k683 (P : Params) : Obj := ⟨(.type "code"), none, (.fields #[(.str (Str.ofString "law") 1071), (.str (Str.ofString "law") 1072), (.str (Str.ofString "/claim/cut.py") 1073), (.int (442) 0), (.int (1) 0), (.int (0) 0), (.int (0) 0), (.int (3) 0), (.ref 678), (.bool true), (.int (181) 0), (.ref 679), .none, (.ref 680), (.ref 681), (.ref 682), (.int (1084) 0), (.int (442) 0), (.str (Str.ofString "/claim/cut.py") 1085)]), #[]⟩
noncomputable def k684 (P : Params) : Obj := ⟨(.type "function"), none, (.func { name := Str.ofString "law", qualname := Str.ofString "law", params := fArgs (fA 49), body := .stmts (fBody (fA 49)), scope := fScope (fA 49), globals := 3, closure := [], defaults := .none, kwdefaults := .none, doc := .none, pyModule := (.str (Str.ofString "law_np0239_01") 992), annotations := none, code := (.ref 683), closureTuple := .none, builtins := 0 }), #[]⟩
noncomputable def kg10 (P : Params) : Frag := [(657, k657 P), (658, k658 P), (664, k664 P), (665, k665 P), (671, k671 P), (672, k672 P), (676, k676 P), (677, k677 P), (683, k683 P), (684, k684 P)]
noncomputable def K (P : Params) : Frag := kg0 P ++ kg1 P ++ kg2 P ++ kg3 P ++ kg4 P ++ kg5 P ++ kg6 P ++ kg7 P ++ kg8 P ++ kg9 P ++ kg10 P
noncomputable def KA : List Addr := [3, 34, 35, 58, 59, 76, 77, 100, 101, 118, 119, 140, 141, 158, 159, 182, 183, 200, 201, 220, 221, 238, 239, 241, 242, 259, 260, 281, 282, 299, 300, 321, 322, 339, 340, 361, 362, 379, 380, 382, 383, 400, 401, 407, 408, 410, 411, 421, 422, 428, 429, 433, 434, 438, 439, 445, 446, 452, 453, 459, 460, 466, 467, 473, 474, 478, 479, 483, 484, 488, 489, 493, 494, 498, 499, 505, 506, 512, 513, 517, 518, 524, 525, 538, 539, 543, 544, 548, 549, 553, 554, 558, 559, 561, 562, 570, 571, 577, 578, 587, 593, 594, 600, 601, 607, 608, 610, 611, 621, 622, 628, 629, 635, 636, 642, 643, 647, 648, 652, 653, 657, 658, 664, 665, 671, 672, 676, 677, 683, 684]
abbrev Pw : Program := pw_np0239_01
noncomputable def btOf : List Obj → BT → Nat → BT
  | [], t, _ => t
  | o :: r, t, i => btOf r (t.ins i o) (i + 1)
noncomputable def obj13 : Obj := { cls := Value.type "code", data := Data.fields #[Value.str (Str.ofString "<module>") 182, Value.str (Str.ofString "<module>") 183, Value.str (Str.ofString "/claim/cut.py") 184, Value.int 1 0, Value.int 0 0, Value.int 0 0, Value.int 0 0, Value.int 0 0, Value.ref 11, Value.bool false, Value.int 181 0, Value.ref 12, Value.none, Value.none, Value.none, Value.none, Value.int 185 0, Value.int 1 0, Value.str (Str.ofString "/claim/cut.py") 186] }
noncomputable def obj14 : Obj := { cls := Value.type "frame", slots := #[some (Value.ref 13), some (Value.ref 3), some (Value.ref 3), none, some (Value.str (Str.ofString "__main__") 164), none, some (Value.ref 0)] }
noncomputable def objsB (P : Params) : List Obj := (boot_heap P).objs.toList ++ [{ cls := Value.type "tuple", data := Data.seq #[] }, { cls := Value.none, data := Data.fields #[] }, obj13, obj14]
noncomputable def benv : Env := { scope := pw_np0239_01.main.scope, locals := mainNs, globals := mainNs, cells := [], code := .ref 13, frame := some 14 }
noncomputable def bcode : Code := .body (behindTheImports pw_np0239_01) benv
noncomputable def p0 : Pos := ⟨0, 0, 0, 0⟩
noncomputable def p1 : Pos := ⟨442, 0, 457, 15⟩
noncomputable def annV : Option Value := some (.ref 6)
noncomputable def sB (w : World) (os : OsState) : SharedT := ⟨btOf (objsB w.params) .nil 0, 15, {}, #[], {}, 187, os⟩
noncomputable def s0 (w : World) (os : OsState) : Shared := ⟨boot_heap w.params, #[], boot_drawn, boot_toks, os⟩
noncomputable def qv : Program := view pw_np0239_01 [49]
noncomputable def lo : List Str := pw_np0239_01.boundNames.filter fun n => !(n == Str.ofString "law")
noncomputable def Xt : Shared → Bool := fun s => xlAt qv [] s && recOk [] s
noncomputable def lookL (w : World) (s : Shared) :=
  (staticsOk (importedModules pw_np0239_01.main.body) (boot_heap w.params) s.heap && namesBound pw_np0239_01 s.heap && gensDone s && laidKept (boot_heap w.params) s.heap,
    openSeen qv lo (importedModules pw_np0239_01.main.body) Xt true s, KA.map s.heap.get?)
noncomputable def runL (w : World) (os : OsState) :=
  (segRunT treeTable pw_np0239_01 w 11 annV 1 6000 (sB w os) (piecesOf (behindTheImports pw_np0239_01) benv bcode p0 [topFrame p0])).map fun r => (r.1, r.2.2.1, r.2.2.2, lookL w r.2.1.abs)
noncomputable def goodL (w : World) :=
  some (Flow.next, bcode, p1, true, openGood qv lo, (K w.params).map fun p => some p.2)
noncomputable def preL (w : World) (os : OsState) := topGo treeTable pw_np0239_01 w 11 annV 12 (s0 w os) (topStub pw_np0239_01)
noncomputable def preR (w : World) (os : OsState) : Option (Shared × Thread) := some ((sB w os).abs, ⟨denote treeTable bcode, bcode, p0, [topFrame p0]⟩)
noncomputable def blkL (w : World) (os : OsState) := segRun treeTable pw_np0239_01 w 11 annV 1 1 (sB w os).abs (blockOf (behindTheImports pw_np0239_01) benv bcode p0 [topFrame p0])
noncomputable def blkR (w : World) (os : OsState) : Option (Flow × Shared × Code × Pos) := some (.next, (sB w os).abs, bcode, p0)

end Mine
end
section
open PySem PySem.W PyProof.Rows PySem.Calls
set_option maxRecDepth 100000
set_option maxHeartbeats 4000000
set_option maxHeartbeats 0
namespace Mine
open Challenge
theorem run_ok : ∀ (w : World) (os : OsState), runL w os = goodL w := by
  intro w os
  kernel_rfl
theorem pre_ok : ∀ (w : World) (os : OsState), preL w os = preR w os := by
  intro w os
  kernel_rfl
theorem blk_ok : ∀ (w : World) (os : OsState), blkL w os = blkR w os := fun w os => by kernel_rfl
theorem size_ok : ∀ w : World, ((boot_heap w.params).isNs mainGlobals && (#[] : Array GenState).size == 0, (boot_heap w.params).objs.size, (boot_heap w.params).nsMap mainGlobals "__annotations__") = (true, 11, annV) := fun w => by kernel_rfl
theorem open_ok : ∀ w : World, (fencedOpening treeTable Pw w 9824).map (fun s => (s.heap, s.gens, s.drawn, s.toks)) = some (boot_heap w.params, Array.mk [], boot_drawn, boot_toks) :=
  boot_open (p := pw_np0239_01) (N := 9824) (by kernel_rfl) (by decide) fun s => by kernel_rfl
theorem left_gen {p q : Program} {loose : List Str} {Xt : Shared → Bool} {α : Type} {Yf : Shared → α} {Ya : World → α} {N : Nat} {g0 : Bool} {H₀ : Params → Heap} {gs₀ : Array GenState} {d₀ : Drawn} {k₀ : Nat} {m₀ : Nat} {ann : Option Value} {M : Nat}
    (open_ : ∀ w : World, (fencedOpening treeTable p w N).map (fun s => (s.heap, s.gens, s.drawn, s.toks)) = some (H₀ w.params, gs₀, d₀, k₀))
    (size : ∀ w : World, ((H₀ w.params).isNs mainGlobals && gs₀.size == 0, (H₀ w.params).objs.size, (H₀ w.params).nsMap mainGlobals "__annotations__") = (true, m₀, ann))
    (run : ∀ (w : World) (os : OsState), ∃ s₁, topRun treeTable p w m₀ ann M ⟨H₀ w.params, gs₀, d₀, k₀, os⟩ (topStub p) = some s₁ ∧
      (staticsOk (importedModules p.main.body) (H₀ w.params) s₁.heap && namesBound p s₁.heap && gensDone s₁ && laidKept (H₀ w.params) s₁.heap) = true ∧ openSeen q loose (importedModules p.main.body) Xt g0 s₁ = openGood q loose ∧ Yf s₁ = Ya w) (le : Nat.ble M N = true) : LeftO p q loose Xt Yf Ya N g0 := fun w => by
  obtain ⟨⟨h, gs, d, k, os⟩, e, e'⟩ := Option.map_eq_some_iff.mp (open_ w)
  obtain ⟨rfl, rfl, rfl, rfl⟩ : h = H₀ w.params ∧ gs = gs₀ ∧ d = d₀ ∧ k = k₀ := by simpa using e'
  obtain ⟨z1, z2, z3⟩ : _ ∧ _ ∧ _ := by simpa only [Prod.mk.injEq] using size w
  obtain ⟨s₁, r, l1, l2, l3⟩ := run w os
  have r := topRun_mono (N - M) _ _ _ _ r
  rw [show M + (N - M) = N by have := Nat.le_of_ble_eq_true le; omega] at r
  have t : topFrom treeTable p w N ⟨H₀ w.params, gs, d, k, os⟩ = some s₁ := by
    unfold topFrom
    dsimp only
    rw [z1, z2, z3, r]
    show (match staticsOk (importedModules p.main.body) (H₀ w.params) s₁.heap && namesBound p s₁.heap && gensDone s₁ && laidKept (H₀ w.params) s₁.heap with | true => _ | false => _) = _
    rw [l1]
  unfold openEnds
  rw [e]
  show (topFrom treeTable p w N _).map _ = _
  rw [t]
  exact congrArg some (Prod.ext l2 l3)
theorem fin_gen {tb : String → Option Builtin} {p : Program} {w : World} {n : Nat} {ann : Option Value} {s : Shared} {c : Code} {pos q : Pos} : topRun tb p w n ann 2 s ⟨doneF .next, c, pos, [topFrame q]⟩ = some s := rfl
theorem run_gen {p : Program} {w : World} {m₀ : Nat} {ann : Option Value} {env : Env} {b : List Stmt} {n k : Nat} {S : Shared} {T : SharedT} {t : Thread} {c : Code} {pos pos' q : Pos} {γ : Type} {look : Shared → γ} {g : γ}
    (hb : denote treeTable c = denote treeTable (.body b env))
    (h : (segRunT treeTable p w m₀ ann 1 n T (piecesOf b env c pos [topFrame q])).map (fun r => (r.1, r.2.2.1, r.2.2.2, look r.2.1.abs)) = some (Flow.next, c, pos', g))
    (hblk : segRun treeTable p w m₀ ann 1 1 T.abs (blockOf b env c pos [topFrame q]) = some (.next, T.abs, c, pos))
    (hpre : topGo treeTable p w m₀ ann k S t = some (T.abs, ⟨denote treeTable c, c, pos, [topFrame q]⟩)) :
    ∃ s₁, topRun treeTable p w m₀ ann (k + (1 + (n + 2))) S t = some s₁ ∧ look s₁ = g := by
  obtain ⟨⟨fl, sT, c', p'⟩, hs, hl⟩ := Option.map_eq_some_iff.mp h
  have e1 := congrArg Prod.fst hl
  have e2 := congrArg (fun x => x.2.1) hl
  have e3 := congrArg (fun x => x.2.2.1) hl
  have e4 := congrArg (fun x => x.2.2.2) hl
  dsimp only at e1 e2 e3 e4
  subst e1 e2 e3
  have r1 : topRun treeTable p w m₀ ann (n + 2) T.abs (restOf (b ++ []) env c' pos [topFrame q]) = some sT.abs := piece_app (segRun_of hs) (piece_nil fin_gen)
  rw [List.append_nil] at r1
  have r2 := piece_block hblk r1
  rw [← hb] at r2
  exact ⟨_, go_top hpre r2, e4⟩
theorem left_ok : LeftO Pw qv lo Xt (fun s => KA.map s.heap.get?) (fun w => (K w.params).map fun p => some p.2) 9824 :=
  left_gen (M := 12 + (1 + (6000 + 2))) open_ok size_ok (fun w os => by
    obtain ⟨s₁, r, e⟩ := run_gen (look := lookL w) rfl (run_ok w os) (blk_ok w os) (pre_ok w os)
    exact ⟨s₁, r, congrArg Prod.fst e, congrArg (fun x => x.2.1) e, congrArg (fun x => x.2.2) e⟩) rfl
theorem KA_ok : ∀ P, KA = (K P).map (·.1) := fun P => by kernel_rfl
noncomputable def fPos : Stmt → Pos
  | .FunctionDef _ _ _ _ _ _ _ _ _ p => p
  | _ => p0
noncomputable def dLaw : DefRec := ⟨Str.ofString "law", fArgs (fA 49), fBody (fA 49), fScope (fA 49), fPos (fA 49)⟩
noncomputable def YfL (s : Shared) : List (Option Obj) := KA.map s.heap.get?
noncomputable def YaL (w : World) : List (Option Obj) := (K w.params).map fun p => some p.2
theorem ints_len : ∀ {vs : List Value} {ns : List Int}, IntsAre vs ns → vs.length = ns.length
  | _, _, .nil => rfl
  | _, _, .cons _ _ h => congrArg Nat.succ (ints_len h)
theorem said_ok : PySem.W.OpenLaw.wellSaid rw_np0239_01 = true := by kernel_rfl
theorem law_holds (core : ∀ (w : World) (s₁ : Shared) (mg mb : Str → Option Value) (loose : List Str) (mean : ExcName → Option Value) (l : Addr) (vs : List Value) (ns : List Int),
    (K w.params).In s₁.heap → Top qv loose mean mg mb s₁.heap → s₁.heap.IsList l vs.toArray → IntsAre vs ns → vs.length < 2 ^ 62 →
    wpAny (model Pw w) callerA (PySem.call (.ref 684) [.ref l]) (fun v s' => v = .bool true ∧ (∀ b o, s₁.heap.get? b = some o → s'.heap.get? b = some o) ∧ s'.os = s₁.os ∧ s'.gens = s₁.gens) (fun _ _ => False) s₁) :
    rw_np0239_01.Holds := by
  w_on
  refine holds_law said_ok fun said => ?_
  refine PySem.W.holds_open (r := rw_np0239_01.row) (d := dLaw) (kwd := []) (α := List (Option Obj)) (q := qv) (loose := lo) (Xt := Xt) (XP := XL qv []) (Yf := YfL) (Ya := YaL) (YP := fun w h => (K w.params).In h) (N := 9824) (show LeftO rw_np0239_01.row.prog qv lo Xt YfL YaL 9824 from left_ok)
    (fun w s e => Frag.in_of (KA_ok _) e) (fun w h h' x k => x.keeps k) (fun s e => xl_of s (Bool.and_eq_true_iff.mp e).1) XL.keeps (by kernel_rfl) (by kernel_rfl) (by kernel_rfl) (fun s e => recFacts_of (Bool.and_eq_true_iff.mp e).2) (by rfl) (by assumption) (by decide +kernel) ⟨rfl, rfl, rfl, rfl, rfl, by decide +kernel⟩ ?hw ?walk
  case hw => w_witness2
  intro w s₀ s₁ mg mb G Y a o pm cd doc dV kV ho hd hcd hD hmg hg args vals as hpre hlay hrd hwl hlo
  have T := G.T
  wrow_args hpre hlay hrd hwl hlo
  rename_i hL _ _ _ hI _ hcnd _
  have ha : a = 684 := by
    have := mg_of (n := Str.ofString "law") (v := .ref 684) Y T.g (by kernel_rfl)
    have h2 := hmg.symm.trans this
    exact Value.ref.inj (Option.some.inj h2)
  subst ha
  refine wpAny_mono (core w s₁ mg mb _ _ _ _ _ Y T hL hI (by have := ints_len hI; omega)) (fun v s' q => ?_) fun _ _ h => h.elim
  obtain ⟨rfl, hk, hos, hgs⟩ := q
  refine ⟨.inl ⟨_, .bool true, [], rfl, fun _ => rfl, .bool true, ?_, unshared_nil⟩, .of_keep hk, hos, .of_eq (hgs.trans hg)⟩
  first | (wrow_post; done) | exact postW_of rfl (w_eq_bool (w_res rfl) w_lit) | (refine postW_of rfl ?_; exact (w_eq_bool (w_res rfl) w_lit).trans (by rfl))
end Mine
end
section
open PySem PySem.W PyProof.Rows PySem.Calls
set_option maxRecDepth 100000
set_option maxHeartbeats 4000000
namespace Mine
/-! several at once: one step to open, one to close -/
inductive Ex2 {T0 T1 : Type} (p : T0 → T1 → Prop) : Prop
  | mk : ∀ x0 x1, p x0 x1 → Ex2 p
inductive Ex3 {T0 T1 T2 : Type} (p : T0 → T1 → T2 → Prop) : Prop
  | mk : ∀ x0 x1 x2, p x0 x1 x2 → Ex3 p
inductive Ex4 {T0 T1 T2 T3 : Type} (p : T0 → T1 → T2 → T3 → Prop) : Prop
  | mk : ∀ x0 x1 x2 x3, p x0 x1 x2 x3 → Ex4 p
inductive Ex5 {T0 T1 T2 T3 T4 : Type} (p : T0 → T1 → T2 → T3 → T4 → Prop) : Prop
  | mk : ∀ x0 x1 x2 x3 x4, p x0 x1 x2 x3 x4 → Ex5 p
inductive Ex6 {T0 T1 T2 T3 T4 T5 : Type} (p : T0 → T1 → T2 → T3 → T4 → T5 → Prop) : Prop
  | mk : ∀ x0 x1 x2 x3 x4 x5, p x0 x1 x2 x3 x4 x5 → Ex6 p
inductive Ex15 {T0 T1 T2 T3 T4 T5 T6 T7 T8 T9 T10 T11 T12 T13 T14 : Type} (p : T0 → T1 → T2 → T3 → T4 → T5 → T6 → T7 → T8 → T9 → T10 → T11 → T12 → T13 → T14 → Prop) : Prop
  | mk : ∀ x0 x1 x2 x3 x4 x5 x6 x7 x8 x9 x10 x11 x12 x13 x14, p x0 x1 x2 x3 x4 x5 x6 x7 x8 x9 x10 x11 x12 x13 x14 → Ex15 p
inductive And3 (p0 p1 p2 : Prop) : Prop
  | mk : p0 → p1 → p2 → And3 p0 p1 p2
inductive And4 (p0 p1 p2 p3 : Prop) : Prop
  | mk : p0 → p1 → p2 → p3 → And4 p0 p1 p2 p3
inductive And5 (p0 p1 p2 p3 p4 : Prop) : Prop
  | mk : p0 → p1 → p2 → p3 → p4 → And5 p0 p1 p2 p3 p4
inductive And6 (p0 p1 p2 p3 p4 p5 : Prop) : Prop
  | mk : p0 → p1 → p2 → p3 → p4 → p5 → And6 p0 p1 p2 p3 p4 p5
inductive And7 (p0 p1 p2 p3 p4 p5 p6 : Prop) : Prop
  | mk : p0 → p1 → p2 → p3 → p4 → p5 → p6 → And7 p0 p1 p2 p3 p4 p5 p6
inductive And8 (p0 p1 p2 p3 p4 p5 p6 p7 : Prop) : Prop
  | mk : p0 → p1 → p2 → p3 → p4 → p5 → p6 → p7 → And8 p0 p1 p2 p3 p4 p5 p6 p7
inductive And9 (p0 p1 p2 p3 p4 p5 p6 p7 p8 : Prop) : Prop
  | mk : p0 → p1 → p2 → p3 → p4 → p5 → p6 → p7 → p8 → And9 p0 p1 p2 p3 p4 p5 p6 p7 p8
inductive And11 (p0 p1 p2 p3 p4 p5 p6 p7 p8 p9 p10 : Prop) : Prop
  | mk : p0 → p1 → p2 → p3 → p4 → p5 → p6 → p7 → p8 → p9 → p10 → And11 p0 p1 p2 p3 p4 p5 p6 p7 p8 p9 p10
/-! ### the ghost layer -/
abbrev PM := Addr → Option Obj
abbrev LM := Str → Option Value
/-- the world, the state at the law's call, the heap that is kept throughout -/
structure Wd where
  w : World
  s : Shared
  b : Heap
noncomputable def St (D : Wd) (h : Heap) (tk : Nat) : Shared := { D.s with heap := h, toks := tk }
/-- G: what stays as it is from here on; C: what may be written -/
structure Ok (D : Wd) (G C : PM) (h : Heap) : Prop where
  x : (K D.w.params).In D.b
  t : ∃ lo me mg mb, Top qv lo me mg mb D.b
  z : ∀ h' : Heap, (∀ a o, D.b.get? a = some o → h'.get? a = some o) → D.b.objs.size ≤ h'.objs.size
  gb : ∀ a o, D.b.get? a = some o → G a = some o
  g : ∀ a o, G a = some o → h.get? a = some o
  c : ∀ a o, C a = some o → h.get? a = some o
  gc : ∀ a o, C a = some o → G a = none
structure Ext (G C : PM) (h : Heap) (G' C' : PM) (h' : Heap) : Prop where
  gs : ∀ a o, h.get? a = some o → G' a = G a
  cs : ∀ a o, h.get? a = some o → (C' a = none ↔ C a = none)
  keep : ∀ a o, h.get? a = some o → C a = none → h'.get? a = some o
/-- the same, but for the frame's own names -/
structure ExtL (L : Addr) (G C : PM) (h : Heap) (G' C' : PM) (h' : Heap) : Prop where
  gs : ∀ a o, a ≠ L → h.get? a = some o → G' a = G a
  cs : ∀ a o, a ≠ L → h.get? a = some o → (C' a = none ↔ C a = none)
  keep : ∀ a o, a ≠ L → h.get? a = some o → C a = none → h'.get? a = some o
structure Fn where
  h : Heap
  G : PM
  C : PM
  L : Addr
structure Cx (D : Wd) (F : Fn) (G C : PM) (m : LM) (h : Heap) : Prop where
  ok : Ok D G C h
  ext : ExtL F.L F.G F.C F.h G C h
  ns : h.Ns F.L m
  lg : G F.L = none
  lc : C F.L = none
  lg0 : F.G F.L = none
  lc0 : F.C F.L = none
  lb : D.b.objs.size ≤ F.L
  ok0 : Ok D F.G F.C F.h
noncomputable def GLe (G G' : PM) : Prop := ∀ a o, G a = some o → G' a = some o
theorem GLe.rfl {G : PM} : GLe G G := fun _ _ e => e
theorem GLe.trans {G G' G'' : PM} (x : GLe G G') (y : GLe G' G'') : GLe G G'' := fun a o e => y a o (x a o e)
noncomputable def up {α : Type} (f : Nat → Option α) (a : Nat) (o : α) : Nat → Option α := fun x => if x = a then some o else f x
noncomputable def rm {α : Type} (f : Nat → Option α) (a : Nat) : Nat → Option α := fun x => if x = a then none else f x
noncomputable def upS (m : LM) (a : Str) (v : Value) : LM := fun x => if x = a then some v else m x
theorem up_self {α : Type} {f : Nat → Option α} {a : Nat} {o : α} : up f a o a = some o := if_pos rfl
theorem up_ne {α : Type} {f : Nat → Option α} {a b : Nat} {o : α} (h : b ≠ a) : up f a o b = f b := if_neg h
theorem rm_self {α : Type} {f : Nat → Option α} {a : Nat} : rm f a a = none := if_pos rfl
theorem rm_ne {α : Type} {f : Nat → Option α} {a b : Nat} (h : b ≠ a) : rm f a b = f b := if_neg h
theorem GLe.up {G : PM} {a : Addr} {o : Obj} (h : G a = none) : GLe G (up G a o) := fun x q e => by
  by_cases hx : x = a
  · subst hx; rw [h] at e; cases e
  · rw [up_ne hx]; exact e
theorem get_size (h : Heap) : h.get? h.objs.size = none := by
  cases q : h.get? h.objs.size with
  | none => rfl
  | some x => exact absurd (Heap.lt_size q) (Nat.lt_irrefl _)
section
variable {D : Wd} {F : Fn} {G C G' C' : PM} {m : LM} {h h' : Heap}
theorem Ok.cg (k : Ok D G C h) {a : Addr} {o : Obj} (e : G a = some o) : C a = none := by
  cases q : C a with
  | none => rfl
  | some x => rw [k.gc a x q] at e; cases e
theorem Ok.fresh_g (k : Ok D G C h) {a : Addr} (ha : h.get? a = none) : G a = none := by
  cases q : G a with
  | none => rfl
  | some x => rw [k.g a x q] at ha; cases ha
theorem Ok.fresh_c (k : Ok D G C h) {a : Addr} (ha : h.get? a = none) : C a = none := by
  cases q : C a with
  | none => rfl
  | some x => rw [k.c a x q] at ha; cases ha
theorem Ok.base (k : Ok D G C h) : ∀ a o, D.b.get? a = some o → h.get? a = some o := fun a o e => k.g a o (k.gb a o e)
theorem Ok.K (k : Ok D G C h) : (K D.w.params).In h := k.x.keeps k.base
theorem Ok.nolimit (k : Ok D G C h) : h.NoLimit := by
  obtain ⟨_, _, _, _, T⟩ := k.t
  exact T.nolimit.keeps k.base
theorem Ext.refl : Ext G C h G C h := ⟨fun _ _ _ => rfl, fun _ _ _ => Iff.rfl, fun _ _ e _ => e⟩
theorem Ext.alive (x : Ext G C h G' C' h') (k : Ok D G' C' h') {a : Addr} {o : Obj} (e : h.get? a = some o) : ∃ o', h'.get? a = some o' := by
  cases q : C a with
  | none => exact ⟨o, x.keep a o e q⟩
  | some y =>
    cases q' : C' a with
    | none => rw [(x.cs a o e).mp q'] at q; cases q
    | some y' => exact ⟨y', k.c a y' q'⟩
theorem Ext.trans {G₀ C₀ : PM} {h₀ : Heap} (x : Ext G₀ C₀ h₀ G C h) (k : Ok D G C h) (y : Ext G C h G' C' h') : Ext G₀ C₀ h₀ G' C' h' where
  gs a o e := by obtain ⟨o', e'⟩ := x.alive k e; exact (y.gs a o' e').trans (x.gs a o e)
  cs a o e := by obtain ⟨o', e'⟩ := x.alive k e; exact (y.cs a o' e').trans (x.cs a o e)
  keep a o e hc := y.keep a o (x.keep a o e hc) ((x.cs a o e).mpr hc)
theorem Ext.gle (x : Ext G C h G' C' h') (k : Ok D G C h) : GLe G G' := fun a o e => (x.gs a o (k.g a o e)).trans e
theorem ExtL.refl {L : Addr} : ExtL L G C h G C h := ⟨fun _ _ _ _ => rfl, fun _ _ _ _ => Iff.rfl, fun _ _ _ e _ => e⟩
theorem Ext.toL {L : Addr} (x : Ext G C h G' C' h') : ExtL L G C h G' C' h' := ⟨fun a o _ => x.gs a o, fun a o _ => x.cs a o, fun a o _ => x.keep a o⟩
theorem ExtL.toExt {L : Addr} (x : ExtL L G C h G' C' h') (hn : h.get? L = none) : Ext G C h G' C' h' :=
  have n : ∀ {a o}, h.get? a = some o → a ≠ L := fun e z => by rw [z, hn] at e; cases e
  ⟨fun a o e => x.gs a o (n e) e, fun a o e => x.cs a o (n e) e, fun a o e => x.keep a o (n e) e⟩
theorem ExtL.alive {L : Addr} (x : ExtL L G C h G' C' h') (k : Ok D G' C' h') {a : Addr} {o : Obj} (n : a ≠ L) (e : h.get? a = some o) : ∃ o', h'.get? a = some o' := by
  cases q : C a with
  | none => exact ⟨o, x.keep a o n e q⟩
  | some y =>
    cases q' : C' a with
    | none => rw [(x.cs a o n e).mp q'] at q; cases q
    | some y' => exact ⟨y', k.c a y' q'⟩
theorem ExtL.trans {L : Addr} {G₀ C₀ : PM} {h₀ : Heap} (x : ExtL L G₀ C₀ h₀ G C h) (k : Ok D G C h) (y : ExtL L G C h G' C' h') : ExtL L G₀ C₀ h₀ G' C' h' where
  gs a o n e := by obtain ⟨o', e'⟩ := x.alive k n e; exact (y.gs a o' n e').trans (x.gs a o n e)
  cs a o n e := by obtain ⟨o', e'⟩ := x.alive k n e; exact (y.cs a o' n e').trans (x.cs a o n e)
  keep a o n e hc := y.keep a o n (x.keep a o n e hc) ((x.cs a o n e).mpr hc)
theorem Cx.after (c : Cx D F G C m h) (k : Ok D G' C' h') (x : Ext G C h G' C' h') : Cx D F G' C' m h' := by
  obtain ⟨o, es, ep, e, r⟩ := c.ns
  exact { ok := k, ext := c.ext.trans c.ok x.toL, ns := ⟨o, es, ep, x.keep _ _ e c.lc, r⟩, lg := (x.gs _ o e).trans c.lg, lc := (x.cs _ o e).mpr c.lc, lg0 := c.lg0, lc0 := c.lc0, lb := c.lb, ok0 := c.ok0 }
/-- the frame, seen from here on -/
theorem Cx.rebase (c : Cx D F G C m h) : Cx D ⟨h, G, C, F.L⟩ G C m h := ⟨c.ok, .refl, c.ns, c.lg, c.lc, c.lg, c.lc, c.lb, c.ok⟩
theorem Cx.unbase {m' : LM} (c : Cx D F G C m h) (x : Cx D ⟨h, G, C, F.L⟩ G' C' m' h') : Cx D F G' C' m' h' := ⟨x.ok, c.ext.trans c.ok x.ext, x.ns, x.lg, x.lc, c.lg0, c.lc0, x.lb, c.ok0⟩
theorem Cx.fr (c : Cx D F G C m h) : Fr D.b F.L h m := ⟨c.ns, c.ok.base, c.lb⟩
theorem Cx.set (c : Cx D F G C m h) {m' : LM} (hn : h'.Ns F.L m') (hs : ∀ a o, a ≠ F.L → h.get? a = some o → h'.get? a = some o) : Cx D F G C m' h' where
  ok := { x := c.ok.x, t := c.ok.t, z := c.ok.z, gb := c.ok.gb, gc := c.ok.gc
          g := fun a o e => hs a o (fun q => by rw [q, c.lg] at e; cases e) (c.ok.g a o e)
          c := fun a o e => hs a o (fun q => by rw [q, c.lc] at e; cases e) (c.ok.c a o e) }
  ext := { gs := c.ext.gs, cs := c.ext.cs, keep := fun a o n e hc => hs a o n (c.ext.keep a o n e hc) }
  ns := hn
  lg := c.lg
  lc := c.lc
  lg0 := c.lg0
  lc0 := c.lc0
  lb := c.lb
  ok0 := c.ok0
theorem Cx.own (c : Cx D F G C m h) {a : Addr} (ha : h.get? a = none) : F.C a = none := by
  cases q : F.C a with
  | none => rfl
  | some o =>
    obtain ⟨o', e⟩ := c.ext.alive c.ok (fun z => by rw [z, c.lc0] at q; cases q) (c.ok0.c a o q)
    rw [ha] at e; cases e
/-- a new object, as it stays -/
theorem Ok.newG (k : Ok D G C h) {a : Addr} {o : Obj} (ha : h.get? a = none) (ho : h'.get? a = some o) (hk : ∀ x q, h.get? x = some q → h'.get? x = some q) : Ok D (up G a o) C h' where
  x := k.x
  t := k.t
  z := k.z
  gb x q e := GLe.up (k.fresh_g ha) x q (k.gb x q e)
  g x q e := by
    by_cases hx : x = a
    · subst hx; rw [up_self] at e; cases e; exact ho
    · rw [up_ne hx] at e; exact hk _ _ (k.g x q e)
  c x q e := hk _ _ (k.c x q e)
  gc x q e := by rw [up_ne (fun z => by rw [z, k.fresh_c ha] at e; cases e)]; exact k.gc x q e
theorem Ext.newG {a : Addr} {o : Obj} (ha : h.get? a = none) (hk : ∀ x q, h.get? x = some q → h'.get? x = some q) : Ext G C h (up G a o) C h' where
  gs x q e := up_ne fun z => by rw [z, ha] at e; cases e
  cs _ _ _ := Iff.rfl
  keep x q e _ := hk _ _ e
/-- a new object that may be written -/
theorem Ok.newC (k : Ok D G C h) {a : Addr} {o : Obj} (ha : h.get? a = none) (ho : h'.get? a = some o) (hk : ∀ x q, h.get? x = some q → h'.get? x = some q) : Ok D G (up C a o) h' where
  x := k.x
  t := k.t
  z := k.z
  gb := k.gb
  g x q e := hk _ _ (k.g x q e)
  c x q e := by
    by_cases hx : x = a
    · subst hx; rw [up_self] at e; cases e; exact ho
    · rw [up_ne hx] at e; exact hk _ _ (k.c x q e)
  gc x q e := by
    by_cases hx : x = a
    · subst hx; exact k.fresh_g ha
    · rw [up_ne hx] at e; exact k.gc x q e
theorem Ext.newC {a : Addr} {o : Obj} (ha : h.get? a = none) (hk : ∀ x q, h.get? x = some q → h'.get? x = some q) : Ext G C h G (up C a o) h' where
  gs _ _ _ := rfl
  cs x q e := by rw [up_ne fun z => by rw [z, ha] at e; cases e]
  keep x q e _ := hk _ _ e
/-- a store into one that may be written -/
theorem Ok.upd (k : Ok D G C h) {a : Addr} {o o' : Obj} (e : C a = some o) (hs : ∀ x q, x ≠ a → h.get? x = some q → h'.get? x = some q) (ho : h'.get? a = some o') : Ok D G (up C a o') h' where
  x := k.x
  t := k.t
  z := k.z
  gb := k.gb
  g x q hq := hs x q (fun z => by subst z; rw [k.gc x o e] at hq; cases hq) (k.g x q hq)
  c x q hq := by
    by_cases hx : x = a
    · subst hx; rw [up_self] at hq; cases hq; exact ho
    · rw [up_ne hx] at hq; exact hs x q hx (k.c x q hq)
  gc x q hq := by
    by_cases hx : x = a
    · subst hx; exact k.gc x o e
    · rw [up_ne hx] at hq; exact k.gc x q hq
theorem Ext.upd {a : Addr} {o o' : Obj} (e : C a = some o) (hs : ∀ x q, x ≠ a → h.get? x = some q → h'.get? x = some q) : Ext G C h G (up C a o') h' where
  gs _ _ _ := rfl
  cs x _ _ := by
    by_cases hx : x = a
    · subst hx; rw [up_self, e]; simp
    · rw [up_ne hx]
  keep x q hq hc := hs x q (fun z => by subst z; rw [e] at hc; cases hc) hq
/-- heap objects that are new and that nobody asks about -/
theorem Ok.grow (k : Ok D G C h) (hk : ∀ a o, h.get? a = some o → h'.get? a = some o) : Ok D G C h' where
  x := k.x
  t := k.t
  z := k.z
  gb := k.gb
  g a q e := hk _ _ (k.g a q e)
  c a q e := hk _ _ (k.c a q e)
  gc := k.gc
theorem Ext.grow (hk : ∀ a o, h.get? a = some o → h'.get? a = some o) : Ext G C h G C h' := ⟨fun _ _ _ => rfl, fun _ _ _ => Iff.rfl, fun a o e _ => hk a o e⟩
/-- an own one is not written any more -/
theorem Cx.freeze (c : Cx D F G C m h) {a : Addr} {o : Obj} (e : C a = some o) (hn : F.C a = none) : Cx D F (up G a o) (rm C a) m h where
  ok := { x := c.ok.x, t := c.ok.t, z := c.ok.z
          gb := fun x q hq => GLe.up (c.ok.gc a o e) x q (c.ok.gb x q hq)
          g := fun x q hq => by
            by_cases hx : x = a
            · subst hx; rw [up_self] at hq; cases hq; exact c.ok.c x _ e
            · rw [up_ne hx] at hq; exact c.ok.g x q hq
          c := fun x q hq => by
            by_cases hx : x = a
            · subst hx; rw [rm_self] at hq; cases hq
            · rw [rm_ne hx] at hq; exact c.ok.c x q hq
          gc := fun x q hq => by
            by_cases hx : x = a
            · subst hx; rw [rm_self] at hq; cases hq
            · rw [rm_ne hx] at hq; rw [up_ne hx]; exact c.ok.gc x q hq }
  ext := { gs := fun x q n hq => by
             by_cases hx : x = a
             · subst hx
               exfalso
               rw [(c.ext.cs x q n hq).mpr hn] at e; cases e
             · rw [up_ne hx]; exact c.ext.gs x q n hq
           cs := fun x q n hq => by
             by_cases hx : x = a
             · subst hx; rw [rm_self, hn]
             · rw [rm_ne hx]; exact c.ext.cs x q n hq
           keep := c.ext.keep }
  ns := c.ns
  lg := by rw [up_ne (fun z => by rw [← z, c.lc] at e; cases e)]; exact c.lg
  lc := by
    by_cases hx : F.L = a
    · rw [hx, rm_self]
    · rw [rm_ne hx]; exact c.lc
  lg0 := c.lg0
  lc0 := c.lc0
  lb := c.lb
  ok0 := c.ok0
end
end Mine
end
section
open PySem PySem.W PyProof.Rows PySem.Calls
set_option maxRecDepth 100000
set_option maxHeartbeats 4000000
namespace Mine
section
variable {D : Wd} {A : Around} {α β : Type}
inductive WP (D : Wd) {α : Type} (Q : α → Heap → Prop) (v : α) (s' : Shared) : Prop
  | mk : ∀ h' tk', s' = St D h' tk' → Q v h' → WP D Q v s'
inductive BP (D : Wd) (F : Fn) {α : Type} (Q : α → PM → PM → LM → Prop) (v : α) (h' : Heap) : Prop
  | mk : ∀ G' C' m', Cx D F G' C' m' h' → Q v G' C' m' → BP D F Q v h'
inductive CP (D : Wd) (G C : PM) (h : Heap) (P : Value → PM → PM → Prop) (r : Value) (h' : Heap) : Prop
  | mk : ∀ G' C', Ok D G' C' h' → Ext G C h G' C' h' → P r G' C' → CP D G C h P r h'
noncomputable def W (D : Wd) (A : Around) (t : Sem α) (Q : α → Heap → Prop) (h : Heap) : Prop :=
  ∀ tk, wpAny (model Pw D.w) A t (WP D Q) (fun _ _ => False) (St D h tk)
noncomputable def B (D : Wd) (F : Fn) (A : Around) (t : Sem α) (Q : α → PM → PM → LM → Prop) (G C : PM) (m : LM) : Prop :=
  ∀ h, Cx D F G C m h → W D A t (BP D F Q) h
noncomputable def CallOk (D : Wd) (A : Around) (f : Value) (args : List Value) (G C : PM) (P : Value → PM → PM → Prop) : Prop :=
  ∀ h, Ok D G C h → W D A (PySem.call f args) (CP D G C h P) h
noncomputable def CodeOk (D : Wd) (A : Around) (f : Value) (args : List Value) (G C : PM) (P : Value → PM → PM → Prop) : Prop :=
  ∀ h, Ok D G C h → ∀ tk, codeAny (model Pw D.w) A (.call f ⟨args, []⟩) (fun r s' => match r with | .ok (.ret v) => WP D (CP D G C h P) v s' | _ => False) (St D h tk)
/-- what else may be written stands as it stood -/
noncomputable def CK (C C' : PM) (as : List Addr) : Prop := ∀ a o, C a = some o → a ∉ as → C' a = some o
variable {F : Fn} {G C G' C' : PM} {m : LM} {Q : α → PM → PM → LM → Prop}
theorem B.mono {t : Sem α} {Q' : α → PM → PM → LM → Prop} (x : B D F A t Q G C m) (k : ∀ v G' C' m', Q v G' C' m' → Q' v G' C' m') : B D F A t Q' G C m := fun h c tk =>
  wpAny_mono (x h c tk) (fun _ _ ⟨h', tk', e, G', C', m', c', q⟩ => ⟨h', tk', e, G', C', m', c', k _ _ _ _ q⟩) fun _ _ z => z
theorem wp_map {t : Sem α} {f : α → β} {Q : β → PM → PM → LM → Prop} {s : Shared} {E : Value → Shared → Prop} (x : wpAny (model Pw D.w) A t (WP D (BP D F fun a => Q (f a))) E s) : wpAny (model Pw D.w) A t (fun a s' => WP D (BP D F Q) (f a) s') E s :=
  wpAny_mono x (fun _ _ ⟨h', tk', e, G', C', m', c', q⟩ => ⟨h', tk', e, G', C', m', c', q⟩) fun _ _ z => z
/-- what is asked behind, unseen -/
noncomputable def Opq {α : Type} (Q Q₀ : α → PM → PM → LM → Prop) : Prop := ∀ v G C m, Q v G C m → Q₀ v G C m
theorem B.opq {t : Sem α} (h : ∀ Q₀, Opq Q Q₀ → B D F A t Q₀ G C m) : B D F A t Q G C m := h Q fun _ _ _ _ x => x
theorem Opq.at {Q Q₀ : α → PM → PM → LM → Prop} (h : Opq Q Q₀) {v : α} (x : Q v G C m) : Q₀ v G C m := h v G C m x
theorem yes : true = true := rfl
theorem no' : false = false := rfl
/-! what is asked behind a step, said without a binder around what is asked behind it all -/
@[reducible] def Kf {α β : Type} (f : α → β) (Q : β → PM → PM → LM → Prop) : α → PM → PM → LM → Prop := fun a => Q (f a)
@[reducible] def Kb {α β : Type} (D : Wd) (F : Fn) (A : Around) (t : α → Sem β) (Q : β → PM → PM → LM → Prop) : α → PM → PM → LM → Prop := fun a => B D F A (t a) Q
@[reducible] def K2 {α β γ : Type} (D : Wd) (F : Fn) (A : Around) (s : Sem β) (t : α → β → Sem γ) (Q : γ → PM → PM → LM → Prop) : α → PM → PM → LM → Prop := fun a => B D F A s (Kb D F A (t a) Q)
@[reducible] def Kc {α : Type} (D : Wd) (F : Fn) (A : Around) (s : Sem (List α)) (Q : List α → PM → PM → LM → Prop) : α → PM → PM → LM → Prop := fun v => B D F A s (Kf (List.cons v) Q)
@[reducible] def KAnd {β : Type} (D : Wd) (F : Fn) (A : Around) (s : Sem β) (Q : β → PM → PM → LM → Prop) (r : β) : Bool → PM → PM → LM → Prop := fun b => bif b then B D F A s Q else Q r
@[reducible] def KOr {β : Type} (D : Wd) (F : Fn) (A : Around) (s : Sem β) (Q : β → PM → PM → LM → Prop) (r : β) : Bool → PM → PM → LM → Prop := fun b => bif b then Q r else B D F A s Q
@[reducible] def KSub2 (D : Wd) (F : Fn) (A : Around) (s : Sem Value) (v : Value) (Q : Flow → PM → PM → LM → Prop) : Value → PM → PM → LM → Prop := fun o => B D F A s (Kb D F A (fun i => setItem o i v) (Kf (fun _ => .next) Q))
@[reducible] def KSub (D : Wd) (F : Fn) (A : Around) (s₁ s₂ : Sem Value) (Q : Flow → PM → PM → LM → Prop) : Value → PM → PM → LM → Prop := fun v => B D F A s₁ (KSub2 D F A s₂ v Q)
/-- a rule of the library that goes on in one tree -/
theorem B.of1 {t : Sem β} {t₁ : Sem α} {t₂ : α → Sem β} {Q : β → PM → PM → LM → Prop} (rule : ∀ (Q : β → Shared → Prop) (E : Value → Shared → Prop) s, wpAny (model Pw D.w) A t₁ (fun a s' => wpAny (model Pw D.w) A (t₂ a) Q E s') E s → wpAny (model Pw D.w) A t Q E s)
    (x : B D F A t₁ (Kb D F A t₂ Q) G C m) : B D F A t Q G C m := fun h c tk =>
  rule _ _ _ (wpAny_mono (x h c tk) (fun _ _ ⟨h', tk', e, G', C', m', c', q⟩ => by subst e; exact q h' c' tk') fun _ _ z => z)
theorem B.of0 {t : Sem β} {t₁ : Sem β} {Q : β → PM → PM → LM → Prop} (rule : ∀ (Q : β → Shared → Prop) (E : Value → Shared → Prop) s, wpAny (model Pw D.w) A t₁ Q E s → wpAny (model Pw D.w) A t Q E s)
    (x : B D F A t₁ Q G C m) : B D F A t Q G C m := fun h c tk => rule _ _ _ (x h c tk)
theorem B.ofMap {t : Sem β} {t₁ : Sem α} {f : α → β} {Q : β → PM → PM → LM → Prop} (rule : ∀ (Q : β → Shared → Prop) (E : Value → Shared → Prop) s, wpAny (model Pw D.w) A t₁ (fun a s' => Q (f a) s') E s → wpAny (model Pw D.w) A t Q E s)
    (x : B D F A t₁ (Kf f Q) G C m) : B D F A t Q G C m := fun h c tk => rule _ _ _ (wp_map (f := f) (Q := Q) (x h c tk))
theorem B.bind {t : Sem α} {f : α → Sem β} {Q : β → PM → PM → LM → Prop} (x : B D F A t (Kb D F A f Q) G C m) : B D F A (t >>= f) Q G C m := B.of1 (fun _ _ _ h => wpAny_bind h) x
/-- a rule of the library that gives a value -/
theorem B.val {t : Sem α} (P : α → Prop) (rule : ∀ h, Cx D F G C m h → ∀ (Q : α → Shared → Prop) (E : Value → Shared → Prop) tk, (∀ tk' v, P v → Q v (St D h tk')) → wpAny (model Pw D.w) A t Q E (St D h tk))
    (x : ∀ v, P v → Q v G C m) : B D F A t Q G C m := fun h c tk => rule h c _ _ tk fun tk' v hv => ⟨h, tk', rfl, G, C, m, c, x v hv⟩
theorem B.pure {a : α} (x : Q a G C m) : B D F A (Pure.pure a) Q G C m := B.val (· = a) (fun h c Q E tk k => wpAny_pure (k _ _ rfl)) fun v e => e ▸ x
/-! the syntax -/
variable {env : Env} {pos : Pos}
theorem B.nil {Q : Flow → PM → PM → LM → Prop} (x : Q .next G C m) : B D F A (execs [] env) Q G C m := B.val (· = Flow.next) (fun h c Q E tk k => wpAny_execs_nil (k _ _ rfl)) fun v e => e ▸ x
/-- behind a statement -/
noncomputable def Then (D : Wd) (F : Fn) (A : Around) (rest : List Stmt) (env : Env) (Q : Flow → PM → PM → LM → Prop) : Flow → PM → PM → LM → Prop
  | .next => B D F A (execs rest env) Q
  | f => Q f
theorem B.cons {st : Stmt} {rest : List Stmt} {Q : Flow → PM → PM → LM → Prop} (x : B D F A (exec st env) (Then D F A rest env Q) G C m) : B D F A (execs (st :: rest) env) Q G C m := fun h c tk =>
  wpAny_execs_cons (wpAny_mono (x h c tk) (fun fl _ ⟨h', tk', e, G', C', m', c', q⟩ => by
    subst e
    cases fl with
    | next => exact q h' c' tk'
    | _ => exact ⟨h', tk', rfl, G', C', m', c', q⟩) fun _ _ z => z)
theorem B.ret {e : PySem.Expr} {Q : Flow → PM → PM → LM → Prop} (x : B D F A (eval e env) (Kf Flow.ret Q) G C m) : B D F A (exec (.Return (some e) pos) env) Q G C m := B.ofMap (fun _ _ _ h => wpAny_Return_some h) x
theorem B.iff {test : PySem.Expr} {body orelse : List Stmt} {Q : Flow → PM → PM → LM → Prop}
    (x : B D F A (PySem.isTrue test env (eval test env)) (Kb D F A (fun b => execs (bif b then body else orelse) env) Q) G C m) : B D F A (exec (.If test body orelse pos) env) Q G C m :=
  B.of1 (fun _ _ _ h => wpAny_If (wpAny_mono h (fun b _ k => by cases b <;> exact k) fun _ _ z => z)) x
theorem B.ifExp {test e₁ e₂ : PySem.Expr} {Q : Value → PM → PM → LM → Prop}
    (x : B D F A (PySem.isTrue test env (eval test env)) (Kb D F A (fun b => eval (bif b then e₁ else e₂) env) Q) G C m) : B D F A (eval (.IfExp test e₁ e₂ pos) env) Q G C m :=
  B.of1 (fun _ _ _ h => IfExp_ (wpAny_mono h (fun b _ k => by cases b <;> exact k) fun _ _ z => z)) x
theorem B.assign {x : Str} {p : Pos} {e : PySem.Expr} {Q : Flow → PM → PM → LM → Prop} (h : B D F A (eval e env) (Kb D F A (storeName env x) (Kf (fun _ => .next) Q)) G C m)
    (hs : swapsWith e (some (.Name x p)) pos.line env = Pure.pure false := by rfl) : B D F A (exec (.Assign [.Name x p] e pos) env) Q G C m :=
  fun hh c tk => wpAny_Assign_Name (wpAny_mono (h hh c tk) (fun _ _ ⟨h', tk', e, G', C', m', c', q⟩ => by subst e; exact wp_map (f := fun _ => Flow.next) (Q := Q) (q h' c' tk')) fun _ _ z => z) hs
theorem B.binOp {l r : PySem.Expr} {op : Operator} {Q : Value → PM → PM → LM → Prop} (x : B D F A (eval l env) (K2 D F A (eval r env) (binaryOp op) Q) G C m) : B D F A (eval (.BinOp l op r pos) env) Q G C m :=
  fun hh c tk => wpAny_BinOp (wpAny_mono (x hh c tk) (fun _ _ ⟨h', tk', e, G', C', m', c', q⟩ => by
    subst e
    exact wpAny_mono (q h' c' tk') (fun _ _ ⟨h', tk', e, G', C', m', c', q⟩ => by subst e; exact q h' c' tk') fun _ _ z => z) fun _ _ z => z)
theorem B.compare {l r : PySem.Expr} {op : CmpOp} {Q : Value → PM → PM → LM → Prop} (x : B D F A (eval l env) (K2 D F A (eval r env) (compareOp op) Q) G C m)
    (hm : behindInMarks op r = false := by rfl) : B D F A (eval (.Compare l [op] [r] pos) env) Q G C m :=
  fun hh c tk => wpAny_Compare1 (wpAny_mono (x hh c tk) (fun _ _ ⟨h', tk', e, G', C', m', c', q⟩ => by
    subst e
    exact wpAny_mono (q h' c' tk') (fun _ _ ⟨h', tk', e, G', C', m', c', q⟩ => by subst e; exact q h' c' tk') fun _ _ z => z) fun _ _ z => z) hm
theorem B.tPlain {e : PySem.Expr} {whole : Sem Value} {Q : Bool → PM → PM → LM → Prop} (x : B D F A whole (Kb D F A truthy Q) G C m)
    (he : PySem.isTrue e env whole = (do let v ← whole; standAt e.pos; holding [v] (truthy v)) := by rfl) : B D F A (PySem.isTrue e env whole) Q G C m := B.of1 (fun _ _ _ h => isTrue_plain h he) x
theorem B.tCompare {l r : PySem.Expr} {op : CmpOp} {whole : Sem Value} {Q : Bool → PM → PM → LM → Prop} (x : B D F A (eval l env) (K2 D F A (eval r env) (compareOp op) (Kb D F A truthy Q)) G C m)
    (hm : behindInMarks op r = false := by rfl) : B D F A (PySem.isTrue (.Compare l [op] [r] pos) env whole) Q G C m :=
  fun hh c tk => wpAny_isTrue_Compare1 (wpAny_mono (x hh c tk) (fun _ _ ⟨h', tk', e, G', C', m', c', q⟩ => by
    subst e
    exact wpAny_mono (q h' c' tk') (fun _ _ ⟨h', tk', e, G', C', m', c', q⟩ => by
      subst e
      exact wpAny_mono (q h' c' tk') (fun _ _ ⟨h', tk', e, G', C', m', c', q⟩ => by subst e; exact q h' c' tk') fun _ _ z => z) fun _ _ z => z) fun _ _ z => z) hm
theorem B.tNot {e : PySem.Expr} {whole : Sem Value} {Q : Bool → PM → PM → LM → Prop} (x : B D F A (PySem.isTrue e env (eval e env)) (fun b => Q (!b)) G C m) : B D F A (PySem.isTrue (.UnaryOp .Not e pos) env whole) Q G C m := B.ofMap (f := fun b => !b) (fun _ _ _ h => isTrue_not h) x
theorem B.tAnd {e : PySem.Expr} {rest : List PySem.Expr} {whole : Sem Value} {Q : Bool → PM → PM → LM → Prop} (x : B D F A (PySem.isTrue e env (eval e env)) (KAnd D F A (PySem.isTrue (.BoolOp .And rest pos) env whole) Q false) G C m) :
    B D F A (PySem.isTrue (.BoolOp .And (e :: rest) pos) env whole) Q G C m := fun hh c tk =>
  isTrue_and (wpAny_mono (x hh c tk) (fun b _ ⟨h', tk', e, G', C', m', c', q⟩ => by
    subst e
    cases b
    · exact ⟨h', tk', rfl, G', C', m', c', q⟩
    · exact q h' c' tk') fun _ _ z => z)
theorem B.tAnd0 {whole : Sem Value} {Q : Bool → PM → PM → LM → Prop} (x : Q true G C m) : B D F A (PySem.isTrue (.BoolOp .And [] pos) env whole) Q G C m := B.val (· = true) (fun h c Q E tk k => isTrue_and_nil (k _ _ rfl)) fun v e => e ▸ x
theorem B.tOr {e : PySem.Expr} {rest : List PySem.Expr} {whole : Sem Value} {Q : Bool → PM → PM → LM → Prop} (x : B D F A (PySem.isTrue e env (eval e env)) (KOr D F A (PySem.isTrue (.BoolOp .Or rest pos) env whole) Q true) G C m) :
    B D F A (PySem.isTrue (.BoolOp .Or (e :: rest) pos) env whole) Q G C m := fun hh c tk =>
  isTrue_or (wpAny_mono (x hh c tk) (fun b _ ⟨h', tk', e, G', C', m', c', q⟩ => by
    subst e
    cases b
    · exact q h' c' tk'
    · exact ⟨h', tk', rfl, G', C', m', c', q⟩) fun _ _ z => z)
theorem B.tOr0 {whole : Sem Value} {Q : Bool → PM → PM → LM → Prop} (x : Q false G C m) : B D F A (PySem.isTrue (.BoolOp .Or [] pos) env whole) Q G C m := B.val (· = false) (fun h c Q E tk k => isTrue_or_nil (k _ _ rfl)) fun v e => e ▸ x
theorem B.unary {op : UnaryOp} {e : PySem.Expr} {Q : Value → PM → PM → LM → Prop} (x : B D F A (eval e env) (Kb D F A (unaryOp op) Q) G C m) : B D F A (eval (.UnaryOp op e pos) env) Q G C m := B.of1 (fun _ _ _ h => UnaryOp_ h) x
theorem B.subscript {value slice : PySem.Expr} {Q : Value → PM → PM → LM → Prop} (x : B D F A (eval value env) (K2 D F A (eval slice env) (subscriptTail value slice) Q) G C m) : B D F A (eval (.Subscript value slice pos) env) Q G C m :=
  fun hh c tk => Subscript_ (wpAny_mono (x hh c tk) (fun _ _ ⟨h', tk', e, G', C', m', c', q⟩ => by
    subst e
    exact wpAny_mono (q h' c' tk') (fun _ _ ⟨h', tk', e, G', C', m', c', q⟩ => by subst e; exact q h' c' tk') fun _ _ z => z) fun _ _ z => z)
theorem B.attribute {e : PySem.Expr} {a : Str} {Q : Value → PM → PM → LM → Prop} (x : B D F A (eval e env) (Kb D F A (fun o => getAttr o a true) Q) G C m)
    (he : eval (e.Attribute a pos) env = (do let o ← eval e env; standAt pos.atName; let r ← holding [o] (getAttr o a true); letTemporaryGo e o r; Pure.pure r) := by rfl) : B D F A (eval (.Attribute e a pos) env) Q G C m := B.of1 (fun _ _ _ h => Attribute_any_ h he) x
theorem B.call {f : PySem.Expr} {args : List PySem.Expr} {Q : Value → PM → PM → LM → Prop} (x : B D F A (eval f env) (Kb D F A (fun f => callWith pos f [] (backTo pos (starEach args env)) []) Q) G C m)
    (he : eval (.Call f args [] pos) env = (do let f ← eval f env; callWith pos f [] (backTo pos (starEach args env)) (backToKw pos (keywordEach [] env))) := by rfl) : B D F A (eval (.Call f args [] pos) env) Q G C m := B.of1 (fun _ _ _ h => Call_ h he) x
theorem B.method {o : PySem.Expr} {name : Str} {apos : Pos} {args : List PySem.Expr} {pl : Sem Bool} {Q : Value → PM → PM → LM → Prop}
    (x : B D F A (eval o env) (Kb D F A (fun ov => getMethod ov name pl) (Kb D F A (fun fx => callWith pos fx.1 fx.2 (backTo pos (starEach args env)) []) Q)) G C m)
    (he : eval (.Call (.Attribute o name apos) args [] pos) env = (do
      let ov ← eval o env
      standAt apos.atName
      let (f, first) ← holding [ov] (getMethod ov name pl)
      callWith pos f first (backTo pos (starEach args env)) []) := by rfl) : B D F A (eval (.Call (.Attribute o name apos) args [] pos) env) Q G C m :=
  fun hh c tk => MethodCall_ (wpAny_mono (x hh c tk) (fun _ _ ⟨h', tk', e, G', C', m', c', q⟩ => by
    subst e
    exact wpAny_mono (q h' c' tk') (fun _ _ ⟨h', tk', e, G', C', m', c', q⟩ => by subst e; exact q h' c' tk') fun _ _ z => z) fun _ _ z => z) he
theorem B.exprSt {e : PySem.Expr} {Q : Flow → PM → PM → LM → Prop} (x : B D F A (eval e env) (Kf (fun _ => .next) Q) G C m) (hi : interactive env = false := by rfl) (hs : swapsWith e none pos.line env = Pure.pure false := by rfl) :
    B D F A (exec (.Expr e pos) env) Q G C m := fun hh c tk => wpAny_Expr_any (wp_map (f := fun _ => Flow.next) (Q := Q) (x hh c tk)) hi hs
theorem B.assignSub {o i e : PySem.Expr} {p : Pos} {Q : Flow → PM → PM → LM → Prop} (x : B D F A (eval e env) (KSub D F A (eval o env) (eval i env) Q) G C m)
    (hs : swapsWith e (some (.Subscript o i p)) pos.line env = Pure.pure false := by rfl) : B D F A (exec (.Assign [.Subscript o i p] e pos) env) Q G C m :=
  fun hh c tk => wpAny_Assign_Subscript (wpAny_mono (x hh c tk) (fun _ _ ⟨h', tk', e, G', C', m', c', q⟩ => by
    subst e
    refine wpAny_mono (q h' c' tk') (fun _ _ ⟨h', tk', e, G', C', m', c', q⟩ => ?_) fun _ _ z => z
    subst e
    refine wpAny_mono (q h' c' tk') (fun _ _ ⟨h', tk', e, G', C', m', c', q⟩ => ?_) fun _ _ z => z
    subst e
    exact wp_map (f := fun _ => Flow.next) (Q := Q) (q h' c' tk')) fun _ _ z => z) hs
theorem B.assignAttr {o e : PySem.Expr} {a : Str} {p : Pos} {Q : Flow → PM → PM → LM → Prop} (x : B D F A (eval e env) (K2 D F A (eval o env) (fun v ov => setAttr ov a v) (Kf (fun _ => .next) Q)) G C m)
    (hs : swapsWith e (some (.Attribute o a p)) pos.line env = Pure.pure false := by rfl) : B D F A (exec (.Assign [.Attribute o a p] e pos) env) Q G C m :=
  fun hh c tk => plainObj_wpAny_Assign_Attribute (wpAny_mono (x hh c tk) (fun _ _ ⟨h', tk', e, G', C', m', c', q⟩ => by
    subst e
    refine wpAny_mono (q h' c' tk') (fun _ _ ⟨h', tk', e, G', C', m', c', q⟩ => ?_) fun _ _ z => z
    subst e
    exact wp_map (f := fun _ => Flow.next) (Q := Q) (q h' c' tk')) fun _ _ z => z) hs
/-! values -/
theorem B.cInt {i : Int} {k : Nat} {Q : Value → PM → PM → LM → Prop} (x : ∀ t, Q (.int i t) G C m) : B D F A (eval (.Constant (.int i) k pos) env) Q G C m :=
  B.val (fun v => ∃ t, v = .int i t) (fun h c Q E tk j => wpAny_Constant_int (j _ _ ⟨_, rfl⟩)) fun v ⟨t, e⟩ => e ▸ x t
theorem B.cStr {i : Str} {k : Nat} {Q : Value → PM → PM → LM → Prop} (x : ∀ t, Q (.str i t) G C m) : B D F A (eval (.Constant (.str i) k pos) env) Q G C m :=
  B.val (fun v => ∃ t, v = .str i t) (fun h c Q E tk j => wpAny_Constant_str (j _ _ ⟨_, rfl⟩)) fun v ⟨t, e⟩ => e ▸ x t
theorem B.cBool {i : Bool} {k : Nat} {Q : Value → PM → PM → LM → Prop} (x : Q (.bool i) G C m) : B D F A (eval (.Constant (.bool i) k pos) env) Q G C m :=
  B.val (· = .bool i) (fun h c Q E tk j => wpAny_Constant_bool (j _ _ rfl)) fun v e => e ▸ x
theorem B.cNone {k : Nat} {Q : Value → PM → PM → LM → Prop} (x : Q .none G C m) : B D F A (eval (.Constant .none k pos) env) Q G C m :=
  B.val (· = .none) (fun h c Q E tk j => wpAny_Constant_none (j _ _ rfl)) fun v e => e ▸ x
theorem B.trueBool {i : Bool} {Q : Bool → PM → PM → LM → Prop} (x : Q i G C m) : B D F A (truthy (.bool i)) Q G C m := B.val (· = i) (fun h c Q E tk j => wpAny_truthy_bool (j _ _ rfl)) fun v e => e ▸ x
theorem B.add {a b : Int} {t u : Tok} {Q : Value → PM → PM → LM → Prop} (x : ∀ t, Q (.int (a + b) t) G C m) : B D F A (binaryOp .Add (.int a t) (.int b u)) Q G C m :=
  B.val (fun v => ∃ t, v = .int (a + b) t) (fun h c Q E tk j => add_int (j _ _ ⟨_, rfl⟩)) fun v ⟨t, e⟩ => e ▸ x t
theorem B.sub {a b : Int} {t u : Tok} {Q : Value → PM → PM → LM → Prop} (x : ∀ t, Q (.int (a - b) t) G C m) : B D F A (binaryOp .Sub (.int a t) (.int b u)) Q G C m :=
  B.val (fun v => ∃ t, v = .int (a - b) t) (fun h c Q E tk j => sub_int (j _ _ ⟨_, rfl⟩)) fun v ⟨t, e⟩ => e ▸ x t
theorem B.mul {a b : Int} {t u : Tok} {Q : Value → PM → PM → LM → Prop} (ok : IntMulOk a b) (x : ∀ t, Q (.int (a * b) t) G C m) : B D F A (binaryOp .Mult (.int a t) (.int b u)) Q G C m :=
  B.val (fun v => ∃ t, v = .int (a * b) t) (fun h c Q E tk j => mul_int (j _ _ ⟨_, rfl⟩) ok) fun v ⟨t, e⟩ => e ▸ x t
theorem B.mod {a b : Int} {t u : Tok} {Q : Value → PM → PM → LM → Prop} (hb : b ≠ 0) (x : ∀ t, Q (.int (a.fmod b) t) G C m) : B D F A (binaryOp .Mod (.int a t) (.int b u)) Q G C m :=
  B.val (fun v => ∃ t, v = .int (a.fmod b) t) (fun h c Q E tk j => mod_int hb (j _ _ ⟨_, rfl⟩)) fun v ⟨t, e⟩ => e ▸ x t
theorem B.fdiv {a b : Int} {t u : Tok} {Q : Value → PM → PM → LM → Prop} (hb : b ≠ 0) (hp : Builtin.divisionGoesByPylong a b = false) (x : ∀ t, Q (.int (a.fdiv b) t) G C m) : B D F A (binaryOp .FloorDiv (.int a t) (.int b u)) Q G C m :=
  B.val (fun v => ∃ t, v = .int (a.fdiv b) t) (fun h c Q E tk j => floordiv_int hb (j _ _ ⟨_, rfl⟩) (.inl hp)) fun v ⟨t, e⟩ => e ▸ x t
theorem B.lt {a b : Int} {t u : Tok} {Q : Value → PM → PM → LM → Prop} (x : Q (.bool (decide (a < b))) G C m) : B D F A (compareOp .Lt (.int a t) (.int b u)) Q G C m :=
  B.val (· = .bool (decide (a < b))) (fun h c Q E tk j => lt_int (j _ _ rfl)) fun v e => e ▸ x
theorem B.gt {a b : Int} {t u : Tok} {Q : Value → PM → PM → LM → Prop} (x : Q (.bool (decide (a > b))) G C m) : B D F A (compareOp .Gt (.int a t) (.int b u)) Q G C m :=
  B.val (· = .bool (decide (a > b))) (fun h c Q E tk j => gt_int (j _ _ rfl)) fun v e => e ▸ x
theorem B.ge {a b : Int} {t u : Tok} {Q : Value → PM → PM → LM → Prop} (x : Q (.bool (decide (a ≥ b))) G C m) : B D F A (compareOp .GtE (.int a t) (.int b u)) Q G C m :=
  B.val (· = .bool (decide (a ≥ b))) (fun h c Q E tk j => ge_int (j _ _ rfl)) fun v e => e ▸ x
theorem B.eqInt {a b : Int} {t u : Tok} {Q : Value → PM → PM → LM → Prop} (x : Q (.bool (decide (a = b))) G C m) : B D F A (compareOp .Eq (.int a t) (.int b u)) Q G C m :=
  B.val (· = .bool (decide (a = b))) (fun h c Q E tk j => eq_int (j _ _ rfl)) fun v e => e ▸ x
theorem B.neInt {a b : Int} {t u : Tok} {Q : Value → PM → PM → LM → Prop} (x : Q (.bool (a != b)) G C m) : B D F A (compareOp .NotEq (.int a t) (.int b u)) Q G C m :=
  B.val (· = .bool (a != b)) (fun h c Q E tk j => ne_int (j _ _ rfl)) fun v e => e ▸ x
/-! names -/
theorem B.name {x : Str} {v : Value} {Q : Value → PM → PM → LM → Prop} (hv : m x = some v) (q : Q v G C m)
    (hk : env.scope.kind = .function := by rfl) (hx : env.kindOf x = some .local := by rfl) (hd : (x == ("__debug__" : Str)) = false := by decide) (hL : env.locals = F.L := by rfl) : B D F A (eval (.Name x pos) env) Q G C m :=
  B.val (· = v) (fun h c Q E tk j => wpAny_Name (wpAny_loadName_local (s := St D h tk) hk hx (hL ▸ c.ns) hv (j _ _ rfl)) hd) fun v e => e ▸ q
theorem B.glob {x : Str} {v : Value} {Q : Value → PM → PM → LM → Prop} (hv : nsIn (K D.w.params) mainGlobals x = some (some v)) (q : Q v G C m)
    (hk : env.scope.kind = .function := by rfl) (hx : env.kindOf x = some .globalImplicit := by rfl) (hd : (x == ("__debug__" : Str)) = false := by decide) (hg : env.globals = mainGlobals := by rfl) : B D F A (eval (.Name x pos) env) Q G C m :=
  B.val (· = v) (fun h c Q E tk j => by
    obtain ⟨_, _, _, _, T⟩ := c.ok.t
    have T := topRead_of T
    exact Name_function_global (s := St D h tk) hk hx (loadGlobal_global (env := env) (by rw [hg]; exact T.g.keeps c.fr.keep) (mg_of c.ok.x T.g hv) (j _ _ rfl)) hd) fun v e => e ▸ q
theorem B.built {x : Str} {v : Value} {Q : Value → PM → PM → LM → Prop} (hv : nsIn (K D.w.params) mainGlobals x = some none) (hb : bootBuiltins x = some v) (hn : x ≠ "__name__") (q : Q v G C m)
    (hk : env.scope.kind = .function := by rfl) (hx : env.kindOf x = some .globalImplicit := by rfl) (hd : (x == ("__debug__" : Str)) = false := by decide) (hg : env.globals = mainGlobals := by rfl) (hbu : env.builtins = builtinsNs := by rfl) : B D F A (eval (.Name x pos) env) Q G C m :=
  B.val (· = v) (fun h c Q E tk j => by
    obtain ⟨_, _, _, _, T⟩ := c.ok.t
    have T := topRead_of T
    exact Name_function_global (s := St D h tk) hk hx (loadGlobal_builtin (env := env) (by rw [hg]; exact T.g.keeps c.fr.keep) (mg_none_of c.ok.x T.g hv) (by rw [hbu]; exact T.b.keeps c.fr.keep) ((T.builtins x hn).trans hb) (j _ _ rfl)) hd) fun v e => e ▸ q
theorem B.store {x : Str} {v : Value} {Q : Unit → PM → PM → LM → Prop} (q : Q () G C (upS m x v))
    (hk : env.scope.kind = .function := by rfl) (hx : env.kindOf x = some .local := by rfl) (hL : env.locals = F.L := by rfl) : B D F A (storeName env x v) Q G C m := fun h c tk =>
  wpAny_storeName_local (s := St D h tk) (env := env) hx (hL ▸ c.ns) (fun h' hn hs => ⟨h', tk + 1, rfl, G, C, upS m x v, c.set (hL ▸ hn) (fun a o n e => (hs.2 a (hL ▸ n)).trans e), q⟩) (by rw [hk]; rfl)
/-- a captured name -/
theorem B.cell {x : Str} {c : Addr} {o : Obj} {v : Value} {Q : Value → PM → PM → LM → Prop} (hc : env.cells.lookup x = some c) (hg : G c = some o ∨ C c = some o) (ho : o.data = .cell (some v)) (q : Q v G C m)
    (hk : env.scope.kind = .function := by rfl) (hx : env.kindOf x = some .cell := by rfl) (hd : (x == ("__debug__" : Str)) = false := by decide) : B D F A (eval (.Name x pos) env) Q G C m :=
  B.val (· = v) (fun h cx Q E tk j => wpAny_Name (wpAny_loadName_cell (s := St D h tk) (env := env) hk hx hc ⟨o, hg.elim (cx.ok.g _ _) (cx.ok.c _ _), ho⟩ (j _ _ rfl)) hd) fun v e => e ▸ q
theorem B.storeCell {x : Str} {c : Addr} {o : Obj} {v : Value} {v₀ : Option Value} {Q : Unit → PM → PM → LM → Prop} (hc : env.cells.lookup x = some c) (hC : C c = some o) (ho : o.data = .cell v₀) (q : ∀ o', o'.data = .cell (some v) → Q () G (up C c o') m)
    (hk : env.scope.kind = .function := by rfl) (hx : env.kindOf x = some .cell := by rfl) : B D F A (storeName env x v) Q G C m := fun h cx tk =>
  wpAny_storeName_cell (s := St D h tk) (env := env) hk hx hc ⟨o, cx.ok.c _ _ hC, ho⟩ fun h' hv hs => by
    obtain ⟨o', ho', hd⟩ := hv
    exact ⟨h', tk, rfl, G, _, m, cx.after (cx.ok.upd hC (fun x q n e => (hs.2 x n).trans e) ho') (.upd hC fun x q n e => (hs.2 x n).trans e), q o' hd⟩
/-! calls -/
theorem B.callOk {f : Value} {args : List Value} {P : Value → PM → PM → Prop} {Q : Value → PM → PM → LM → Prop} (k : CallOk D A f args G C P) (q : ∀ r G' C', GLe G G' → P r G' C' → Q r G' C' m) : B D F A (PySem.call f args) Q G C m := fun h c tk =>
  wpAny_mono (k h c.ok tk) (fun r _ ⟨h', tk', e, G', C', ok, ext, p⟩ => ⟨h', tk', e, G', C', m, c.after ok ext, q r G' C' (ext.gle c.ok) p⟩) fun _ _ z => z
theorem CodeOk.call {f : Value} {args : List Value} {P : Value → PM → PM → Prop} (k : CodeOk D A f args G C P) : CallOk D A f args G C P := fun h ok tk =>
  wpAny_call (codeAny_mono (k h ok tk) fun r s' q => by rcases r with e | (v | _ | _ | _) <;> exact q)
theorem CodeOk.mono {f : Value} {args : List Value} {P P' : Value → PM → PM → Prop} (k : CodeOk D A f args G C P) (hp : ∀ v G' C', GLe G G' → P v G' C' → P' v G' C') : CodeOk D A f args G C P' := fun h ok tk =>
  codeAny_mono (k h ok tk) fun r s' q => by
    match r, q with
    | .ok (.ret v), ⟨h', tk', e, G', C', ok', ext, p⟩ => exact ⟨h', tk', e, G', C', ok', ext, hp _ _ _ (ext.gle ok) p⟩
section
variable {qn : Str} {sc : Scope} {fa : Addr} {cdv : Value} {cl : List (Str × Addr)}
theorem codeOk_def {f : Addr} {name qual : Str} {params : Arguments} {body : List Stmt} {scope : Scope} {dV kV doc pm cdv ct oc : Value} {an od : Option Addr} {osl : Array (Option Value)} {args : List Value} {binds : List (Str × Value)} {P : Value → PM → PM → Prop}
    (ho : (K D.w.params).lookup f = some ⟨oc, od, .func (fnOf name qual params body scope dV kV doc pm an cdv ct), osl⟩) (hcd : codeIn (K D.w.params) cdv qual = true) (hroom : A.depth < recursionLimit)
    (hbind : ∀ s, (K D.w.params).In s.heap → BindsTo s (fnOf name qual params body scope dV kV doc pm an cdv ct) ⟨args, []⟩ binds) (hloc : ∀ y ∈ binds, scope.names.lookup y.1 = some .local)
    (h : ∀ F : Fn, F.G = G → F.C = C → let env := envX qual scope F.L f cdv []; let A₀ := A.deeper env; let m₀ : LM := fun y => binds.reverse.lookup y; ∀ Q₀, Opq (fun fl G' C' _ => P (match fl with | .ret v => v | _ => .none) G' C') Q₀ → B D F A₀ (execs body env) Q₀ G C m₀)
    (hcell : ∀ x ∈ scope.names, x.2 ≠ .cell) (hco : scope.isCoroutine = false := by rfl) (hgen : scope.isGenerator = false := by rfl) (hk : scope.kind = .function := by rfl) : CodeOk D A (.ref f) args G C P := fun hh ok tk => by
  refine codeAny_call_def (s := St D hh tk) (fd := fnOf name qual params body scope dV kV doc pm an cdv ct) (body := body) (binds := binds) hroom (ok.K _ _ ho) rfl ok.nolimit (codeRec_of ok.K hcd) rfl (hbind _ ok.K) hcell hloc (fun h₁ hns hk₁ => ?_) hco hgen hk
  have cx : Cx D ⟨hh, G, C, hh.objs.size⟩ G C (fun y => binds.reverse.lookup y) h₁ :=
    { ok := ok.grow hk₁, ext := (Ext.grow hk₁).toL, ns := hns, lg := ok.fresh_g (get_size hh), lc := ok.fresh_c (get_size hh), lg0 := ok.fresh_g (get_size hh), lc0 := ok.fresh_c (get_size hh), lb := ok.z hh ok.base, ok0 := ok }
  refine wpAny_mono (h ⟨hh, G, C, hh.objs.size⟩ rfl rfl _ (fun _ _ _ _ x => x) h₁ cx _) (fun fl s' q => ?_) fun _ _ z => z.elim
  obtain ⟨h', tk', rfl, G', C', m', c', q⟩ := q
  exact ⟨h', tk', rfl, G', C', c'.ok, c'.ext.toExt (get_size hh), q⟩
theorem pw_uniq : ∀ {l : List (Str × Addr)} {n n' : Str} {c : Addr}, l.Pairwise (fun x y => x.2 ≠ y.2) → (n, c) ∈ l → (n', c) ∈ l → n = n'
  | x :: l, n, n', c, h, h1, h2 => by
    obtain ⟨ha, hb⟩ := List.pairwise_cons.mp h
    rcases List.mem_cons.mp h1 with e1 | e1 <;> rcases List.mem_cons.mp h2 with e2 | e2
    · rw [← e2] at e1; exact (Prod.mk.inj e1).1
    · exact absurd (by rw [← e1]) (ha _ e2)
    · exact absurd (by rw [← e2]) (ha _ e1)
    · exact pw_uniq hb e1 e2
/-- the parameters' cells stay; the others may be written -/
structure Cells (cl : List (Str × Addr)) (cm : Str → Option Value) (G C G₁ C₁ : PM) : Prop where
  p : ∀ n c v, cl.lookup n = some c → cm n = some v → ∃ o, G₁ c = some o ∧ o.data = .cell (some v)
  q : ∀ n c, cl.lookup n = some c → cm n = none → ∃ o, C₁ c = some o ∧ o.data = .cell none ∧ C c = none ∧ G₁ c = none
  g : GLe G G₁
  c : ∀ a o, C a = some o → C₁ a = some o
theorem codeOk_cells {f : Addr} {name qual : Str} {params : Arguments} {body : List Stmt} {scope : Scope} {dV kV doc pm cdv ct oc : Value} {an od : Option Addr} {osl : Array (Option Value)} {args : List Value} {binds : List (Str × Value)} {P : Value → PM → PM → Prop}
    (ho : (K D.w.params).lookup f = some ⟨oc, od, .func (fnOf name qual params body scope dV kV doc pm an cdv ct), osl⟩) (hcd : codeIn (K D.w.params) cdv qual = true) (hroom : A.depth < recursionLimit)
    (hbind : bindArgs (fnOf name qual params body scope dV kV doc pm an cdv ct) ⟨args, []⟩ = pure binds)
    (hkind : ∀ n, ∀ x ∈ binds, scope.names.lookup x.1 = some .local ∨ (scope.names.lookup x.1 = some .cell ∧ ((cellsFrom n scope.names []).lookup x.1).isSome = true))
    (h : ∀ F : Fn, F.G = G → F.C = C → ∀ G₁ C₁, Cells (cellsFrom (F.L + 1) scope.names []) (bindC (envX qual scope F.L f cdv (cellsFrom (F.L + 1) scope.names [])).kindOf binds fun _ => none) G C G₁ C₁ →
      B D F (A.deeper (envX qual scope F.L f cdv (cellsFrom (F.L + 1) scope.names []))) (execs body (envX qual scope F.L f cdv (cellsFrom (F.L + 1) scope.names []))) (fun fl G' C' _ => P (match fl with | .ret v => v | _ => .none) G' C') G₁ C₁
        (bindL (envX qual scope F.L f cdv (cellsFrom (F.L + 1) scope.names [])).kindOf binds fun _ => none))
    (hnd : ∀ n, ((cellsFrom n scope.names []).map (·.1)).Nodup) (hco : scope.isCoroutine = false := by rfl) (hgen : scope.isGenerator = false := by rfl) (hk : scope.kind = .function := by rfl) : CodeOk D A (.ref f) args G C P := fun hh ok tk => by
  refine codeAny_call_cells (s := St D hh tk) (fd := fnOf name qual params body scope dV kV doc pm an cdv ct) (body := body) (binds := binds) hroom (ok.K _ _ ho) rfl ok.nolimit (codeRec_of ok.K hcd) rfl hbind rfl (hkind _) (fun s₁ x => ?_) hco hgen hk
  obtain ⟨h₁, tk₁, rfl, hk₁⟩ := x.done
  generalize hcl : cellsFrom (hh.objs.size + 1) scope.names [] = cl at *
  have ecl : (callEnvC (fnOf name qual params body scope dV kV doc pm an cdv ct) hh.objs.size f).cells = cl := hcl
  have eenv : callEnvC (fnOf name qual params body scope dV kV doc pm an cdv ct) hh.objs.size f = envX qual scope hh.objs.size f cdv cl := by
    rw [← hcl]; rfl
  rw [show (callEnvC (fnOf name qual params body scope dV kV doc pm an cdv ct) (St D hh tk).heap.objs.size f) = envX qual scope hh.objs.size f cdv cl from eenv] at *
  generalize hcm : bindC (envX qual scope hh.objs.size f cdv cl).kindOf binds (fun _ => none) = cm at *
  have hcellsz : ∀ n c, cl.lookup n = some c → hh.objs.size < c := fun n c e => x.above n c (mem_of_lookup e)
  have hnew : ∀ n c, cl.lookup n = some c → hh.get? c = none := fun n c e => by
    cases q : hh.get? c with
    | none => rfl
    | some o => exact absurd (Heap.lt_size q) (Nat.not_lt.mpr (Nat.le_of_lt (hcellsz n c e)))
  have hcell : ∀ n c, cl.lookup n = some c → ∃ o, h₁.get? c = some o ∧ o.data = .cell (cm n) := fun n c e => x.cell n c e
  have hpw : cl.Pairwise fun x y => x.2 ≠ y.2 := x.apart
  have hnd' : (cl.map (·.1)).Nodup := by rw [← hcl]; exact hnd _
  let isP : Addr → Bool := fun a => cl.any fun e => e.2 == a && (cm e.1).isSome
  let isC : Addr → Bool := fun a => cl.any fun e => e.2 == a && (cm e.1).isNone
  have uniq : ∀ n n' c, (n, c) ∈ cl → (n', c) ∈ cl → n = n' := by
    intro n n' c h1 h2
    exact pw_uniq hpw h1 h2
  have isP_of : ∀ a, isP a = true → ∃ n v, cl.lookup n = some a ∧ cm n = some v := by
    intro a ha
    obtain ⟨⟨n, c⟩, hm, hq⟩ := List.any_eq_true.mp ha
    obtain ⟨h1, h2⟩ := Bool.and_eq_true_iff.mp hq
    have := beq_iff_eq.mp h1
    subst this
    obtain ⟨v, hv⟩ := Option.isSome_iff_exists.mp h2
    exact ⟨n, v, lookup_of_mem_nodup hnd' hm, hv⟩
  have isC_of : ∀ a, isC a = true → ∃ n, cl.lookup n = some a ∧ cm n = none := by
    intro a ha
    obtain ⟨⟨n, c⟩, hm, hq⟩ := List.any_eq_true.mp ha
    obtain ⟨h1, h2⟩ := Bool.and_eq_true_iff.mp hq
    have := beq_iff_eq.mp h1
    subst this
    exact ⟨n, lookup_of_mem_nodup hnd' hm, Option.isNone_iff_eq_none.mp h2⟩
  have isP_new : ∀ a, isP a = true → hh.get? a = none := fun a ha => by obtain ⟨n, v, h1, _⟩ := isP_of a ha; exact hnew n a h1
  have isC_new : ∀ a, isC a = true → hh.get? a = none := fun a ha => by obtain ⟨n, h1, _⟩ := isC_of a ha; exact hnew n a h1
  have isPC : ∀ a, isP a = true → isC a = false := fun a ha => by
    cases q : isC a with
    | false => rfl
    | true =>
      obtain ⟨n, v, h1, h2⟩ := isP_of a ha
      obtain ⟨n', h1', h2'⟩ := isC_of a q
      have := uniq n n' a (mem_of_lookup h1) (mem_of_lookup h1')
      subst this; rw [h2] at h2'; cases h2'
  let G₁ : PM := fun a => if isP a then h₁.get? a else G a
  let C₁ : PM := fun a => if isC a then h₁.get? a else C a
  have g1 : ∀ a, isP a = false → G₁ a = G a := fun a ha => by show (if isP a then _ else _) = _; rw [ha]; rfl
  have g2 : ∀ a, isP a = true → G₁ a = h₁.get? a := fun a ha => by show (if isP a then _ else _) = _; rw [ha]; rfl
  have c1 : ∀ a, isC a = false → C₁ a = C a := fun a ha => by show (if isC a then _ else _) = _; rw [ha]; rfl
  have c2 : ∀ a, isC a = true → C₁ a = h₁.get? a := fun a ha => by show (if isC a then _ else _) = _; rw [ha]; rfl
  have nP : ∀ a, G a ≠ none → isP a = false := fun a ha => by
    cases q : isP a with
    | false => rfl
    | true => exact absurd (ok.fresh_g (isP_new a q)) ha
  have nC : ∀ a, C a ≠ none → isC a = false := fun a ha => by
    cases q : isC a with
    | false => rfl
    | true => exact absurd (ok.fresh_c (isC_new a q)) ha
  have gle : GLe G G₁ := fun a o e => (g1 a (nP a (by rw [e]; simp))).trans e
  have cle : ∀ a o, C a = some o → C₁ a = some o := fun a o e => (c1 a (nC a (by rw [e]; simp))).trans e
  have Lsz : ∀ b : Addr → Bool, (∀ a, b a = true → ∃ n, cl.lookup n = some a) → b hh.objs.size = false := fun b hb => by
    cases q : b hh.objs.size with
    | false => rfl
    | true => obtain ⟨n, h1⟩ := hb _ q; exact absurd (hcellsz n _ h1) (Nat.lt_irrefl _)
  have LP := Lsz isP fun a ha => let ⟨n, _, h1, _⟩ := isP_of a ha; ⟨n, h1⟩
  have LC := Lsz isC fun a ha => let ⟨n, h1, _⟩ := isC_of a ha; ⟨n, h1⟩
  have oldP : ∀ a o, hh.get? a = some o → isP a = false := fun a o e => by
    cases q : isP a with
    | false => rfl
    | true => rw [isP_new a q] at e; cases e
  have oldC : ∀ a o, hh.get? a = some o → isC a = false := fun a o e => by
    cases q : isC a with
    | false => rfl
    | true => rw [isC_new a q] at e; cases e
  have ok1 : Ok D G₁ C₁ h₁ :=
    { x := ok.x, t := ok.t, z := ok.z, gb := fun a o e => gle a o (ok.gb a o e)
      g := fun a o e => by
        cases q : isP a with
        | true => rw [g2 a q] at e; exact e
        | false => rw [g1 a q] at e; exact hk₁ a o (ok.g a o e)
      c := fun a o e => by
        cases q : isC a with
        | true => rw [c2 a q] at e; exact e
        | false => rw [c1 a q] at e; exact hk₁ a o (ok.c a o e)
      gc := fun a o e => by
        cases q : isC a with
        | true =>
          have : isP a = false := by
            cases q' : isP a with
            | false => rfl
            | true => rw [isPC a q'] at q; cases q
          rw [g1 a this]; exact ok.fresh_g (isC_new a q)
        | false =>
          rw [c1 a q] at e
          have hg := ok.gc a o e
          rw [g1 a (oldP a o (ok.c a o e))]; exact hg }
  have cx : Cx D ⟨hh, G, C, hh.objs.size⟩ G₁ C₁ (bindL (envX qual scope hh.objs.size f cdv cl).kindOf binds fun _ => none) h₁ :=
    { ok := ok1
      ext := { gs := fun a o _ e => g1 a (oldP a o e), cs := fun a o _ e => by rw [c1 a (oldC a o e)], keep := fun a o _ e _ => hk₁ a o e }
      ns := x.toInCall.ns, lg := (g1 _ LP).trans (ok.fresh_g (get_size hh)), lc := (c1 _ LC).trans (ok.fresh_c (get_size hh)), lg0 := ok.fresh_g (get_size hh), lc0 := ok.fresh_c (get_size hh), lb := ok.z hh ok.base, ok0 := ok }
  have hcells : Cells cl cm G C G₁ C₁ :=
    { g := gle, c := cle
      p := fun n c v h1 h2 => by
        obtain ⟨o, ho, hd⟩ := hcell n c h1
        have : isP c = true := List.any_eq_true.mpr ⟨(n, c), mem_of_lookup h1, by simp [h2]⟩
        exact ⟨o, (g2 c this).trans ho, by rw [hd, h2]⟩
      q := fun n c h1 h2 => by
        obtain ⟨o, ho, hd⟩ := hcell n c h1
        have hc : isC c = true := List.any_eq_true.mpr ⟨(n, c), mem_of_lookup h1, by simp [h2]⟩
        have hp : isP c = false := by
          cases q' : isP c with
          | false => rfl
          | true => rw [isPC c q'] at hc; cases hc
        exact ⟨o, (c2 c hc).trans ho, by rw [hd, h2], ok.fresh_c (hnew n c h1), (g1 c hp).trans (ok.fresh_g (hnew n c h1))⟩ }
  have := h ⟨hh, G, C, hh.objs.size⟩ rfl rfl G₁ C₁
  dsimp only at this
  rw [hcl, hcm] at this
  refine wpAny_mono (this hcells h₁ cx _) (fun fl s' q => ?_) fun _ _ z => z.elim
  obtain ⟨h', tk', rfl, G', C', m', c', q⟩ := q
  exact ⟨h', tk', rfl, G', C', c'.ok, c'.ext.toExt (get_size hh), q⟩
noncomputable def cellsOk (scope : Scope) (ns : List Str) : Bool := ns.all (fun x => scope.names.lookup x == some .local || (scope.names.lookup x == some .cell && ((cellsFrom 0 scope.names []).map (·.1)).contains x)) && decide ((cellsFrom 0 scope.names []).map (·.1)).Nodup
theorem lookup_isSome_of_mem : ∀ {l : List (Str × Addr)} {x : Str}, x ∈ l.map (·.1) → (l.lookup x).isSome = true
  | (n, c) :: l, x, h => by
    rw [List.lookup_cons]
    cases q : x == n with
    | true => rfl
    | false =>
      rcases List.mem_cons.mp h with e | h
      · have e : x = n := e
        rw [e, beq_self_eq_true] at q; cases q
      · exact lookup_isSome_of_mem h
theorem codeOk_cellsB {f : Addr} {name qual : Str} {params : Arguments} {body : List Stmt} {scope : Scope} {dV kV doc pm cdv ct oc : Value} {an od : Option Addr} {osl : Array (Option Value)} {args : List Value} {binds : List (Str × Value)} {P : Value → PM → PM → Prop}
    (ho : (K D.w.params).lookup f = some ⟨oc, od, .func (fnOf name qual params body scope dV kV doc pm an cdv ct), osl⟩) (hcd : codeIn (K D.w.params) cdv qual = true) (hroom : A.depth < recursionLimit)
    (hbind : bindArgs (fnOf name qual params body scope dV kV doc pm an cdv ct) ⟨args, []⟩ = Pure.pure binds) (hok : cellsOk scope (binds.map (·.1)) = true)
    (h : ∀ F : Fn, F.G = G → F.C = C → ∀ G₁ C₁, let cs := cellsFrom (F.L + 1) scope.names []; let env := envX qual scope F.L f cdv cs; let A₀ := A.deeper env; let m₀ : LM := bindL env.kindOf binds fun _ => none;
      Cells cs (bindC env.kindOf binds fun _ => none) G C G₁ C₁ → ∀ Q₀, Opq (fun fl G' C' _ => P (match fl with | .ret v => v | _ => .none) G' C') Q₀ → B D F A₀ (execs body env) Q₀ G₁ C₁ m₀)
    (hco : scope.isCoroutine = false := by rfl) (hgen : scope.isGenerator = false := by rfl) (hk : scope.kind = .function := by rfl) : CodeOk D A (.ref f) args G C P := by
  obtain ⟨h1, h2⟩ := Bool.and_eq_true_iff.mp hok
  have hnd : ∀ n, ((cellsFrom n scope.names []).map (·.1)).Nodup := fun n => cellsFrom_names scope.names 0 n [] [] rfl ▸ of_decide_eq_true h2
  refine codeOk_cells ho hcd hroom hbind (fun n x hx => ?_) (fun F hG hC G₁ C₁ cl => h F hG hC G₁ C₁ cl _ fun _ _ _ _ x => x) hnd hco hgen hk
  have h3 := List.all_eq_true.mp h1 x.1 (List.mem_map_of_mem hx)
  rcases Bool.or_eq_true_iff.mp h3 with h3 | h3
  · exact .inl (beq_iff_eq.mp h3)
  · obtain ⟨a, b⟩ := Bool.and_eq_true_iff.mp h3
    refine .inr ⟨beq_iff_eq.mp a, lookup_isSome_of_mem ?_⟩
    rw [← cellsFrom_names scope.names 0 n [] [] rfl]
    exact List.contains_iff_mem.mp b
end
end
end Mine
end
section
open PySem PySem.W PyProof.Rows PySem.Calls
set_option maxRecDepth 100000
set_option maxHeartbeats 4000000
namespace Mine
/-! objects -/
inductive LsO (o : Obj) (vs : List Value) : Prop
  | mk : (o.cls = .type "list") → ∀ ep, (o.data = .seq vs.toArray ep) → LsO o vs
theorem LsO.c {o : Obj} {vs : List Value} (h : LsO o vs) : o.cls = .type "list" := let ⟨c, _, _⟩ := h; c
theorem LsO.d {o : Obj} {vs : List Value} (h : LsO o vs) : ∃ ep, o.data = .seq vs.toArray ep := let ⟨_, ep, d⟩ := h; ⟨ep, d⟩
inductive TpO (o : Obj) (vs : List Value) : Prop
  | mk : (o.cls = .type "tuple") → ∀ ep, (o.data = .seq vs.toArray ep) → TpO o vs
/-- a list as it was made -/
inductive PlO (o : Obj) (vs : List Value) : Prop
  | mk : ∀ n, (o = { cls := .type "list", data := .seq vs.toArray n }) → PlO o vs
theorem PlO.ls {o : Obj} {vs : List Value} (h : PlO o vs) : LsO o vs := let ⟨n, e⟩ := h; e ▸ ⟨rfl, n, rfl⟩
inductive LsA (M : PM) (a : Addr) (vs : List Value) : Prop
  | mk : ∀ o, (M a = some o) → (LsO o vs) → LsA M a vs
/-- a list that has no names of its own -/
inductive LzA (M : PM) (a : Addr) (vs : List Value) : Prop
  | mk : ∀ o, (M a = some o) → (PlO o vs) → LzA M a vs
theorem LzA.ls {M : PM} {a : Addr} {vs : List Value} (k : LzA M a vs) : LsA M a vs := let ⟨o, e, p⟩ := k; ⟨o, e, p.ls⟩
inductive TpA (M : PM) (a : Addr) (vs : List Value) : Prop
  | mk : ∀ o, (M a = some o) → (TpO o vs) → TpA M a vs
inductive DcA (D : Wd) (M : PM) (a : Addr) (kvs : List (Str × Value)) : Prop
  | mk : ((a == sysModules) = false) → ∀ o, (M a = some o) → (o.IsDictOf (strKind Pw D.w) kvs) → DcA D M a kvs
/-- the fields' dict, in order -/
inductive Flds : List DictEntry → List (Str × Value) → Prop
  | nil : Flds [] []
  | cons {es fs n v hsh t} : Flds es fs → Flds (⟨hsh, .str n t, v⟩ :: es) ((n, v) :: fs)
theorem Flds.length {es : List DictEntry} {fs : List (Str × Value)} (h : Flds es fs) : es.length = fs.length := by
  induction h with
  | nil => rfl
  | cons _ ih => simp [ih]
theorem Flds.noRef {es : List DictEntry} {fs : List (Str × Value)} (h : Flds es fs) : es.any (·.refKey) = false := by
  induction h with
  | nil => rfl
  | cons _ ih => rw [List.any_cons, ih]; rfl
theorem Flds.get {es : List DictEntry} {fs : List (Str × Value)} (h : Flds es fs) (f : Str) : getL f es = some (fs.lookup f) := by
  unfold getL
  rw [h.noRef]
  induction h with
  | nil => rfl
  | @cons es fs n v hsh t _ ih =>
    rw [List.find?_cons, List.lookup_cons]
    by_cases e : f = n
    · subst e; simp [Value.isStr]
    · have h1 : (n == f) = false := by simpa using Ne.symm e
      have h2 : (f == n) = false := by simpa using e
      simp only [Value.isStr, h1, h2]
      exact ih
theorem Flds.put {es : List DictEntry} {fs : List (Str × Value)} (h : Flds es fs) (name : Str) (hsh : Int) (tk : Tok) (v : Value) (hn : fs.lookup name = none) : Flds (putL name hsh (.str name tk) v es) (fs ++ [(name, v)]) := by
  induction h with
  | nil => exact .cons .nil
  | @cons es fs n v' hsh' t _ ih =>
    rw [List.lookup_cons] at hn
    have e : (name == n) = false := by
      cases q : (name == n) with
      | false => rfl
      | true => rw [q] at hn; cases hn
    rw [e] at hn
    have h1 : (n == name) = false := by
      have : name ≠ n := by simpa using e
      simpa using Ne.symm this
    rw [putL, if_neg (by simp only [Value.isStr, h1]; decide)]
    exact .cons (ih hn)
/-- an object of a class: its class, its fields -/
inductive InA (M : PM) (x : Addr) (c : Addr) (fs : List (Str × Value)) : Prop
  | mk : ∀ dx es n, (M x = some (instObj c dx)) → (M dx = some (dictOf es n)) → (Flds es fs) → InA M x c fs
section
variable {D : Wd} {A : Around} {F : Fn} {G C G' C' : PM} {m : LM} {h : Heap} {a x c : Addr} {vs : List Value} {kvs : List (Str × Value)} {fs : List (Str × Value)}
theorem LsA.up (g : GLe G G') (k : LsA G a vs) : LsA G' a vs := let ⟨o, e, r⟩ := k; ⟨o, g _ _ e, r⟩
theorem LzA.up (g : GLe G G') (k : LzA G a vs) : LzA G' a vs := let ⟨o, e, r⟩ := k; ⟨o, g _ _ e, r⟩
theorem TpA.up (g : GLe G G') (k : TpA G a vs) : TpA G' a vs := let ⟨o, e, r⟩ := k; ⟨o, g _ _ e, r⟩
theorem DcA.up (g : GLe G G') (k : DcA D G a kvs) : DcA D G' a kvs := let ⟨z, o, e, r⟩ := k; ⟨z, o, g _ _ e, r⟩
theorem InA.up (g : GLe G G') (k : InA G x c fs) : InA G' x c fs := let ⟨dx, es, n, e, e', r⟩ := k; ⟨dx, es, n, g _ _ e, g _ _ e', r⟩
/-- what may be read -/
noncomputable def Rd (G C : PM) (P : PM → Prop) : Prop := P G ∨ P C
theorem rdL (k : Ok D G C h) (r : Rd G C fun M => LsA M a vs) : h.IsList a vs.toArray := by
  rcases r with ⟨o, e, hc, ep, hd⟩ | ⟨o, e, hc, ep, hd⟩
  · exact ⟨o, k.g _ _ e, hc, ⟨ep, hd⟩⟩
  · exact ⟨o, k.c _ _ e, hc, ⟨ep, hd⟩⟩
theorem rdD (k : Ok D G C h) (r : Rd G C fun M => DcA D M a kvs) : (a == sysModules) = false ∧ Heap.DictOf (strKind Pw D.w) h a kvs := by
  rcases r with ⟨z, o, e, q⟩ | ⟨z, o, e, q⟩
  · exact ⟨z, Heap.dictOf_iff.mpr ⟨o, k.g _ _ e, q⟩⟩
  · exact ⟨z, Heap.dictOf_iff.mpr ⟨o, k.c _ _ e, q⟩⟩
theorem rdI (k : Ok D G C h) (r : InA G x c fs) : ∃ ox es n, W.InstAt h x ox c (some (dictOf es n)) ∧ Flds es fs := by
  obtain ⟨dx, es, n, e, e', q⟩ := r
  exact ⟨_, es, n, ⟨k.g _ _ e, rfl, rfl, k.g _ _ e'⟩, q⟩
variable {env : Env} {pos : Pos}
/-! arguments and calls -/
theorem B.args {e : PySem.Expr} {rest : List PySem.Expr} {Q : List Value → PM → PM → LM → Prop} (q : B D F A (eval e env) (Kc D F A (spliced (backTo pos (starEach rest env))) Q) G C m)
    (he : starEach (e :: rest) env = (false, eval e env) :: starEach rest env := by rfl) : B D F A (spliced (backTo pos (starEach (e :: rest) env))) Q G C m := fun hh c tk =>
  args_cons (wpAny_mono (q hh c tk) (fun _ _ ⟨h', tk', e, G', C', m', c', q⟩ => by subst e; exact wp_map (f := fun vs => _ :: vs) (Q := Q) (q h' c' tk')) fun _ _ z => z) he
theorem B.args0 {Q : List Value → PM → PM → LM → Prop} (q : Q [] G C m) : B D F A (spliced (backTo pos (starEach [] env))) Q G C m := B.val (· = []) (fun h c Q E tk k => args_nil (k _ _ rfl)) fun v e => e ▸ q
theorem B.withK {f : Value} {first : List Value} {e : PySem.Expr} {rest : List PySem.Expr} {Q : Value → PM → PM → LM → Prop} (hk : keepIn (K D.w.params) f = true) (q : B D F A (spliced (backTo pos (starEach (e :: rest) env))) (Kb D F A (fun vs => PySem.call f (first ++ vs)) Q) G C m)
    (he : starEach (e :: rest) env = (false, eval e env) :: starEach rest env := by rfl) (hp : (backTo pos (starEach rest env)).any (·.1) = false := by rfl) : B D F A (callWith pos f first (backTo pos (starEach (e :: rest) env)) []) Q G C m := fun hh c tk =>
  callWith_K c.ok.K hk (wpAny_mono (q hh c tk) (fun _ _ ⟨h', tk', e, G', C', m', c', q⟩ => by subst e; exact ⟨c'.ok.K, q h' c' tk'⟩) fun _ _ z => z) he hp
theorem B.withK0 {f : Value} {first : List Value} {Q : Value → PM → PM → LM → Prop} (hk : keepIn (K D.w.params) f = true) (q : B D F A (PySem.call f (first ++ [])) Q G C m) : B D F A (callWith pos f first (backTo pos (starEach [] env)) []) Q G C m := fun hh c tk =>
  callWith_K0 c.ok.K hk (q hh c tk)
theorem B.withB {f : String} {first : List Value} {e : PySem.Expr} {rest : List PySem.Expr} {Q : Value → PM → PM → LM → Prop} (q : B D F A (spliced (backTo pos (starEach (e :: rest) env))) (Kb D F A (fun vs => PySem.call (.builtin f) (first ++ vs)) Q) G C m)
    (he : starEach (e :: rest) env = (false, eval e env) :: starEach rest env := by rfl) (hp : (backTo pos (starEach rest env)).any (·.1) = false := by rfl) : B D F A (callWith pos (.builtin f) first (backTo pos (starEach (e :: rest) env)) []) Q G C m :=
  B.of1 (t₂ := fun vs => PySem.call (.builtin f) (first ++ vs)) (fun _ _ _ h => callWith_method1 h he hp) q
theorem B.withB0 {f : String} {first : List Value} {Q : Value → PM → PM → LM → Prop} (q : B D F A (PySem.call (.builtin f) first) Q G C m) : B D F A (callWith pos (.builtin f) first (backTo pos (starEach [] env)) []) Q G C m := B.of0 (fun _ _ _ h => callWith_method0 h) q
theorem B.withT {f : String} {e : PySem.Expr} {rest : List PySem.Expr} {Q : Value → PM → PM → LM → Prop} (q : B D F A (spliced (backTo pos (starEach (e :: rest) env))) (Kb D F A (fun vs => PySem.call (.type f) vs) Q) G C m)
    (he : starEach (e :: rest) env = (false, eval e env) :: starEach rest env := by rfl) (hp : (backTo pos (starEach rest env)).any (·.1) = false := by rfl) : B D F A (callWith pos (.type f) [] (backTo pos (starEach (e :: rest) env)) []) Q G C m :=
  B.of1 (t₂ := fun vs => PySem.call (.type f) vs) (fun _ _ _ h => Pv.callWith_type1 h he hp) q
/-! new objects: as they stay -/
@[reducible] def KTup (Q : Value → PM → PM → LM → Prop) : List Value → PM → PM → LM → Prop := fun vs G C m => vs.length ≤ sizeLine ∧ ∀ a G', GLe G G' → TpA G' a vs → Q (.ref a) G' C m
@[reducible] def KLst (Q : Value → PM → PM → LM → Prop) : List Value → PM → PM → LM → Prop := fun vs G C m => vs.length ≤ sizeLine ∧ ∀ a G', GLe G G' → LsA G' a vs → Q (.ref a) G' C m
@[reducible] def KLsC (F : Fn) (Q : Value → PM → PM → LM → Prop) : List Value → PM → PM → LM → Prop := fun vs G C m => vs.length ≤ sizeLine ∧ ∀ a o, G a = none → C a = none → F.C a = none → PlO o vs → Q (.ref a) G (up C a o) m
theorem B.tuple {es : List PySem.Expr} {k : Nat} {Q : Value → PM → PM → LM → Prop}
    (q : B D F A (spliced (backTo pos (starEach es env))) (KTup Q) G C m) : B D F A (eval (.Tuple es k pos) env) Q G C m := fun hh c tk =>
  wpAny_Tuple (wpAny_mono (q hh c tk) (fun vs _ ⟨h', tk', e, G', C', m', c', hs, q⟩ => by
    subst e
    have ha := get_size h'
    have hk : ∀ x o, h'.get? x = some o → (h'.push { cls := .type "tuple", data := .seq vs.toArray }).get? x = some o := fun x o e => Heap.get?_push_of_some _ e
    exact ⟨hs, _, tk', rfl, _, C', m', c'.after (c'.ok.newG ha (Heap.get?_push_size _ rfl) hk) (.newG ha hk), q _ _ (.up (c'.ok.fresh_g ha)) ⟨_, up_self, rfl, _, rfl⟩⟩) fun _ _ z => z)
theorem B.list {es : List PySem.Expr} {Q : Value → PM → PM → LM → Prop}
    (q : B D F A (spliced (backTo pos (starEach es env))) (KLst Q) G C m) : B D F A (eval (.List es pos) env) Q G C m := fun hh c tk =>
  wpAny_List_spliced (wpAny_mono (q hh c tk) (fun vs _ ⟨h', tk', e, G', C', m', c', hs, q⟩ => by
    subst e
    have ha := get_size h'
    have hk : ∀ x o, h'.get? x = some o → (h'.push { cls := .type "list", data := .seq vs.toArray }).get? x = some o := fun x o e => Heap.get?_push_of_some _ e
    exact ⟨hs, _, tk', rfl, _, C', m', c'.after (c'.ok.newG ha (Heap.get?_push_size _ rfl) hk) (.newG ha hk), q _ _ (.up (c'.ok.fresh_g ha)) ⟨_, up_self, rfl, _, rfl⟩⟩) fun _ _ z => z)
@[reducible] def KLsz (Q : Value → PM → PM → LM → Prop) : List Value → PM → PM → LM → Prop := fun vs G C m => vs.length ≤ sizeLine ∧ ∀ a G', GLe G G' → LzA G' a vs → Q (.ref a) G' C m
theorem B.listZ {es : List PySem.Expr} {Q : Value → PM → PM → LM → Prop}
    (q : B D F A (spliced (backTo pos (starEach es env))) (KLsz Q) G C m) : B D F A (eval (.List es pos) env) Q G C m := fun hh c tk =>
  wpAny_List_spliced (wpAny_mono (q hh c tk) (fun vs _ ⟨h', tk', e, G', C', m', c', hs, q⟩ => by
    subst e
    have ha := get_size h'
    have hk : ∀ x o, h'.get? x = some o → (h'.push { cls := .type "list", data := .seq vs.toArray }).get? x = some o := fun x o e => Heap.get?_push_of_some _ e
    exact ⟨hs, _, tk', rfl, _, C', m', c'.after (c'.ok.newG ha (Heap.get?_push_size _ rfl) hk) (.newG ha hk), q _ _ (.up (c'.ok.fresh_g ha)) ⟨_, up_self, _, rfl⟩⟩) fun _ _ z => z)
/-- a list that may be written -/
theorem B.listC {es : List PySem.Expr} {Q : Value → PM → PM → LM → Prop}
    (q : B D F A (spliced (backTo pos (starEach es env))) (KLsC F Q) G C m) : B D F A (eval (.List es pos) env) Q G C m := fun hh c tk =>
  wpAny_List_spliced (wpAny_mono (q hh c tk) (fun vs _ ⟨h', tk', e, G', C', m', c', hs, q⟩ => by
    subst e
    have ha := get_size h'
    have hk : ∀ x o, h'.get? x = some o → (h'.push { cls := .type "list", data := .seq vs.toArray }).get? x = some o := fun x o e => Heap.get?_push_of_some _ e
    exact ⟨hs, _, tk', rfl, G', _, m', c'.after (c'.ok.newC ha (Heap.get?_push_size _ rfl) hk) (.newC ha hk), q _ _ (c'.ok.fresh_g ha) (c'.ok.fresh_c ha) (c'.own ha) ⟨_, rfl⟩⟩) fun _ _ z => z)
/-- an empty dict that may be written -/
theorem B.dictC {Q : Value → PM → PM → LM → Prop} (q : ∀ a o, G a = none → C a = none → F.C a = none → (a == sysModules) = false → o.IsDictOf (strKind Pw D.w) [] → Q (.ref a) G (up C a o) m) : B D F A (eval (.Dict [] [] pos) env) Q G C m := fun hh c tk =>
  wpAny_Dict_empty (by
    have ha := get_size hh
    have hk : ∀ x o, hh.get? x = some o → (hh.push { cls := .type "dict", data := .dict #[] }).get? x = some o := fun x o e => Heap.get?_push_of_some _ e
    exact ⟨_, tk, rfl, G, _, m, c.after (c.ok.newC ha (Heap.get?_push_size _ rfl) hk) (.newC ha hk), q _ _ (c.ok.fresh_g ha) (c.ok.fresh_c ha) (c.own ha) (beq_eq_false_iff_ne.mpr (Nat.ne_of_gt (modules_low c.ok.nolimit)))
      ⟨#[], 0, ⟨rfl, rfl, rfl⟩, rfl, fun _ he => by simp at he, .nil, .nil⟩⟩)
/-! instances -/
noncomputable def restL (b h : Heap) (L d : Addr) : List (Addr × Obj) := (List.range h.objs.size).filterMap fun a => if (b.get? a).isSome || a == L || a == d then none else (h.get? a).map fun o => (a, o)
theorem restL_mem' {b h : Heap} {L d : Addr} {p : Addr × Obj} (hp : p ∈ restL b h L d) : h.get? p.1 = some p.2 ∧ p.1 ≠ L ∧ b.get? p.1 = none ∧ p.1 ≠ d := by
  obtain ⟨a, _, e⟩ := List.mem_filterMap.mp hp
  split at e
  · cases e
  · rename_i n
    obtain ⟨o, ho, rfl⟩ := Option.map_eq_some_iff.mp e
    simp only [Bool.or_eq_true, not_or, beq_iff_eq, Bool.not_eq_true, Option.isSome_eq_false_iff, Option.isNone_iff_eq_none] at n
    exact ⟨ho, n.1.2, n.1.1, n.2⟩
theorem restL_mem {b h : Heap} {L d a : Addr} {o : Obj} (e : h.get? a = some o) (hb : b.get? a = none) (h1 : a ≠ L) (h2 : a ≠ d) : (a, o) ∈ restL b h L d :=
  List.mem_filterMap.mpr ⟨a, List.mem_range.mpr (Heap.lt_size e), by rw [hb, e]; simp [h1, h2]⟩
/-- a ledger's store, seen in the ghosts -/
theorem Cx.updN {m' : LM} (c : Cx D F G C m h) {a : Addr} {o o' : Obj} (e : C a = some o) (F' : Fr D.b F.L h' m') (N' : News D.b F.L h' ((a, o') :: restL D.b h F.L a)) : Cx D F G (Mine.up C a o') m' h' := by
  have hs : ∀ x q, x ≠ a → x ≠ F.L → h.get? x = some q → h'.get? x = some q := fun x q n nL hq => by
    cases hb : D.b.get? x with
    | none => exact (N' _ (List.mem_cons_of_mem _ (restL_mem hq hb nL n))).1
    | some q' => rw [c.ok.base x q' hb] at hq; cases hq; exact F'.keep x _ hb
  have ha : h'.get? a = some o' := (N' _ List.mem_cons_self).1
  have aL : a ≠ F.L := fun z => by rw [z, c.lc] at e; cases e
  exact
    { ok := { x := c.ok.x, t := c.ok.t, z := c.ok.z, gb := c.ok.gb
              g := fun x q hq => hs x q (fun z => by rw [z, c.ok.gc a o e] at hq; cases hq) (fun z => by rw [z, c.lg] at hq; cases hq) (c.ok.g x q hq)
              c := fun x q hq => by
                by_cases hx : x = a
                · subst hx; rw [up_self] at hq; cases hq; exact ha
                · rw [up_ne hx] at hq; exact hs x q hx (fun z => by rw [z, c.lc] at hq; cases hq) (c.ok.c x q hq)
              gc := fun x q hq => by
                by_cases hx : x = a
                · subst hx; exact c.ok.gc x o e
                · rw [up_ne hx] at hq; exact c.ok.gc x q hq }
      ext := { gs := c.ext.gs
               cs := fun x q n hq => by
                 rw [← c.ext.cs x q n hq]
                 by_cases hx : x = a
                 · subst hx; rw [up_self, e]; simp
                 · rw [up_ne hx]
               keep := fun x q n hq hc => hs x q (fun z => by
                 subst z
                 rw [(c.ext.cs x q n hq).mpr hc] at e; cases e) n (c.ext.keep x q n hq hc) }
      ns := F'.ns, lg := c.lg, lc := by rw [up_ne (Ne.symm aL)]; exact c.lc
      lg0 := c.lg0, lc0 := c.lc0, lb := c.lb, ok0 := c.ok0 }
theorem Cx.newsN (c : Cx D F G C m h) {a : Addr} {o : Obj} (e : C a = some o) : News D.b F.L h ((a, o) :: restL D.b h F.L a) := fun p hp => by
  rcases List.mem_cons.mp hp with rfl | hp
  · refine ⟨c.ok.c _ _ e, fun z => ?_, ?_⟩
    · have : a = F.L := z
      rw [this, c.lc] at e; cases e
    · cases q : D.b.get? a with
      | none => rfl
      | some o' => have := c.ok.gb _ _ q; rw [c.ok.gc a o e] at this; cases this
  · have := restL_mem' hp
    exact ⟨this.1, this.2.1, this.2.2.1⟩
/-- o.name = v, a new field -/
theorem B.setAttr {x dx c : Addr} {es : List DictEntry} {n : Nat} {name : Str} {v : Value} {fs : List (Str × Value)} {Q : Unit → PM → PM → LM → Prop} (hx : C x = some (instObj c dx)) (hd : C dx = some (dictOf es n)) (hf : Flds es fs)
    (hs : findIn (K D.w.params) (.ref c) "__setattr__" = some (some (.builtin "object.__setattr__"))) (hp : plainOver (K D.w.params) c = true) (ht : takerIn (K D.w.params) c name = some none) (hh : hasDictIn (K D.w.params) c = true)
    (hn : fs.lookup name = none) (hz : fs.length < 100) (q : ∀ es' n', Flds es' (fs ++ [(name, v)]) → Q () G (Mine.up C dx (dictOf es' n')) m) : B D F A (setAttr (.ref x) name v) Q G C m := fun h cx tk => by
  have hf' := hf.put name (PyData.keyHash D.w.params name) (tk + 1) v hn
  refine set_dict (s := St D h tk) (dx := dx) (n := n) cx.fr cx.ok.x (cx.newsN hd) ⟨cx.ok.c _ _ hx, rfl, rfl, cx.ok.c _ _ hd⟩ rfl hs hp ht hh (by rw [hf.get]; rfl) rfl (.head fun p hp => (restL_mem' hp).2.2.2) (Nat.le_trans (Nat.le_of_eq hf'.length) (by simp; lia)) fun h' F' N' => ?_
  exact ⟨h', tk + 2, rfl, G, _, m, cx.updN hd F' N', q _ _ hf'⟩
/-- o.name -/
theorem B.getAttr {x c : Addr} {fs : List (Str × Value)} {name : Str} {v : Value} {attr : Option Value} {expr : Bool} {Q : Value → PM → PM → LM → Prop} (hx : Rd G C fun M => InA M x c fs) (hv : fs.lookup name = some v)
    (hg : plainGet (K D.w.params) c name = true) (hh : hasDictIn (K D.w.params) c = true) (ha : findIn (K D.w.params) (.ref c) name = some attr) (hn : noGet (K D.w.params) attr = true) (hi : handedIn v = true) (q : Q v G C m) : B D F A (PySem.getAttr (.ref x) name expr) Q G C m :=
  B.val (· = v) (fun h cx Q E tk j => by
    obtain ⟨ox, es, n, I, fl⟩ : ∃ ox es n, W.InstAt h x ox c (some (dictOf es n)) ∧ Flds es fs := by
      rcases hx with ⟨dx, es, n, e, e', fl⟩ | ⟨dx, es, n, e, e', fl⟩
      · exact ⟨_, es, n, ⟨cx.ok.g _ _ e, rfl, rfl, cx.ok.g _ _ e'⟩, fl⟩
      · exact ⟨_, es, n, ⟨cx.ok.c _ _ e, rfl, rfl, cx.ok.c _ _ e'⟩, fl⟩
    exact get_own (s := St D h tk) cx.fr cx.ok.x I hg hh ha hn (by rw [fl.get, hv]) hi (j _ _ rfl)) fun _ e => e ▸ q
/-- o.name(..) -/
theorem B.getMeth {x c f : Addr} {fs : List (Str × Value)} {name : Str} {pl : Sem Bool} {Q : Value × List Value → PM → PM → LM → Prop} (hx : Rd G C fun M => InA M x c fs) (hv : fs.lookup name = none)
    (hg : plainGet (K D.w.params) c name = true) (hf : findIn (K D.w.params) (.ref c) name = some (some (.ref f))) (ht : isFn (K D.w.params) (.ref f) = true) (q : Q (.ref f, [.ref x]) G C m) : B D F A (getMethod (.ref x) name pl) Q G C m :=
  B.val (· = (.ref f, [.ref x])) (fun h cx Q E tk j => by
    obtain ⟨ox, es, n, I, fl⟩ : ∃ ox es n, W.InstAt h x ox c (some (dictOf es n)) ∧ Flds es fs := by
      rcases hx with ⟨dx, es, n, e, e', fl⟩ | ⟨dx, es, n, e, e', fl⟩
      · exact ⟨_, es, n, ⟨cx.ok.g _ _ e, rfl, rfl, cx.ok.g _ _ e'⟩, fl⟩
      · exact ⟨_, es, n, ⟨cx.ok.c _ _ e, rfl, rfl, cx.ok.c _ _ e'⟩, fl⟩
    exact method_inst (s := St D h tk) cx.fr cx.ok.x I hg hf ht (by rw [fl.get, hv]) (j _ _ rfl)) fun _ e => e ▸ q
/-- it is not written any more -/
theorem B.freeze {α : Type} {t : Sem α} {Q : α → PM → PM → LM → Prop} {o : Obj} (e : C a = some o) (hn : F.C a = none) (q : GLe G (up G a o) → B D F A t Q (up G a o) (rm C a) m) (hg : G a = none) : B D F A t Q G C m := fun hh c tk =>
  q (.up hg) hh (c.freeze e hn) tk
/-! items -/
theorem B.itemL {value slice : PySem.Expr} {l : Addr} {k : Int} {u : Tok} {v : Value} {Q : Value → PM → PM → LM → Prop} (hl : Rd G C fun M => LsA M l vs) (h0 : 0 ≤ k) (hhi : k < 2 ^ 63) (hx : vs[k.toNat]? = some v) (q : Q v G C m)
    (hs : subscripted slice false (.ref l) (.int k u) = operate [.ref l, .int k u] (getItem (.ref l) (.int k u)) := by kernel_rfl) : B D F A (subscriptTail value slice (.ref l) (.int k u)) Q G C m :=
  B.val (· = v) (fun h c Q E tk j => tail_any (rdL c.ok hl).typeIs slot_list_getitem.lookup (wpAny_getItem_list (rdL c.ok hl) h0 hhi (by simpa using hx) (j _ _ rfl)) hs) fun _ e => e ▸ q
theorem B.itemT {value slice : PySem.Expr} {l : Addr} {k : Int} {u : Tok} {j : Nat} {v : Value} {Q : Value → PM → PM → LM → Prop} (hl : TpA G l vs) (h0 : -2 ^ 63 ≤ k) (hhi : k < 2 ^ 63) (hj : seqIndex? k vs.length = some j) (hx : vs[j]? = some v) (q : Q v G C m)
    (hs : subscripted slice false (.ref l) (.int k u) = operate [.ref l, .int k u] (getItem (.ref l) (.int k u)) := by kernel_rfl) : B D F A (subscriptTail value slice (.ref l) (.int k u)) Q G C m :=
  B.val (· = v) (fun h c Q E tk z => item_tupleT (by obtain ⟨o, e, hc, ep, hd⟩ := hl; exact ⟨o, c.ok.g _ _ e, hc, ⟨ep, hd⟩⟩) h0 hhi hj hx (z _ _ rfl) hs) fun _ e => e ▸ q
theorem B.itemD {value slice : PySem.Expr} {l : Addr} {k : Str} {u : Tok} {v : Value} {Q : Value → PM → PM → LM → Prop} (hl : Rd G C fun M => DcA D M l kvs) (hx : valueAt kvs k = some v) (q : Q v G C m)
    (hs : subscripted slice false (.ref l) (.str k u) = operate [.ref l, .str k u] (getItem (.ref l) (.str k u)) := by kernel_rfl) : B D F A (subscriptTail value slice (.ref l) (.str k u)) Q G C m :=
  B.val (· = v) (fun h c Q E tk j => tail_any (rdD c.ok hl).2.mapOf.typeIs slot_dict_getitem.lookup (wpAny_getItem_of (strKind_is Pw D.w k u) (rdD c.ok hl).2.mapOf hx (j _ _ rfl)) hs) fun _ e => e ▸ q
theorem B.setL {l : Addr} {o : Obj} {k : Int} {u : Tok} {v : Value} {Q : Unit → PM → PM → LM → Prop} (hc : C l = some o) (hl : LsO o vs) (h0 : 0 ≤ k) (hhi : k < 2 ^ 63) (hx : k < (vs.length : Int)) (q : ∀ o', LsO o' (vs.set k.toNat v) → Q () G (up C l o') m) :
    B D F A (setItem (.ref l) (.int k u) v) Q G C m := fun h c tk =>
  wpAny_setItem_list (s := St D h tk) (l := l) (items := vs.toArray) ⟨o, c.ok.c _ _ hc, hl.c, hl.d⟩ h0 hhi (by simpa using hx) fun h' hi hs => by
    obtain ⟨o', ho', hcl, ep, hd⟩ := hi
    refine ⟨h', tk, rfl, G, _, m, c.after (c.ok.upd hc (fun x q n e => (hs.2 x n).trans e) ho') (.upd hc fun x q n e => (hs.2 x n).trans e), q o' ⟨hcl, ep, by rw [hd]; simp⟩⟩
theorem B.setD {l : Addr} {o : Obj} {k : Str} {u : Tok} {v : Value} {Q : Unit → PM → PM → LM → Prop} (hc : C l = some o) (hl : o.IsDictOf (strKind Pw D.w) kvs) (hz : kvs.length ≤ sizeLine) (q : ∀ o', o'.IsDictOf (strKind Pw D.w) (stored kvs k v) → Q () G (up C l o') m) :
    B D F A (setItem (.ref l) (.str k u) v) Q G C m := fun h c tk =>
  wpAny_setItem_pairs (s := St D h tk) (knd := strKind Pw D.w) (k := k) (strKind_is Pw D.w k u) (Heap.dictOf_iff.mpr ⟨o, c.ok.c _ _ hc, hl⟩) (fun h' hi hs => by
    obtain ⟨o', ho', hd⟩ := Heap.dictOf_iff.mp hi
    exact ⟨h', tk + 1, rfl, G, _, m, c.after (c.ok.upd hc (fun x q n e => (hs.2 x n).trans e) ho') (.upd hc fun x q n e => (hs.2 x n).trans e), q o' hd⟩) hz
theorem B.inD {l : Addr} {k : Str} {u : Tok} {Q : Value → PM → PM → LM → Prop} (hl : Rd G C fun M => DcA D M l kvs) (q : Q (.bool (valueAt kvs k).isSome) G C m) : B D F A (compareOp .In (.str k u) (.ref l)) Q G C m :=
  B.val (· = .bool (valueAt kvs k).isSome) (fun h c Q E tk j => wpAny_in_of (strKind_is Pw D.w k u) (rdD c.ok hl).1 (rdD c.ok hl).2.mapOf (j _ _ rfl)) fun _ e => e ▸ q
theorem B.lenL {l : Addr} {Q : Value → PM → PM → LM → Prop} (hl : Rd G C fun M => LsA M l vs) (hz : vs.length < 2 ^ 63) (q : ∀ t, Q (.int vs.length t) G C m) : B D F A (PySem.call (.builtin "len") [.ref l]) Q G C m :=
  B.val (fun v => ∃ t, v = .int vs.length t) (fun h c Q E tk j => len_list (rdL c.ok hl) (by simp; lia) (by rw [List.size_toArray]; exact j _ _ ⟨_, rfl⟩)) fun _ ⟨t, e⟩ => e ▸ q t
theorem B.intInt {i : Int} {u : Tok} {Q : Value → PM → PM → LM → Prop} (q : Q (.int i u) G C m) : B D F A (PySem.call (.type "int") [.int i u]) Q G C m :=
  B.val (· = .int i u) (fun h c Q E tk j => call_int_int (j _ _ rfl)) fun _ e => e ▸ q
theorem B.intBool {i : Bool} {Q : Value → PM → PM → LM → Prop} (q : ∀ t, Q (.int (if i then 1 else 0) t) G C m) : B D F A (PySem.call (.type "int") [.bool i]) Q G C m :=
  B.val (fun v => ∃ t, v = .int (if i then 1 else 0) t) (fun h c Q E tk j => call_int_bool (j _ _ ⟨_, rfl⟩)) fun _ ⟨t, e⟩ => e ▸ q t
theorem Then.next {rest : List Stmt} {Q : Flow → PM → PM → LM → Prop} (q : B D F A (execs rest env) Q G C m) : Then D F A rest env Q .next G C m := q
theorem Then.ret {rest : List Stmt} {v : Value} {Q : Flow → PM → PM → LM → Prop} (q : Q (.ret v) G C m) : Then D F A rest env Q (.ret v) G C m := q
theorem B.ifS {b : Bool} {s t : List Stmt} {Q : Flow → PM → PM → LM → Prop} (h1 : b = true → B D F A (execs s env) Q G C m) (h2 : b = false → B D F A (execs t env) Q G C m) : B D F A (execs (bif b then s else t) env) Q G C m := by cases b; exact h2 rfl; exact h1 rfl
theorem B.ifE {b : Bool} {s t : PySem.Expr} {Q : Value → PM → PM → LM → Prop} (h1 : b = true → B D F A (eval s env) Q G C m) (h2 : b = false → B D F A (eval t env) Q G C m) : B D F A (eval (bif b then s else t) env) Q G C m := by cases b; exact h2 rfl; exact h1 rfl
/-- a class is called -/
theorem codeOk_cls {c fI : Addr} {args : List Value} {P : Value → PM → PM → Prop} (hm : makesIn (K D.w.params) c = true) (hi : findIn (K D.w.params) (.ref c) "__init__" = some (some (.ref fI))) (hf : typeIn (K D.w.params) (.ref fI) = some (.type "function"))
    (h : ∀ x dx, G x = none → C x = none → G dx = none → C dx = none → x ≠ dx → CodeOk D (A.under (.builtin "type.__call__" ⟨.ref c :: args, []⟩)) (.ref fI) (.ref x :: args) G (Mine.up (Mine.up C dx emptyDict) x (instObj c dx)) (fun r G' C' => r = .none ∧
      ∃ es n, C' x = some (instObj c dx) ∧ C' dx = some (dictOf es n) ∧ G' x = none ∧ G' dx = none ∧ ∃ fs, Flds es fs ∧ ∀ G'', GLe G' G'' → InA G'' x c fs → P (.ref x) G'' (rm (rm C' dx) x))) : CodeOk D A (.ref c) args G C P := fun hh ok tk => by
  refine make_core (makes_of ok.K hm) (looks_findIn ok.K hi) (fun self => bind_fn ok.K self hf) (.inl rfl) ?_
  have e0 := get_size hh
  have n1 : hh.get? (hh.objs.size + 1) = none := by
    cases q : hh.get? (hh.objs.size + 1) with
    | none => rfl
    | some o => exact absurd (Heap.lt_size q) (Nat.not_lt.mpr (Nat.le_succ _))
  have k1 : ∀ a o, hh.get? a = some o → (hh.push emptyDict).get? a = some o := fun a o e => Heap.get?_push_of_some _ e
  have k2 : ∀ a o, (hh.push emptyDict).get? a = some o → ((hh.push emptyDict).push (instObj c hh.objs.size)).get? a = some o := fun a o e => Heap.get?_push_of_some _ e
  have ok1 := ok.newC (h' := hh.push emptyDict) e0 (Heap.get?_push_size _ rfl) k1
  have x1 : Ext G C hh G (Mine.up C hh.objs.size emptyDict) (hh.push emptyDict) := .newC e0 k1
  have e1 : (hh.push emptyDict).get? (hh.objs.size + 1) = none := by have := get_size (hh.push emptyDict); rwa [Heap.size_push] at this
  have g1 : ((hh.push emptyDict).push (instObj c hh.objs.size)).get? (hh.objs.size + 1) = some (instObj c hh.objs.size) := by have := Heap.get?_push_size (hh.push emptyDict) (o := instObj c hh.objs.size) rfl; rwa [Heap.size_push] at this
  have ok2 := ok1.newC (h' := (hh.push emptyDict).push (instObj c hh.objs.size)) e1 g1 k2
  have x2 := x1.trans ok1 (Ext.newC (G := G) (C := Mine.up C hh.objs.size emptyDict) e1 k2 (o := instObj c hh.objs.size))
  refine codeAny_mono (h (hh.objs.size + 1) hh.objs.size (ok.fresh_g n1) (ok.fresh_c n1) (ok.fresh_g e0) (ok.fresh_c e0) (Nat.succ_ne_self _) _ ok2 tk) fun r s' q => ?_
  match r, q with
  | .ok (.ret v), ⟨h', tk', e, G', C', ok', ext, ev, es, n, hx, hd, gx, gd, fs, fl, p⟩ =>
    refine ⟨ev, h', tk', e, Mine.up (Mine.up G' hh.objs.size (dictOf es n)) (hh.objs.size + 1) (instObj c hh.objs.size), _, ?_, ?_, p _ (fun a o e => ?_) ⟨hh.objs.size, es, n, up_self, ?_, fl⟩⟩
    · have ne : hh.objs.size + 1 ≠ hh.objs.size := Nat.succ_ne_self _
      exact
        { x := ok'.x, t := ok'.t, z := ok'.z
          gb := fun a o e => by
            have := ok'.gb a o e
            rw [up_ne (fun z => by rw [z, gx] at this; cases this), up_ne (fun z => by rw [z, gd] at this; cases this)]; exact this
          g := fun a o e => by
            by_cases z : a = hh.objs.size + 1
            · subst z; rw [up_self] at e; cases e; exact ok'.c _ _ hx
            · rw [up_ne z] at e
              by_cases z : a = hh.objs.size
              · subst z; rw [up_self] at e; cases e; exact ok'.c _ _ hd
              · rw [up_ne z] at e; exact ok'.g a o e
          c := fun a o e => by
            by_cases z : a = hh.objs.size + 1
            · subst z; rw [rm_self] at e; cases e
            · rw [rm_ne z] at e
              by_cases z : a = hh.objs.size
              · subst z; rw [rm_self] at e; cases e
              · rw [rm_ne z] at e; exact ok'.c a o e
          gc := fun a o e => by
            by_cases z : a = hh.objs.size + 1
            · subst z; rw [rm_self] at e; cases e
            · rw [rm_ne z] at e
              by_cases z' : a = hh.objs.size
              · subst z'; rw [rm_self] at e; cases e
              · rw [rm_ne z'] at e; rw [up_ne z, up_ne z']; exact ok'.gc a o e }
    · have x3 := x2.trans ok2 ext
      have old : ∀ {a : Addr} {o : Obj}, hh.get? a = some o → a ≠ hh.objs.size + 1 ∧ a ≠ hh.objs.size := fun {a o} e => ⟨(fun z => by rw [z, n1] at e; cases e), (fun z => by rw [z, e0] at e; cases e)⟩
      exact ⟨fun a o e => by rw [up_ne (old e).1, up_ne (old e).2]; exact x3.gs a o e, fun a o e => by rw [rm_ne (old e).1, rm_ne (old e).2]; exact x3.cs a o e, x3.keep⟩
    · rw [up_ne (fun z => by rw [z, gx] at e; cases e), up_ne (fun z => by rw [z, gd] at e; cases e)]; exact e
    · rw [up_ne (Nat.ne_of_lt (Nat.lt_succ_self _)), up_self]
end
structure Room (A : Around) (n : Nat) : Prop where
  h : A.handled = none
  d : A.depth + n ≤ 990
  u : A.units + 10 * n ≤ 9800
theorem Room.lt {A : Around} {n : Nat} (R : Room A (n + 1)) : A.depth < recursionLimit := by have := R.d; unfold recursionLimit; lia
theorem Room.deeper {A : Around} {n : Nat} {env : Env} (R : Room A (n + 1)) : Room (A.deeper env) n := ⟨R.h, by have := R.d; show A.depth + 1 + n ≤ 990; lia, by have := R.u; show A.units + 3 + 10 * n ≤ 9800; lia⟩
theorem Room.le {A : Around} {n k : Nat} (R : Room A n) (h : k ≤ n) : Room A k := ⟨R.h, by have := R.d; lia, by have := R.u; lia⟩
theorem mul_ok {a b : Int} (h : a.natAbs < 2 ^ 64) : IntMulOk a b := .of_left (by
  unfold Builtin.Int.intBits
  by_cases z : a = 0
  · subst z; decide
  · have n : a.natAbs ≠ 0 := by lia
    have := (Nat.log2_lt n).mpr h
    rw [if_neg (by simpa using z)]
    lia)
theorem CK.refl {C : PM} {as : List Addr} : CK C C as := fun _ _ e _ => e
theorem CK.trans {C C' C'' : PM} {as : List Addr} (x : CK C C' as) (y : CK C' C'' as) : CK C C'' as := fun a o e n => y a o (x a o e n) n
theorem CK.up {C C' : PM} {a : Addr} {o : Obj} {as : List Addr} (x : CK C C' as) (ha : a ∈ as) : CK C (Mine.up C' a o) as := fun b q e n => by
  rw [up_ne (show b ≠ a from fun z => n (by rw [z]; exact ha))]; exact x b q e n
end Mine
end
section
open PySem PySem.W PyProof.Rows PySem.Calls
set_option maxRecDepth 100000
set_option maxHeartbeats 4000000
namespace Mine
/-! loops -/
noncomputable def IterV (D : Wd) (A : Around) (target : PySem.Expr) (v : Value) (n : Nat) (P : Nat → Value → Prop) (G : PM) : Prop :=
  ∀ h, (∀ a o, G a = some o → h.get? a = some o) → ∀ (Q : Value → Shared → Prop) (E : Value → Shared → Prop) tk,
    (∀ I fp wr Md S h', KTurns Pw D.w A target I fp wr n (fun i v _ => P i v) Md S → (∀ i h, S i h → ∀ b ∈ wr, ∃ o, h.get? b = some o) →
      (∀ i (s : Shared) (Q : Value → Shared → Prop) (E : Value → Shared → Prop), S i s.heap → Q (.ref I) s → wpAny (model Pw D.w) A (pyIter (.ref I)) Q E s) →
      S 0 h' → (∀ a o, h.get? a = some o → h'.get? a = some o) → (∀ b ∈ wr, h.get? b = none) → (∀ b ∈ fp, b ∈ wr ∨ ∃ o, G b = some o) → Q (.ref I) (St D h' tk)) →
    wpAny (model Pw D.w) A (pyIter v) Q E (St D h tk)
section
variable {D : Wd} {A : Around} {F : Fn} {G C G' C' : PM} {m : LM} {h : Heap} {a x c : Addr} {vs : List Value} {kvs : List (Str × Value)}
theorem iter_list {target : PySem.Expr} (hh : A.handled = none) (hl : LsA G a vs) : IterV D A target (.ref a) vs.length (fun i v => vs[i]? = some v) G := fun h hg Q E tk q => by
  obtain ⟨o, e, hc, ep, hd⟩ := hl
  have l : h.IsList a vs.toArray := ⟨o, hg _ _ e, hc, ⟨ep, hd⟩⟩
  have hlt : a < h.objs.size := Heap.lt_size (hg _ _ e)
  refine wpAny_pyIter_list (s := St D h tk) l ?_
  have W := Walks.list (prog := Pw) (w := D.w) hh h.objs.size a (Nat.ne_of_lt hlt) vs.toArray
  have hP : (fun (i : Nat) (v : Value) => vs.toArray[i]? = some v) = fun i v => vs[i]? = some v := by funext i v; simp
  rw [hP] at W
  refine q _ _ _ _ _ _ (KTurns.ofWalks W fun i v s Q E st q => letGo_listiter st.1 q) (fun i h st b hb => ?_) W.self ⟨⟨_, Heap.get?_push_size _ rfl, rfl, rfl⟩, l.push _⟩ (fun b o e => Heap.get?_push_of_some _ e) (fun b hb => ?_) fun b hb => ?_
  · simp at hb; subst hb; obtain ⟨o, e, _⟩ := st.1; exact ⟨o, e⟩
  · simp at hb; subst hb; exact get_size h
  · simp at hb
    rcases hb with rfl | rfl
    · exact .inl (by simp)
    · exact .inr ⟨o, e⟩
theorem strKind_str {k : Str} {v : Value} {w : World} : (PySem.strKind Pw w).is k v = true ↔ ∃ t, v = .str k t :=
  ⟨fun h => Value.isStrOf_shape h, fun ⟨t, e⟩ => e ▸ strKind_is Pw w k t⟩
theorem iter_dict {target : PySem.Expr} (hh : A.handled = none) (hl : DcA D G a kvs) : IterV D A target (.ref a) kvs.length (fun i v => ∃ k x, kvs[i]? = some (k, x) ∧ ∃ t, v = .str k t) G := fun h hg Q E tk q => by
  obtain ⟨z, o, e, dd⟩ := hl
  obtain ⟨ep, l⟩ := (Heap.dictOf_iff.mpr ⟨o, hg _ _ e, dd⟩ : Heap.DictOf (PySem.strKind Pw D.w) h a kvs).dictAt
  have hlt : a < h.objs.size := Heap.lt_size (hg _ _ e)
  refine wpAny_pyIter_dict (s := St D h tk) z l ?_
  have W := Walks.dictKeys (knd := strKind Pw D.w) hh h.objs.size a (Nat.ne_of_lt hlt) kvs ep
  simp only [strKind_str] at W
  refine q _ _ _ _ _ _ (KTurns.ofWalks W fun i v s Q E st q => letGo_keyiter st.1 q) (fun i h st b hb => ?_) W.self ⟨⟨_, Heap.get?_push_size _ rfl, rfl, rfl⟩, l.push _⟩ (fun b o e => Heap.get?_push_of_some _ e) (fun b hb => ?_) fun b hb => ?_
  · simp at hb; subst hb; obtain ⟨o, e, _⟩ := st.1; exact ⟨o, e⟩
  · simp at hb; subst hb; exact get_size h
  · simp at hb
    rcases hb with rfl | rfl
    · exact .inl (by simp)
    · exact .inr ⟨o, e⟩
/-- the iterator's own objects move -/
theorem Cx.wr (c : Cx D F G C m h) {wr : List Addr} {h' : Heap} (hw : ∀ b ∈ wr, F.h.get? b = none ∧ b ≠ F.L ∧ G b = none ∧ C b = none) (hk : ∀ b o, b ∉ wr → h.get? b = some o → h'.get? b = some o) : Cx D F G C m h' := by
  obtain ⟨o, es, ep, e, r⟩ := c.ns
  exact
    { ok := { x := c.ok.x, t := c.ok.t, z := c.ok.z, gb := c.ok.gb, gc := c.ok.gc
              g := fun a o e => hk a o (fun z => by rw [(hw a z).2.2.1] at e; cases e) (c.ok.g a o e)
              c := fun a o e => hk a o (fun z => by rw [(hw a z).2.2.2] at e; cases e) (c.ok.c a o e) }
      ext := { gs := c.ext.gs, cs := c.ext.cs, keep := fun a o n e hc => hk a o (fun z => by rw [(hw a z).1] at e; cases e) (c.ext.keep a o n e hc) }
      ns := ⟨o, es, ep, hk _ _ (fun z => (hw _ z).2.1 rfl) e, r⟩, lg := c.lg, lc := c.lc, lg0 := c.lg0, lc0 := c.lc0, lb := c.lb, ok0 := c.ok0 }
noncomputable def LoopPost (D : Wd) (F : Fn) (A : Around) (Q : Flow → PM → PM → LM → Prop) (Nx : PM → PM → LM → Prop) : Flow → PM → PM → LM → Prop
  | .ret v => Q (.ret v)
  | .brk => Q .next
  | _ => Nx
/-- where a for stands before its turns -/
inductive ForM (D : Wd) (F : Fn) (A : Around) (Q : Flow → PM → PM → LM → Prop) (target : PySem.Expr) (body : List Stmt) (env : Env) (it : Value) (h2 : Heap) : Prop
  | mk : ∀ G' C' m' I fp wr n P Md S, ∀ Inv : Nat → PM → PM → LM → Prop, it = .ref I → Cx D F G' C' m' h2 → KTurns Pw D.w A target I fp wr n P Md S →
      (∀ i h, S i h → ∀ b ∈ wr, ∃ o, h.get? b = some o) → S 0 h2 → (∀ b ∈ wr, F.h.get? b = none ∧ b ≠ F.L ∧ G' b = none ∧ C' b = none) → (∀ b ∈ fp, b ∈ wr ∨ ∃ o, G' b = some o) → Inv 0 G' C' m' →
      (∀ i v G₁ C₁ m₁ h F', i < n → F'.L = F.L → F'.G = G₁ → F'.C = C₁ → GLe G' G₁ → Inv i G₁ C₁ m₁ → Cx D F' G₁ C₁ m₁ h → P i v h → W D A (PySem.assign target env v) (BP D F' fun _ => B D F' A (execs body env) (LoopPost D F A Q (Inv (i + 1)))) h) →
      (∀ G₁ C₁ m₁, GLe G' G₁ → Inv n G₁ C₁ m₁ → Q .next G₁ C₁ m₁) → ForM D F A Q target body env it h2
/-- where it stands between them -/
inductive ForS (D : Wd) (F : Fn) (S : Nat → Heap → Prop) (wr : List Addr) (G' : PM) (Inv : Nat → PM → PM → LM → Prop) (n : Nat) (k : Nat) (s' : Shared) : Prop
  | mk : ∀ h tk G₁ C₁ m₁ i, s' = St D h tk → Cx D F G₁ C₁ m₁ h → S i h → (∀ b ∈ wr, G₁ b = none ∧ C₁ b = none) → GLe G' G₁ → Inv i G₁ C₁ m₁ → i ≤ n → k = n + 1 - i → ForS D F S wr G' Inv n k s'
theorem for_core {target iter : PySem.Expr} {body : List Stmt} {env : Env} {pos : Pos} {Q : Flow → PM → PM → LM → Prop}
    (x : ∀ h, Cx D F G C m h → W D A (eval iter env) (fun xv h1 => W D A (pyIter xv) (ForM D F A Q target body env) h1) h)
    (hs : ∀ x, foldedSetIterable iter env x = Pure.pure x := by intro _; rfl) : B D F A (exec (.For target iter body [] pos) env) Q G C m := fun h cx tk => by
  refine wpAny_For (wpAny_mono (x h cx tk) (fun xv s₁ hx => ?_) fun _ _ z => z) hs
  obtain ⟨h1, tk1, rfl, hx⟩ := hx
  refine wpAny_mono (hx tk1) (fun it s₂ hx => ?_) fun _ _ z => z
  obtain ⟨h2, tk2, rfl, G', C', m', I, fp, wr, n, P, Md, S, Inv, rfl, c2, T, al, st, hw, hf, h0, step, fin⟩ := hx
  refine codeAny_forLoop_any
    (ForS D F S wr G' Inv n) ?_ (n + 1)
    ⟨h2, tk2, G', C', m', 0, rfl, c2, st, fun b hb => (hw b hb).2.2, .rfl, h0, Nat.zero_le _, rfl⟩
  rintro k s' ⟨h, tk, G₁, C₁, m₁, i, rfl, c, st, hw1, hg, hI, hi, rfl⟩
  have hwr : ∀ b ∈ wr, F.h.get? b = none ∧ b ≠ F.L ∧ G₁ b = none ∧ C₁ b = none := fun b hb => ⟨(hw b hb).1, (hw b hb).2.1, hw1 b hb⟩
  by_cases hlt : i < n
  · refine T.item i (St D h tk) _ _ hlt st fun v h₁ tk₁ hm hk => ?_
    have ca := c.wr hwr hk
    refine T.go i v (St D h₁ tk₁) _ _ hm fun h₂ hP st₂ hk₂ => ?_
    have cb := ca.wr hwr hk₂
    refine wpAny_mono (step i v G₁ C₁ m₁ h₂ ⟨h₂, G₁, C₁, F.L⟩ hlt rfl rfl rfl hg hI cb.rebase hP tk₁) (fun _ s₃ q => ?_) fun _ _ z => z.elim
    obtain ⟨h₃, tk₃, rfl, G₂, C₂, m₂, c3, bd⟩ := q
    refine wpAny_mono (bd h₃ c3 tk₃) (fun fl s₄ q => ?_) fun _ _ z => z.elim
    obtain ⟨h₄, tk₄, rfl, G₃, C₃, m₃, c4, q⟩ := q
    have nxt : Inv (i + 1) G₃ C₃ m₃ → ∃ m, m < n + 1 - i ∧ ForS D F S wr G' Inv n m (St D h₄ tk₄) := fun q => by
      refine ⟨n + 1 - (i + 1), sb3 hlt, h₄, tk₄, G₃, C₃, m₃, i + 1, rfl, cb.unbase c4, ?_, fun b hb => ?_, hg.trans ?_, q, hlt, rfl⟩
      · refine T.frame _ _ _ st₂ fun b hb o e => ?_
        rcases hf b hb with hb | ⟨o', e'⟩
        · exact c4.ext.keep b o (hwr b hb).2.1 e (hwr b hb).2.2.2
        · have e1 := hg b o' e'
          have e2 := cb.ok.g b o' e1
          rw [e] at e2; cases e2
          by_cases z : b = F.L
          · subst z; rw [c.lg] at e1; cases e1
          · exact c4.ok.g b o ((c4.ext.gs b o z e).trans e1)
      · obtain ⟨o, e⟩ := al _ _ st₂ b hb
        exact ⟨(c4.ext.gs b o (hwr b hb).2.1 e).trans (hwr b hb).2.2.1, (c4.ext.cs b o (hwr b hb).2.1 e).mpr (hwr b hb).2.2.2⟩
      · exact fun a o e => (c4.ext.gs a o (fun z => by rw [z, c.lg] at e; cases e) (cb.ok.g a o e)).trans e
    cases fl with
    | next => exact nxt q
    | cont => exact nxt q
    | brk => exact ⟨h₄, tk₄, rfl, G₃, C₃, m₃, cb.unbase c4, q⟩
    | ret v => exact ⟨h₄, tk₄, rfl, G₃, C₃, m₃, cb.unbase c4, q⟩
  · obtain rfl : i = n := Nat.le_antisymm hi (Nat.not_lt.mp hlt)
    refine T.done (St D h tk) _ _ st fun h₁ tk₁ hk => wpAny_execs_nil ⟨h₁, tk₁, rfl, G₁, C₁, m₁, c.wr hwr hk, fin _ _ _ hg hI⟩
/-- a for over what stays -/
inductive ForP (D : Wd) (F : Fn) (A : Around) (Q : Flow → PM → PM → LM → Prop) (target : PySem.Expr) (body : List Stmt) (env : Env) (v : Value) (G' C' : PM) (m' : LM) : Prop
  | mk : ∀ n P, ∀ Inv : Nat → PM → PM → LM → Prop, IterV D A target v n P G' → Inv 0 G' C' m' →
      (∀ i v G₁ C₁ m₁ (Fh : Heap), i < n → GLe G' G₁ → Inv i G₁ C₁ m₁ → P i v → let F' : Fn := ⟨Fh, G₁, C₁, F.L⟩; B D F' A (PySem.assign target env v) (fun _ => B D F' A (execs body env) (LoopPost D F A Q (Inv (i + 1)))) G₁ C₁ m₁) →
      (∀ G₁ C₁ m₁, GLe G' G₁ → Inv n G₁ C₁ m₁ → Q .next G₁ C₁ m₁) → ForP D F A Q target body env v G' C' m'
theorem B.for {target iter : PySem.Expr} {body : List Stmt} {env : Env} {pos : Pos} {Q : Flow → PM → PM → LM → Prop}
    (x : B D F A (eval iter env) (ForP D F A Q target body env) G C m)
    (hs : ∀ x, foldedSetIterable iter env x = Pure.pure x := by intro _; rfl) : B D F A (exec (.For target iter body [] pos) env) Q G C m :=
  for_core (fun h cx tk => wpAny_mono (x h cx tk) (fun xv s₁ hx => by
    obtain ⟨h1, tk1, rfl, G', C', m', c1, n, P, Inv, it, h0, step, fin⟩ := hx
    refine ⟨h1, tk1, rfl, fun tk => ?_⟩
    refine it h1 c1.ok.g _ _ tk fun I fp wr Md S h' T al self st hk hw hf => ?_
    have fresh : ∀ b ∈ wr, F.h.get? b = none ∧ b ≠ F.L ∧ G' b = none ∧ C' b = none := fun b hb => by
      have e := hw b hb
      have nL : b ≠ F.L := fun z => by obtain ⟨o, _, _, e', _⟩ := c1.ns; rw [← z, e] at e'; cases e'
      refine ⟨?_, nL, c1.ok.fresh_g e, c1.ok.fresh_c e⟩
      cases q : F.h.get? b with
      | none => rfl
      | some o => obtain ⟨o', e'⟩ := c1.ext.alive c1.ok nL q; rw [e] at e'; cases e'
    refine ⟨h', tk, rfl, G', C', m', I, fp, wr, n, _, Md, S, Inv, rfl, c1.after (c1.ok.grow hk) (.grow hk), T, al, st, fresh, hf, h0, fun i v G₁ C₁ m₁ h F' hi hL hG hC hg hI c hP tk => ?_, fin⟩
    obtain ⟨Fh, FG, FC, FL⟩ := F'
    dsimp only at hL hG hC
    subst hL hG hC
    refine wpAny_mono (step i v FG FC m₁ Fh hi hg hI hP h c tk) (fun _ s q => ?_) fun _ _ z => z
    obtain ⟨h', tk', rfl, G₂, C₂, m₂, c2, q⟩ := q
    exact ⟨h', tk', rfl, G₂, C₂, m₂, c2, q⟩) fun _ _ z => z) hs
theorem B.asgName {x : Str} {pos : Pos} {env : Env} {v : Value} {Q : Unit → PM → PM → LM → Prop} (q : B D F A (storeName env x v) Q G C m) : B D F A (PySem.assign (.Name x pos) env v) Q G C m := B.of0 (fun _ _ _ h => wpAny_assign_Name h) q
end
end Mine
end
section
open PySem PySem.W PyProof.Rows PySem.Calls
set_option maxRecDepth 100000
set_option maxHeartbeats 4000000
namespace Mine
/-! comprehensions -/
/-- the tests, the key, the value of a dict's turn -/
noncomputable def DBody (D : Wd) (F : Fn) (A : Around) (kx vx : PySem.Expr) (ifs : List PySem.Expr) (env : Env) (Nx : List (Str × Value) → PM → PM → Prop) (ys : List (Str × Value)) (G C : PM) (m : LM) : Prop :=
  (ifs = [] ∧ B D F A (eval kx env) (fun kv => B D F A (eval vx env) (fun vv G₃ C₃ _ => ∃ k t, kv = .str k t ∧ Nx (stored ys k vv) G₃ C₃)) G C m) ∨
  (∃ c, ifs = [c] ∧ B D F A (PySem.isTrue c env (eval c env)) (fun b G₂ C₂ m₂ => if b = true then B D F A (eval kx env) (fun kv => B D F A (eval vx env) (fun vv G₃ C₃ _ => ∃ k t, kv = .str k t ∧ Nx (stored ys k vv) G₃ C₃)) G₂ C₂ m₂ else Nx ys G₂ C₂) G C m)
section
variable {D : Wd} {A : Around} {F : Fn} {G C G' C' : PM} {m : LM} {h : Heap} {a x c : Addr} {vs : List Value} {kvs : List (Str × Value)}
structure CompIt (D : Wd) (A : Around) (target : PySem.Expr) (G C : PM) (hb h : Heap) (I : Addr) (fp wr : List Addr) (n : Nat) (P Md : Nat → Value → Heap → Prop) (S : Nat → Heap → Prop) : Prop where
  T : KTurns Pw D.w A target I fp wr n P Md S
  al : ∀ i h, S i h → ∀ b ∈ wr, ∃ o, h.get? b = some o
  self : ∀ i (s : Shared) (Q : Value → Shared → Prop) (E : Value → Shared → Prop), S i s.heap → Q (.ref I) s → wpAny (model Pw D.w) A (pyIter (.ref I)) Q E s
  st : S 0 h
  hk : ∀ a o, hb.get? a = some o → h.get? a = some o
  hw : ∀ b ∈ wr, hb.get? b = none
  hf : ∀ b ∈ fp, b ∈ wr ∨ ∃ o, G b = some o
/-- what a turn keeps -/
theorem comp_next {target : PySem.Expr} {I : Addr} {fp wr : List Addr} {n : Nat} {P Md : Nat → Value → Heap → Prop} {S : Nat → Heap → Prop} {G₀ : PM} {h₂ : Heap} {i : Nat} {m₃ : LM} {h₃ : Heap} {G₃ C₃ : PM} {L : Addr}
    (T : KTurns Pw D.w A target I fp wr n P Md S) (al : ∀ i h, S i h → ∀ b ∈ wr, ∃ o, h.get? b = some o) (hf : ∀ b ∈ fp, b ∈ wr ∨ ∃ o, G₀ b = some o) (hg : GLe G₀ G) (st : S i h₂) (ok : Ok D G C h₂) (hw : ∀ b ∈ wr, b ≠ L ∧ G b = none ∧ C b = none) (hL : G L = none)
    (c : Cx D ⟨h₂, G, C, L⟩ G₃ C₃ m₃ h₃) : S i h₃ ∧ (∀ b ∈ wr, G₃ b = none ∧ C₃ b = none) ∧ GLe G G₃ := by
  refine ⟨T.frame _ _ _ st fun b hb o e => ?_, fun b hb => ?_, fun a o e => (c.ext.gs a o (fun z => by rw [z, hL] at e; cases e) (ok.g a o e)).trans e⟩
  · rcases hf b hb with hb | ⟨o', e'⟩
    · exact c.ext.keep b o (hw b hb).1 e (hw b hb).2.2
    · have e1 := hg b o' e'
      have e2 := ok.g b o' e1
      rw [e] at e2; cases e2
      by_cases z : b = L
      · subst z; rw [hL] at e1; cases e1
      · exact c.ok.g b o ((c.ext.gs b o z e).trans e1)
  · obtain ⟨o, e⟩ := al _ _ st b hb
    exact ⟨(c.ext.gs b o (hw b hb).1 e).trans (hw b hb).2.1, (c.ext.cs b o (hw b hb).1 e).mpr (hw b hb).2.2⟩
/-- an object of nobody's is stored into -/
theorem Cx.one (c : Cx D F G C m h) {h' : Heap} {b : Addr} (hn : F.h.get? b = none) (nL : b ≠ F.L) (hg : G b = none) (hc : C b = none) (hs : ∀ a o, a ≠ b → h.get? a = some o → h'.get? a = some o) : Cx D F G C m h' :=
  c.wr (wr := [b]) (fun a ha => by simp at ha; subst ha; exact ⟨hn, nL, hg, hc⟩) fun a o ha e => hs a o (fun z => ha (by simp [z])) e
inductive LcP (D : Wd) (A : Around) (target elt : PySem.Expr) (scope : Scope) (cl : List (Str × Addr)) (env : Env) (Fin : (Nat → List Value → PM → PM → Prop) → Nat → PM → LM → Prop) (v : Value) (G' C' : PM) (m' : LM) : Prop
  | mk : ∀ n P, ∀ Inv : Nat → List Value → PM → PM → Prop, IterV D A target v n P G' → n ≤ sizeLine → Inv 0 [] G' C' →
      (∀ i v ys G₁ C₁ m₁ F', i < n → F'.G = G₁ → F'.C = C₁ → GLe G' G₁ → Inv i ys G₁ C₁ → P i v → B D F' A (PySem.assign target (compEnvC scope cl F'.L env) v) (fun _ => B D F' A (eval elt (compEnvC scope cl F'.L env)) (fun y G₃ C₃ _ => Inv (i + 1) (ys ++ [y]) G₃ C₃)) G₁ C₁ m₁) →
      Fin Inv n G' m' → LcP D A target elt scope cl env Fin v G' C' m'
inductive DcP (D : Wd) (A : Around) (target kx vx : PySem.Expr) (ifs : List PySem.Expr) (scope : Scope) (cl : List (Str × Addr)) (env : Env) (Fin : (Nat → List (Str × Value) → PM → PM → Prop) → Nat → PM → LM → Prop) (v : Value) (G' C' : PM) (m' : LM) : Prop
  | mk : ∀ n P, ∀ Inv : Nat → List (Str × Value) → PM → PM → Prop, IterV D A target v n P G' → n ≤ sizeLine → Inv 0 [] G' C' →
      (∀ i v ys G₁ C₁ m₁ F', i < n → F'.G = G₁ → F'.C = C₁ → GLe G' G₁ → Inv i ys G₁ C₁ → P i v → B D F' A (PySem.assign target (compEnvC scope cl F'.L env) v) (fun _ G₂ C₂ m₂ => DBody D F' A kx vx ifs (compEnvC scope cl F'.L env) (Inv (i + 1)) ys G₂ C₂ m₂) G₁ C₁ m₁) →
      Fin Inv n G' m' → DcP D A target kx vx ifs scope cl env Fin v G' C' m'
/-- where a comprehension stands between its turns -/
inductive ComS (D : Wd) (F : Fn) {β : Type} (S : Nat → Heap → Prop) (wr : List Addr) (G₀ : PM) (Inv : Nat → List β → PM → PM → Prop) (Acc : Heap → List β → Prop) (ac : Addr) (n : Nat) (k : Nat) (s' : Shared) : Prop
  | mk : ∀ (h : Heap) (tk : Nat) (G₁ C₁ : PM) (m₁ : LM) (i : Nat) (ys : List β), s' = St D h tk → Cx D F G₁ C₁ m₁ h → S i h → (∀ b ∈ wr, G₁ b = none ∧ C₁ b = none) → GLe G₀ G₁ → Inv i ys G₁ C₁ → Acc h ys → G₁ ac = none → C₁ ac = none → i ≤ n → ys.length ≤ i → k = n + 1 - i → ComS D F S wr G₀ Inv Acc ac n k s'
theorem comp_block_list {elt target iter : PySem.Expr} {scope : Scope} {cl : List (Str × Addr)} {pos : Pos} {env : Env} {G₀ C₀ : PM} {hb h₀ : Heap} {tk : Nat} {I : Addr} {fp wr : List Addr} {n : Nat} {P Md : Nat → Value → Heap → Prop} {S : Nat → Heap → Prop}
    {Inv : Nat → List Value → PM → PM → Prop} {RR : Value → Addr → Result → Shared → Prop} {E : Value → Shared → Prop} (ok : Ok D G₀ C₀ hb) (Y : CompIt D A target G₀ C₀ hb h₀ I fp wr n P Md S) (hn : n ≤ sizeLine) (h0 : Inv 0 [] G₀ C₀)
    (step : ∀ i v ys G₁ C₁ m₁ h F', i < n → F'.G = G₁ → F'.C = C₁ → GLe G₀ G₁ → Inv i ys G₁ C₁ → Cx D F' G₁ C₁ m₁ h → P i v h → W D A (PySem.assign target (compEnvC scope cl F'.L env) v) (BP D F' fun _ => B D F' A (eval elt (compEnvC scope cl F'.L env)) (fun y G₃ C₃ _ => Inv (i + 1) (ys ++ [y]) G₃ C₃)) h)
    (hR : ∀ ac Lc h' tk' mc ys G₁ C₁, (ac == sysModules) = false → hb.get? ac = none → hb.get? Lc = none → ac ≠ Lc → h'.Ns Lc mc → Ok D G₁ C₁ h' → Ext G₀ C₀ hb G₁ C₁ h' → GLe G₀ G₁ → Inv n ys G₁ C₁ → h'.PlainList ac ys.toArray → G₁ ac = none → C₁ ac = none → G₁ Lc = none → C₁ Lc = none → RR (.ref ac) Lc (.ok .next) (St D h' tk'))
    (hcell : ∀ y ∈ scope.names, y.2 ≠ .cell) (hkind : scope.kind = .function) :
    wpAny (model Pw D.w) A (newList []) (fun acc s₃ => wpAny (model Pw D.w) A (newFunctionEnv scope env.globals cl [] env.qual none .none (some env)) (fun cenv s₄ =>
      codeAny (model Pw D.w) A (.compStart (.ListComp elt [⟨target, iter, [], 0⟩] scope pos) 0 (.ref I) acc { cenv with scope := relabel scope env }) (RR acc cenv.locals) s₄) E s₃) E (St D h₀ tk) := by
  obtain ⟨T, al, self, st, hk0, hwb, hf⟩ := Y
  refine wpAny_newObj_type (s := St D h₀ tk) (wpAny_newFunctionEnv hcell (by intro y hy; simp at hy) (fun h₁ hns₁ hsb₁ => ?_) hkind)
  dsimp only [St] at hns₁ hsb₁ ⊢
  generalize hH2 : h₀.push { cls := .type "list", dict := none, data := .seq ([] : List Value).toArray } = H2 at hns₁ hsb₁ ⊢
  have hsz : H2.objs.size = h₀.objs.size + 1 := by rw [← hH2, Heap.size_push]
  have nac : h₀.get? h₀.objs.size = none := get_size h₀
  have nLc : h₀.get? H2.objs.size = none := by
    cases q : h₀.get? H2.objs.size with
    | none => rfl
    | some o => have := Heap.lt_size q; rw [hsz] at this; exact absurd (Nat.lt_of_succ_lt this) (Nat.lt_irrefl _)
  have neq : h₀.objs.size ≠ H2.objs.size := by rw [hsz]; exact Nat.ne_of_lt (Nat.lt_succ_self _)
  have old : ∀ b o, h₀.get? b = some o → h₁.get? b = some o := fun b o e => hsb₁.extBut b o (fun z => by rw [z, nLc] at e; cases e) (Heap.get?_push_of_some _ (hH2 ▸ Heap.get?_push_of_some _ e))
  have hacc : h₁.PlainList h₀.objs.size ([] : List Value).toArray := ⟨_, hsb₁.extBut _ _ neq (Heap.get?_push_of_some _ (hH2 ▸ Heap.get?_push_size _ rfl))⟩
  have st₁ : S 0 h₁ := T.frame _ _ _ st fun b hb o e => old b o e
  have lb : D.b.objs.size ≤ H2.objs.size := by have := ok.z h₀ (fun a o e => hk0 a o (ok.base a o e)); rw [hsz]; exact Nat.le_succ_of_le this
  clear hsz
  have hzm : (h₀.objs.size == sysModules) = false := beq_eq_false_iff_ne.mpr (Nat.ne_of_gt (modules_low (ok.grow hk0).nolimit))
  have alw : ∀ b ∈ wr, ∃ o, h₀.get? b = some o := al _ _ st
  generalize h₀.objs.size = ac at *
  generalize H2.objs.size = Lc at *
  have bnone : ∀ {a : Addr}, h₀.get? a = none → hb.get? a = none := fun {a} e => by
    cases q : hb.get? a with
    | none => rfl
    | some o => rw [hk0 a o q] at e; cases e
  have nL : ∀ b ∈ wr, b ≠ Lc ∧ b ≠ ac := fun b hb => by
    obtain ⟨o, e⟩ := alw b hb
    exact ⟨(fun z => by rw [z, nLc] at e; cases e), (fun z => by rw [z, nac] at e; cases e)⟩
  have gL := ok.fresh_g (bnone nLc)
  have cL := ok.fresh_c (bnone nLc)
  have old' : ∀ a o, hb.get? a = some o → h₁.get? a = some o := fun a o e => old a o (hk0 a o e)
  have cx₁ : Cx D ⟨hb, G₀, C₀, Lc⟩ G₀ C₀ _ h₁ := { ok := ok.grow old', ext := (Ext.grow old').toL, ns := hns₁, lg := gL, lc := cL, lg0 := gL, lc0 := cL, lb := lb, ok0 := ok }
  have hw0 : ∀ b ∈ wr, G₀ b = none ∧ C₀ b = none := fun b h => ⟨ok.fresh_g (hwb b h), ok.fresh_c (hwb b h)⟩
  have loop : ∀ s₃ : Shared, s₃ = St D h₁ tk → codeAny (model Pw D.w) A (.compLoop (.ListComp elt [⟨target, iter, [], 0⟩] scope pos) 0 (.ref I) (.ref ac) (compEnvC scope cl Lc env)) (RR (.ref ac) Lc) s₃ := by
    rintro s₃ rfl
    refine codeAny_loop rfl (ComS D ⟨hb, G₀, C₀, Lc⟩ S wr G₀ Inv (fun h ys => h.PlainList ac ys.toArray) ac n) (fun k s' hI => ?_) (n + 1)
      ⟨h₁, tk, G₀, C₀, _, 0, [], rfl, cx₁, st₁, hw0, .rfl, h0, hacc, ok.fresh_g (bnone nac), ok.fresh_c (bnone nac), Nat.zero_le _, Nat.le_refl _, rfl⟩
    obtain ⟨h, tk, G₁, C₁, m₁, i, ys, rfl, c, st, hw1, hg, hI, ha, hga, hca, hi, hl, rfl⟩ := hI
    show wpAny _ A ((compTurn (.ListComp elt [⟨target, iter, [], 0⟩] scope pos) 0 (.ref I) (.ref ac) (compEnvC scope cl Lc env)).onRaise (fun x => do noteFrame x (compEnvC scope cl Lc env); theTreesLotGoes x)) _ _ _
    refine wpAny_noted ?_
    rw [compTurn_list]
    have hwr : ∀ b ∈ wr, hb.get? b = none ∧ b ≠ Lc ∧ G₁ b = none ∧ C₁ b = none := fun b hb => ⟨hwb b hb, (nL b hb).1, hw1 b hb⟩
    have aw : ac ∉ wr := fun z => (nL ac z).2 rfl
    by_cases hlt : i < n
    · refine wpAny_bind (wpAny_standAt (wpAny_bind (T.item i (St D h tk) _ _ hlt st fun v h₂ tk₂ hm hk => ?_)))
      have ca := c.wr hwr hk
      have aa := ha.at fun o e => hk ac o aw e
      refine wpAny_bind (T.go i v (St D h₂ tk₂) _ _ hm fun h₃ hP st₃ hk₃ => ?_)
      have cb := ca.wr hwr hk₃
      have ab := aa.at fun o e => hk₃ ac o aw e
      refine wpAny_bind (wpAny_mono (step i v ys G₁ C₁ m₁ h₃ ⟨h₃, G₁, C₁, Lc⟩ hlt rfl rfl hg hI cb.rebase hP tk₂) (fun _ s₃ q => ?_) fun _ _ z => z.elim)
      obtain ⟨h₄, tk₄, rfl, G₂, C₂, m₂, c4, bd⟩ := q
      refine wpAny_bind (wpAny_pure ?_)
      show wpAny _ _ (_ >>= _) _ _ _
      refine wpAny_bind (wpAny_bind (wpAny_mono (bd h₄ c4 tk₄) (fun y s₅ q => ?_) fun _ _ z => z.elim))
      obtain ⟨h₅, tk₅, rfl, G₃, C₃, m₃, cx6, q⟩ := q
      obtain ⟨st₆, hw₆, hg₆⟩ := comp_next T al hf hg st₃ cb.ok (fun b hb => (hwr b hb).2) c.lg cx6
      obtain ⟨oa, ea⟩ := ab
      have kept := And.intro (cx6.ext.keep ac _ neq ea hca) (And.intro (cx6.ext.gs ac _ neq ea) (cx6.ext.cs ac _ neq ea))
      have hz : ys.toArray.size ≤ sizeLine := by rw [List.size_toArray]; exact Nat.le_trans hl (Nat.le_trans hi hn)
      refine wpAny_bind (wpAny_list_append_plain (s := St D h₅ tk₅) (hsz := hz) ⟨oa, kept.1⟩ fun h₆ hl₆ hs₆ => ?_)
      refine wpAny_pure (wpAny_pure ⟨rfl, n + 1 - (i + 1), Nat.sub_lt_sub_left (Nat.lt_succ_of_lt hlt) (Nat.lt_succ_self _), h₆, tk₅, G₃, C₃, m₃, i + 1, ys ++ [y], rfl, ?_, ?_, hw₆, hg.trans hg₆, q, ?_, kept.2.1.trans hga, kept.2.2.mpr hca, hlt, ?_, rfl⟩)
      · exact (cb.unbase cx6).one (bnone nac) neq (kept.2.1.trans hga) (kept.2.2.mpr hca) fun b o nb e => hs₆.extBut b o nb e
      · refine T.frame _ _ _ st₆ fun b hb o e => hs₆.extBut b o (fun z => ?_) e
        subst z
        rcases hf b hb with hb | ⟨o', e'⟩
        · exact aw hb
        · rw [ok.fresh_g (bnone nac)] at e'; cases e'
      · simpa using hl₆
      · rw [List.length_append, List.length_singleton]; exact Nat.succ_le_succ hl
    · obtain rfl : i = n := Nat.le_antisymm hi (Nat.not_lt.mp hlt)
      refine wpAny_bind (wpAny_standAt (wpAny_bind (T.done (St D h tk) _ _ st fun h₁ tk₁ hk => wpAny_pure ?_)))
      have ca := c.wr hwr hk
      exact hR ac Lc h₁ tk₁ m₁ ys G₁ C₁ hzm (bnone nac) (bnone nLc) neq ca.ns ca.ok (ca.ext.toExt (bnone nLc)) hg hI (ha.at fun o e => hk ac o aw e) hga hca ca.lg ca.lc
  exact codeAny_compStart_list (loop _ rfl) (self 0 _ _ _ st₁ (loop _ rfl))
theorem comp_block_dict {kx vx target iter : PySem.Expr} {ifs : List PySem.Expr} {scope : Scope} {cl : List (Str × Addr)} {pos : Pos} {env : Env} {G₀ C₀ : PM} {hb h₀ : Heap} {tk : Nat} {I : Addr} {fp wr : List Addr} {n : Nat} {P Md : Nat → Value → Heap → Prop} {S : Nat → Heap → Prop}
    {Inv : Nat → List (Str × Value) → PM → PM → Prop} {RR : Value → Addr → Result → Shared → Prop} {E : Value → Shared → Prop} (ok : Ok D G₀ C₀ hb) (Y : CompIt D A target G₀ C₀ hb h₀ I fp wr n P Md S) (hn : n ≤ sizeLine) (h0 : Inv 0 [] G₀ C₀)
    (step : ∀ i v ys G₁ C₁ m₁ h F', i < n → F'.G = G₁ → F'.C = C₁ → GLe G₀ G₁ → Inv i ys G₁ C₁ → Cx D F' G₁ C₁ m₁ h → P i v h → W D A (PySem.assign target (compEnvC scope cl F'.L env) v) (BP D F' fun _ => DBody D F' A kx vx ifs (compEnvC scope cl F'.L env) (Inv (i + 1)) ys) h)
    (hR : ∀ ac Lc h' tk' mc ys G₁ C₁, (ac == sysModules) = false → hb.get? ac = none → hb.get? Lc = none → ac ≠ Lc → h'.Ns Lc mc → Ok D G₁ C₁ h' → Ext G₀ C₀ hb G₁ C₁ h' → GLe G₀ G₁ → Inv n ys G₁ C₁ → Heap.DictOf (PySem.strKind Pw D.w) h' ac ys → G₁ ac = none → C₁ ac = none → G₁ Lc = none → C₁ Lc = none → RR (.ref ac) Lc (.ok .next) (St D h' tk'))
    (hcell : ∀ y ∈ scope.names, y.2 ≠ .cell) (hkind : scope.kind = .function) :
    wpAny (model Pw D.w) A newDict (fun acc s₃ => wpAny (model Pw D.w) A (newFunctionEnv scope env.globals cl [] env.qual none .none (some env)) (fun cenv s₄ =>
      codeAny (model Pw D.w) A (.compStart (.DictComp kx vx [⟨target, iter, ifs, 0⟩] scope pos) 0 (.ref I) acc { cenv with scope := relabel scope env }) (RR acc cenv.locals) s₄) E s₃) E (St D h₀ tk) := by
  obtain ⟨T, al, self, st, hk0, hwb, hf⟩ := Y
  refine wpAny_newObj_type (s := St D h₀ tk) (wpAny_newFunctionEnv hcell (by intro y hy; simp at hy) (fun h₁ hns₁ hsb₁ => ?_) hkind)
  dsimp only [St] at hns₁ hsb₁ ⊢
  have hnew : Heap.DictOf (PySem.strKind Pw D.w) (h₀.push { cls := .type "dict", dict := none, data := .dict #[] }) h₀.objs.size [] := Heap.DictOf.new h₀
  generalize hH2 : h₀.push { cls := .type "dict", dict := none, data := .dict #[] } = H2 at hns₁ hsb₁ hnew ⊢
  have hsz : H2.objs.size = h₀.objs.size + 1 := by rw [← hH2, Heap.size_push]
  have nac : h₀.get? h₀.objs.size = none := get_size h₀
  have nLc : h₀.get? H2.objs.size = none := by
    cases q : h₀.get? H2.objs.size with
    | none => rfl
    | some o => have := Heap.lt_size q; rw [hsz] at this; exact absurd (Nat.lt_of_succ_lt this) (Nat.lt_irrefl _)
  have neq : h₀.objs.size ≠ H2.objs.size := by rw [hsz]; exact Nat.ne_of_lt (Nat.lt_succ_self _)
  have old : ∀ b o, h₀.get? b = some o → h₁.get? b = some o := fun b o e => hsb₁.extBut b o (fun z => by rw [z, nLc] at e; cases e) (Heap.get?_push_of_some _ (hH2 ▸ Heap.get?_push_of_some _ e))
  have hacc : Heap.DictOf (PySem.strKind Pw D.w) h₁ h₀.objs.size [] := hnew.at fun o e => hsb₁.extBut _ _ neq (Heap.get?_push_of_some _ e)
  have st₁ : S 0 h₁ := T.frame _ _ _ st fun b hb o e => old b o e
  have lb : D.b.objs.size ≤ H2.objs.size := by have := ok.z h₀ (fun a o e => hk0 a o (ok.base a o e)); rw [hsz]; exact Nat.le_succ_of_le this
  clear hsz
  have hzm : (h₀.objs.size == sysModules) = false := beq_eq_false_iff_ne.mpr (Nat.ne_of_gt (modules_low (ok.grow hk0).nolimit))
  have alw : ∀ b ∈ wr, ∃ o, h₀.get? b = some o := al _ _ st
  generalize h₀.objs.size = ac at *
  generalize H2.objs.size = Lc at *
  have bnone : ∀ {a : Addr}, h₀.get? a = none → hb.get? a = none := fun {a} e => by
    cases q : hb.get? a with
    | none => rfl
    | some o => rw [hk0 a o q] at e; cases e
  have nL : ∀ b ∈ wr, b ≠ Lc ∧ b ≠ ac := fun b hb => by
    obtain ⟨o, e⟩ := alw b hb
    exact ⟨(fun z => by rw [z, nLc] at e; cases e), (fun z => by rw [z, nac] at e; cases e)⟩
  have gL := ok.fresh_g (bnone nLc)
  have cL := ok.fresh_c (bnone nLc)
  have old' : ∀ a o, hb.get? a = some o → h₁.get? a = some o := fun a o e => old a o (hk0 a o e)
  have cx₁ : Cx D ⟨hb, G₀, C₀, Lc⟩ G₀ C₀ _ h₁ := { ok := ok.grow old', ext := (Ext.grow old').toL, ns := hns₁, lg := gL, lc := cL, lg0 := gL, lc0 := cL, lb := lb, ok0 := ok }
  have hw0 : ∀ b ∈ wr, G₀ b = none ∧ C₀ b = none := fun b h => ⟨ok.fresh_g (hwb b h), ok.fresh_c (hwb b h)⟩
  have loop : ∀ s₃ : Shared, s₃ = St D h₁ tk → codeAny (model Pw D.w) A (.compLoop (.DictComp kx vx [⟨target, iter, ifs, 0⟩] scope pos) 0 (.ref I) (.ref ac) (compEnvC scope cl Lc env)) (RR (.ref ac) Lc) s₃ := by
    rintro s₃ rfl
    refine codeAny_loop rfl (ComS D ⟨hb, G₀, C₀, Lc⟩ S wr G₀ Inv (fun h ys => Heap.DictOf (PySem.strKind Pw D.w) h ac ys) ac n) (fun k s' hI => ?_) (n + 1)
      ⟨h₁, tk, G₀, C₀, _, 0, [], rfl, cx₁, st₁, hw0, .rfl, h0, hacc, ok.fresh_g (bnone nac), ok.fresh_c (bnone nac), Nat.zero_le _, Nat.le_refl _, rfl⟩
    obtain ⟨h, tk, G₁, C₁, m₁, i, ys, rfl, c, st, hw1, hg, hI, ha, hga, hca, hi, hl, rfl⟩ := hI
    show wpAny _ A ((compTurn (.DictComp kx vx [⟨target, iter, ifs, 0⟩] scope pos) 0 (.ref I) (.ref ac) (compEnvC scope cl Lc env)).onRaise (fun x => do noteFrame x (compEnvC scope cl Lc env); theTreesLotGoes x)) _ _ _
    refine wpAny_noted ?_
    rw [compTurn_dict]
    have hwr : ∀ b ∈ wr, hb.get? b = none ∧ b ≠ Lc ∧ G₁ b = none ∧ C₁ b = none := fun b hb => ⟨hwb b hb, (nL b hb).1, hw1 b hb⟩
    have aw : ac ∉ wr := fun z => (nL ac z).2 rfl
    by_cases hlt : i < n
    · refine wpAny_bind (wpAny_standAt (wpAny_bind (T.item i (St D h tk) _ _ hlt st fun v h₂ tk₂ hm hk => ?_)))
      have ca := c.wr hwr hk
      have aa := ha.at fun o e => hk ac o aw e
      refine wpAny_bind (T.go i v (St D h₂ tk₂) _ _ hm fun h₃ hP st₃ hk₃ => ?_)
      have cb := ca.wr hwr hk₃
      have ab := aa.at fun o e => hk₃ ac o aw e
      refine wpAny_bind (wpAny_mono (step i v ys G₁ C₁ m₁ h₃ ⟨h₃, G₁, C₁, Lc⟩ hlt rfl rfl hg hI cb.rebase hP tk₂) (fun _ s₃ q => ?_) fun _ _ z => z.elim)
      obtain ⟨h₄, tk₄, rfl, G₂, C₂, m₂, c4, bd⟩ := q
      rcases bd with ⟨rfl, bd⟩ | ⟨cc, rfl, bd⟩
      · refine wpAny_bind (wpAny_pure ?_)
        show wpAny _ _ (_ >>= _) _ _ _
        refine wpAny_bind (wpAny_bind (wpAny_mono (bd h₄ c4 tk₄) (fun kv s₅ q => ?_) fun _ _ z => z.elim))
        obtain ⟨h₅, tk₅, rfl, G₃, C₃, m₃, cx5, q⟩ := q
        refine wpAny_bind (wpAny_holding (wpAny_mono (q h₅ cx5 tk₅) (fun vv s₆ q => ?_) fun _ _ z => z.elim))
        obtain ⟨h₆, tk₆, rfl, G₄, C₄, m₄, cx6, k, t, rfl, qq⟩ := q
        obtain ⟨st₆, hw₆, hg₆⟩ := comp_next T al hf hg st₃ cb.ok (fun b hb => (hwr b hb).2) c.lg cx6
        obtain ⟨oa, ea, da⟩ := Heap.dictOf_iff.mp ab
        have kept := And.intro (cx6.ext.keep ac _ neq ea hca) (And.intro (cx6.ext.gs ac _ neq ea) (cx6.ext.cs ac _ neq ea))
        refine wpAny_bind (wpAny_standAt (wpAny_holding (wpAny_dictSet_pairs (s := St D h₆ tk₆) (hsz := Nat.le_trans hl (Nat.le_trans hi hn)) (strKind_is Pw D.w k t) (Heap.dictOf_iff.mpr ⟨oa, kept.1, da⟩) fun h₇ hl₇ hs₇ => ?_)))
        refine wpAny_pure ⟨rfl, n + 1 - (i + 1), Nat.sub_lt_sub_left (Nat.lt_succ_of_lt hlt) (Nat.lt_succ_self _), h₇, tk₆ + 1, G₄, C₄, m₄, i + 1, stored ys k vv, rfl, ?_, ?_, hw₆, hg.trans hg₆, qq, hl₇, kept.2.1.trans hga, kept.2.2.mpr hca, hlt, ?_, rfl⟩
        · exact (cb.unbase cx6).one (bnone nac) neq (kept.2.1.trans hga) (kept.2.2.mpr hca) fun b o nb e => hs₇.extBut b o nb e
        · refine T.frame _ _ _ st₆ fun b hb o e => hs₇.extBut b o (fun z => ?_) e
          subst z
          rcases hf b hb with hb | ⟨o', e'⟩
          · exact aw hb
          · rw [ok.fresh_g (bnone nac)] at e'; cases e'
        · have := stored_length_le ys k vv; lia

      · refine wpAny_bind (wpAny_tests_one (wpAny_mono (bd h₄ c4 tk₄) (fun ok s₅ q => ?_) fun _ _ z => z.elim))
        obtain ⟨h₅, tk₅, rfl, G₃, C₃, m₃, cx5, q⟩ := q
        cases ok with
        | true =>
          rw [if_pos rfl] at q
          show wpAny _ _ (_ >>= _) _ _ _
          refine wpAny_bind (wpAny_bind (wpAny_mono (q h₅ cx5 tk₅) (fun kv s₅ q => ?_) fun _ _ z => z.elim))
          obtain ⟨h₅, tk₅, rfl, G₃, C₃, m₃, cx5, q⟩ := q
          refine wpAny_bind (wpAny_holding (wpAny_mono (q h₅ cx5 tk₅) (fun vv s₆ q => ?_) fun _ _ z => z.elim))
          obtain ⟨h₆, tk₆, rfl, G₄, C₄, m₄, cx6, k, t, rfl, qq⟩ := q
          obtain ⟨st₆, hw₆, hg₆⟩ := comp_next T al hf hg st₃ cb.ok (fun b hb => (hwr b hb).2) c.lg cx6
          obtain ⟨oa, ea, da⟩ := Heap.dictOf_iff.mp ab
          have kept := And.intro (cx6.ext.keep ac _ neq ea hca) (And.intro (cx6.ext.gs ac _ neq ea) (cx6.ext.cs ac _ neq ea))
          refine wpAny_bind (wpAny_standAt (wpAny_holding (wpAny_dictSet_pairs (s := St D h₆ tk₆) (hsz := Nat.le_trans hl (Nat.le_trans hi hn)) (strKind_is Pw D.w k t) (Heap.dictOf_iff.mpr ⟨oa, kept.1, da⟩) fun h₇ hl₇ hs₇ => ?_)))
          refine wpAny_pure ⟨rfl, n + 1 - (i + 1), Nat.sub_lt_sub_left (Nat.lt_succ_of_lt hlt) (Nat.lt_succ_self _), h₇, tk₆ + 1, G₄, C₄, m₄, i + 1, stored ys k vv, rfl, ?_, ?_, hw₆, hg.trans hg₆, qq, hl₇, kept.2.1.trans hga, kept.2.2.mpr hca, hlt, ?_, rfl⟩
          · exact (cb.unbase cx6).one (bnone nac) neq (kept.2.1.trans hga) (kept.2.2.mpr hca) fun b o nb e => hs₇.extBut b o nb e
          · refine T.frame _ _ _ st₆ fun b hb o e => hs₇.extBut b o (fun z => ?_) e
            subst z
            rcases hf b hb with hb | ⟨o', e'⟩
            · exact aw hb
            · rw [ok.fresh_g (bnone nac)] at e'; cases e'
          · have := stored_length_le ys k vv; lia

        | false =>
          rw [if_neg (by decide)] at q
          obtain ⟨st₆, hw₆, hg₆⟩ := comp_next T al hf hg st₃ cb.ok (fun b hb => (hwr b hb).2) c.lg cx5
          obtain ⟨oa, ea, da⟩ := Heap.dictOf_iff.mp ab
          have kept := And.intro (cx5.ext.keep ac _ neq ea hca) (And.intro (cx5.ext.gs ac _ neq ea) (cx5.ext.cs ac _ neq ea))
          exact wpAny_pure ⟨rfl, n + 1 - (i + 1), Nat.sub_lt_sub_left (Nat.lt_succ_of_lt hlt) (Nat.lt_succ_self _), h₅, tk₅, G₃, C₃, m₃, i + 1, ys, rfl, cb.unbase cx5, st₆, hw₆, hg.trans hg₆, q, Heap.dictOf_iff.mpr ⟨oa, kept.1, da⟩, kept.2.1.trans hga, kept.2.2.mpr hca, hlt, Nat.le_succ_of_le hl, rfl⟩
    · obtain rfl : i = n := Nat.le_antisymm hi (Nat.not_lt.mp hlt)
      refine wpAny_bind (wpAny_standAt (wpAny_bind (T.done (St D h tk) _ _ st fun h₁ tk₁ hk => wpAny_pure ?_)))
      have ca := c.wr hwr hk
      exact hR ac Lc h₁ tk₁ m₁ ys G₁ C₁ hzm (bnone nac) (bnone nLc) neq ca.ns ca.ok (ca.ext.toExt (bnone nLc)) hg hI (ha.at fun o e => hk ac o aw e) hga hca ca.lg ca.lc
  exact codeAny_compStart_dict (loop _ rfl) (self 0 _ _ _ st₁ (loop _ rfl))
end
end Mine
end
section
open PySem PySem.W PyProof.Rows PySem.Calls
set_option maxRecDepth 100000
set_option maxHeartbeats 4000000
namespace Mine
section
variable {D : Wd} {A : Around} {F : Fn} {G C : PM} {m : LM}
theorem B.listCompZ {elt target iter : PySem.Expr} {scope : Scope} {cl : List (Str × Addr)} {pos : Pos} {env : Env} {Q : Value → PM → PM → LM → Prop}
    (x : B D F A (eval iter env) (LcP D A target elt scope cl env fun Inv n G' m' => ∀ ys G₁ C₁ a G₂, GLe G' G₁ → Inv n ys G₁ C₁ → GLe G₁ G₂ → LzA G₂ a ys → Q (.ref a) G₂ C₁ m') G C m)
    (hclos : closureFor scope env = Pure.pure cl) (hcell : ∀ y ∈ scope.names, y.2 ≠ .cell) (hkind : scope.kind = .function) (hnames : ∀ x ∈ scope.names, x.2 = .local → scope.names.lookup x.1 = some .local)
    
    (hs : ∀ x, foldedSetIterable iter env x = Pure.pure x := by intro _; rfl) : B D F A (eval (.ListComp elt [⟨target, iter, [], 0⟩] scope pos) env) Q G C m := fun h cx tk => by
  rw [eval_ListComp]
  refine wpAny_comprehension_free (use := none) rfl hs hclos hkind hnames (wpAny_mono (x h cx tk) (fun xv s₁ hx => ?_) fun _ _ z => z)
  obtain ⟨h1, tk1, rfl, G', C', m', c1, n, P, Inv, it, hn, h0, step, fin⟩ := hx
  refine it h1 c1.ok.g _ _ tk1 fun I fp wr Md S h2 T al self st hk hw hf => ?_
  refine comp_block_list (hb := h1) (RR := fun acc Lc => compPost (model Pw D.w) A (fun _ _ => False) none _ acc Lc) c1.ok ⟨T, al, self, st, hk, hw, hf⟩ hn h0 (fun i v ys G₁ C₁ m₁ h F' hi hG hC hg hI c hP tk => ?_) (fun ac Lc h' tk' mc ys G₁ C₁ hz na nL ne hns ok ext hg hI hacc ga ca gL cL => ?_) hcell hkind
  · refine wpAny_mono (step i v ys G₁ C₁ m₁ F' hi hG hC hg hI hP h c tk) (fun _ s q => ?_) fun _ _ z => z
    obtain ⟨h', tk', rfl, G₂, C₂, m₂, c2, q⟩ := q
    exact ⟨h', tk', rfl, G₂, C₂, m₂, c2, q⟩
  · obtain ⟨en, ea⟩ := hacc
    have acis : ∀ G₂ : PM, G₂ ac = some { cls := .type "list", data := .seq ys.toArray en } → LzA G₂ ac ys := fun G₂ e => ⟨_, e, _, rfl⟩
    generalize ho : ({ cls := .type "list", data := .seq ys.toArray en } : Obj) = o at *
    have hk1 : ∀ {a o}, h1.get? a = some o → a ≠ ac ∧ a ≠ Lc := fun {a o} e => ⟨(fun z => by rw [z, na] at e; cases e), (fun z => by rw [z, nL] at e; cases e)⟩
    have okU : Ok D (up G₁ ac o) C₁ h' :=
      { x := ok.x, t := ok.t, z := ok.z, gb := fun a q e => GLe.up ga a q (ok.gb a q e), c := ok.c
        g := fun a q e => by
          by_cases z : a = ac
          · subst z; rw [up_self] at e; cases e; exact ea
          · rw [up_ne z] at e; exact ok.g a q e
        gc := fun a q e => by rw [up_ne (fun z => by rw [z, ca] at e; cases e)]; exact ok.gc a q e }
    have extU : Ext G' C' h1 (up G₁ ac o) C₁ h' := ⟨fun a q e => by rw [up_ne (hk1 e).1]; exact ext.gs a q e, ext.cs, ext.keep⟩
    refine ⟨mc, hns, fun h'' hs'' => ?_⟩
    have hL' : ∀ a q, a ≠ Lc → h'.get? a = some q → h''.get? a = some q := fun a q n e => hs''.extBut a q n e
    refine ⟨h'', tk', rfl, up G₁ ac o, C₁, m', ?_, fin ys G₁ C₁ ac _ hg hI (.up ga) (acis _ up_self)⟩
    refine c1.after (G' := up G₁ ac o) (C' := C₁) ?_ ⟨extU.gs, extU.cs, fun a q e hc => hL' a q (hk1 e).2 (extU.keep a q e hc)⟩
    exact
      { x := ok.x, t := ok.t, z := ok.z, gb := okU.gb, gc := okU.gc
        g := fun a q e => hL' a q (fun z => by rw [z, up_ne (Ne.symm ne), gL] at e; cases e) (okU.g a q e)
        c := fun a q e => hL' a q (fun z => by rw [z, cL] at e; cases e) (okU.c a q e) }
theorem B.listComp {elt target iter : PySem.Expr} {scope : Scope} {cl : List (Str × Addr)} {pos : Pos} {env : Env} {Q : Value → PM → PM → LM → Prop}
    (x : B D F A (eval iter env) (LcP D A target elt scope cl env fun Inv n G' m' => ∀ ys G₁ C₁ a G₂, GLe G' G₁ → Inv n ys G₁ C₁ → GLe G₁ G₂ → LsA G₂ a ys → Q (.ref a) G₂ C₁ m') G C m)
    (hclos : closureFor scope env = Pure.pure cl) (hcell : ∀ y ∈ scope.names, y.2 ≠ .cell) (hkind : scope.kind = .function) (hnames : ∀ x ∈ scope.names, x.2 = .local → scope.names.lookup x.1 = some .local)
    
    (hs : ∀ x, foldedSetIterable iter env x = Pure.pure x := by intro _; rfl) : B D F A (eval (.ListComp elt [⟨target, iter, [], 0⟩] scope pos) env) Q G C m :=
  B.listCompZ (B.mono x fun v G' C' m' ⟨n, P, Inv, a, b, c, d, fin⟩ => ⟨n, P, Inv, a, b, c, d, fun ys G₁ C₁ a G₂ g i g2 l => fin ys G₁ C₁ a G₂ g i g2 l.ls⟩) hclos hcell hkind hnames hs
theorem B.asgListCompZ {elt target iter : PySem.Expr} {scope : Scope} {cl : List (Str × Addr)} {pos : Pos} {env : Env} {Q : Flow → PM → PM → LM → Prop} {y : Str} {py spos : Pos}
    (x : B D F A (eval iter env) (LcP D A target elt scope cl env fun Inv n G' m' => ∀ ys G₁ C₁ a G₂, GLe G' G₁ → Inv n ys G₁ C₁ → GLe G₁ G₂ → LzA G₂ a ys → Q .next G₂ C₁ (upS m' y (.ref a))) G C m)
    (hclos : closureFor scope env = Pure.pure cl) (hcell : ∀ y ∈ scope.names, y.2 ≠ .cell) (hkind : scope.kind = .function) (hnames : ∀ x ∈ scope.names, x.2 = .local → scope.names.lookup x.1 = some .local)
    (hsw : swapsWith (.ListComp elt [⟨target, iter, [], 0⟩] scope pos) (some (.Name y py)) spos.line env = Pure.pure true) (hy : env.kindOf y = some .local) (hfk : env.scope.kind = .function) (hL : env.locals = F.L)
    (hs : ∀ x, foldedSetIterable iter env x = Pure.pure x := by intro _; rfl) : B D F A (exec (.Assign [.Name y py] (.ListComp elt [⟨target, iter, [], 0⟩] scope pos) spos) env) Q G C m := fun h cx tk => by
  rw [exec_Assign_Name_used _ _ _ _ hsw]
  refine wpAny_bind (wpAny_standAt (wpAny_bind ?_))
  show wpAny _ A (do let _ ← comprehension (.ListComp elt [⟨target, iter, [], 0⟩] scope pos) scope env _ (newList []) false (eval iter env) (some (PySem.assign (.Name y py) env))) _ _ _
  refine wpAny_bind (wpAny_mono (wpAny_comprehension_free (use := some (PySem.assign (.Name y py) env)) (Q := fun _ s' => WP D (BP D F Q) .next s') rfl hs hclos hkind hnames (wpAny_mono (x h cx tk) (fun xv s₁ hx => ?_) fun _ _ z => z)) (fun _ s' hq => wpAny_pure (wpAny_pure hq)) fun _ _ z => z)
  obtain ⟨h1, tk1, rfl, G', C', m', c1, n, P, Inv, it, hn, h0, step, fin⟩ := hx
  refine it h1 c1.ok.g _ _ tk1 fun I fp wr Md S h2 T al self st hk hw hf => ?_
  refine comp_block_list (hb := h1) (RR := fun acc Lc => compPost (model Pw D.w) A (fun _ _ => False) (some (PySem.assign (.Name y py) env)) (fun _ s' => WP D (BP D F Q) .next s') acc Lc) c1.ok ⟨T, al, self, st, hk, hw, hf⟩ hn h0 (fun i v ys G₁ C₁ m₁ h F' hi hG hC hg hI c hP tk => ?_) (fun ac Lc h' tk' mc ys G₁ C₁ hz na nL ne hns ok ext hg hI hacc ga ca gL cL => ?_) hcell hkind
  · refine wpAny_mono (step i v ys G₁ C₁ m₁ F' hi hG hC hg hI hP h c tk) (fun _ s q => ?_) fun _ _ z => z
    obtain ⟨h', tk', rfl, G₂, C₂, m₂, c2, q⟩ := q
    exact ⟨h', tk', rfl, G₂, C₂, m₂, c2, q⟩
  · obtain ⟨en, ea⟩ := hacc
    have acis : ∀ G₂ : PM, G₂ ac = some { cls := .type "list", data := .seq ys.toArray en } → LzA G₂ ac ys := fun G₂ e => ⟨_, e, _, rfl⟩
    generalize ho : ({ cls := .type "list", data := .seq ys.toArray en } : Obj) = o at *
    have hk1 : ∀ {a o}, h1.get? a = some o → a ≠ ac ∧ a ≠ Lc := fun {a o} e => ⟨(fun z => by rw [z, na] at e; cases e), (fun z => by rw [z, nL] at e; cases e)⟩
    have okU : Ok D (up G₁ ac o) C₁ h' :=
      { x := ok.x, t := ok.t, z := ok.z, gb := fun a q e => GLe.up ga a q (ok.gb a q e), c := ok.c
        g := fun a q e => by
          by_cases z : a = ac
          · subst z; rw [up_self] at e; cases e; exact ea
          · rw [up_ne z] at e; exact ok.g a q e
        gc := fun a q e => by rw [up_ne (fun z => by rw [z, ca] at e; cases e)]; exact ok.gc a q e }
    have extU : Ext G' C' h1 (up G₁ ac o) C₁ h' := ⟨fun a q e => by rw [up_ne (hk1 e).1]; exact ext.gs a q e, ext.cs, ext.keep⟩
    have cU := c1.after okU extU
    have nFL : F.L ≠ Lc := fun z => by obtain ⟨o', _, _, e, _⟩ := c1.ns; rw [z, nL] at e; cases e
    refine wpAny_assign_Name (wpAny_storeName_local (s := St D h' tk') (env := env) hy (hL ▸ cU.ns) (fun h'' hn'' hs'' => ?_) (by rw [hfk]; rfl))
    have cV := cU.set (hL ▸ hn'') (fun a o n e => (hs''.2 a (hL ▸ n)).trans e)
    refine ⟨mc, hns.sameBut hs'' (fun z => nFL (hL ▸ z.symm)), fun h₃ hs₃ => ?_⟩
    have hL' : ∀ a q, a ≠ Lc → h''.get? a = some q → h₃.get? a = some q := fun a q n e => hs₃.extBut a q n e
    refine ⟨h₃, _, rfl, up G₁ ac o, C₁, _, ?_, fin ys G₁ C₁ ac _ hg hI (.up ga) (acis _ up_self)⟩
    obtain ⟨oL, es, ep, eL, r⟩ := cV.ns
    have oldF : ∀ {a o}, a ≠ F.L → F.h.get? a = some o → a ≠ Lc := fun {a o} n e z => by
      obtain ⟨o', e'⟩ := c1.ext.alive c1.ok n e
      rw [z, nL] at e'; cases e'
    exact
      { ok := { x := ok.x, t := ok.t, z := ok.z, gb := okU.gb, gc := okU.gc
                g := fun a q e => hL' a q (fun z => by rw [z, up_ne (Ne.symm ne), gL] at e; cases e) (cV.ok.g a q e)
                c := fun a q e => hL' a q (fun z => by rw [z, cL] at e; cases e) (cV.ok.c a q e) }
        ext := { gs := cV.ext.gs, cs := cV.ext.cs, keep := fun a q n e hc => hL' a q (oldF n e) (cV.ext.keep a q n e hc) }
        ns := ⟨oL, es, ep, hL' _ _ nFL eL, r⟩, lg := cV.lg, lc := cV.lc, lg0 := cV.lg0, lc0 := cV.lc0, lb := cV.lb, ok0 := cV.ok0 }
theorem B.asgListComp {elt target iter : PySem.Expr} {scope : Scope} {cl : List (Str × Addr)} {pos : Pos} {env : Env} {Q : Flow → PM → PM → LM → Prop} {y : Str} {py spos : Pos}
    (x : B D F A (eval iter env) (LcP D A target elt scope cl env fun Inv n G' m' => ∀ ys G₁ C₁ a G₂, GLe G' G₁ → Inv n ys G₁ C₁ → GLe G₁ G₂ → LsA G₂ a ys → Q .next G₂ C₁ (upS m' y (.ref a))) G C m)
    (hclos : closureFor scope env = Pure.pure cl) (hcell : ∀ y ∈ scope.names, y.2 ≠ .cell) (hkind : scope.kind = .function) (hnames : ∀ x ∈ scope.names, x.2 = .local → scope.names.lookup x.1 = some .local)
    (hsw : swapsWith (.ListComp elt [⟨target, iter, [], 0⟩] scope pos) (some (.Name y py)) spos.line env = Pure.pure true) (hy : env.kindOf y = some .local) (hfk : env.scope.kind = .function) (hL : env.locals = F.L)
    (hs : ∀ x, foldedSetIterable iter env x = Pure.pure x := by intro _; rfl) : B D F A (exec (.Assign [.Name y py] (.ListComp elt [⟨target, iter, [], 0⟩] scope pos) spos) env) Q G C m :=
  B.asgListCompZ (B.mono x fun v G' C' m' ⟨n, P, Inv, a, b, c, d, fin⟩ => ⟨n, P, Inv, a, b, c, d, fun ys G₁ C₁ a G₂ g i g2 l => fin ys G₁ C₁ a G₂ g i g2 l.ls⟩) hclos hcell hkind hnames hsw hy hfk hL hs
theorem B.dictComp {kx vx target iter : PySem.Expr} {ifs : List PySem.Expr} {scope : Scope} {cl : List (Str × Addr)} {pos : Pos} {env : Env} {Q : Value → PM → PM → LM → Prop}
    (x : B D F A (eval iter env) (DcP D A target kx vx ifs scope cl env fun Inv n G' m' => ∀ ys G₁ C₁ a G₂, GLe G' G₁ → Inv n ys G₁ C₁ → GLe G₁ G₂ → DcA D G₂ a ys → Q (.ref a) G₂ C₁ m') G C m)
    (hclos : closureFor scope env = Pure.pure cl) (hcell : ∀ y ∈ scope.names, y.2 ≠ .cell) (hkind : scope.kind = .function) (hnames : ∀ x ∈ scope.names, x.2 = .local → scope.names.lookup x.1 = some .local)
    
    (hs : ∀ x, foldedSetIterable iter env x = Pure.pure x := by intro _; rfl) : B D F A (eval (.DictComp kx vx [⟨target, iter, ifs, 0⟩] scope pos) env) Q G C m := fun h cx tk => by
  rw [arm_eval_DictComp]
  refine wpAny_comprehension_free (use := none) rfl hs hclos hkind hnames (wpAny_mono (x h cx tk) (fun xv s₁ hx => ?_) fun _ _ z => z)
  obtain ⟨h1, tk1, rfl, G', C', m', c1, n, P, Inv, it, hn, h0, step, fin⟩ := hx
  refine it h1 c1.ok.g _ _ tk1 fun I fp wr Md S h2 T al self st hk hw hf => ?_
  refine comp_block_dict (hb := h1) (RR := fun acc Lc => compPost (model Pw D.w) A (fun _ _ => False) none _ acc Lc) c1.ok ⟨T, al, self, st, hk, hw, hf⟩ hn h0 (fun i v ys G₁ C₁ m₁ h F' hi hG hC hg hI c hP tk => ?_) (fun ac Lc h' tk' mc ys G₁ C₁ hz na nL ne hns ok ext hg hI hacc ga ca gL cL => ?_) hcell hkind
  · refine wpAny_mono (step i v ys G₁ C₁ m₁ F' hi hG hC hg hI hP h c tk) (fun _ s q => ?_) fun _ _ z => z
    obtain ⟨h', tk', rfl, G₂, C₂, m₂, c2, q⟩ := q
    exact ⟨h', tk', rfl, G₂, C₂, m₂, c2, q⟩
  · obtain ⟨o, ea, da⟩ := Heap.dictOf_iff.mp hacc
    have acis : ∀ G₂ : PM, G₂ ac = some o → DcA D G₂ ac ys := fun G₂ e => ⟨hz, o, e, da⟩
    have hk1 : ∀ {a o}, h1.get? a = some o → a ≠ ac ∧ a ≠ Lc := fun {a o} e => ⟨(fun z => by rw [z, na] at e; cases e), (fun z => by rw [z, nL] at e; cases e)⟩
    have okU : Ok D (up G₁ ac o) C₁ h' :=
      { x := ok.x, t := ok.t, z := ok.z, gb := fun a q e => GLe.up ga a q (ok.gb a q e), c := ok.c
        g := fun a q e => by
          by_cases z : a = ac
          · subst z; rw [up_self] at e; cases e; exact ea
          · rw [up_ne z] at e; exact ok.g a q e
        gc := fun a q e => by rw [up_ne (fun z => by rw [z, ca] at e; cases e)]; exact ok.gc a q e }
    have extU : Ext G' C' h1 (up G₁ ac o) C₁ h' := ⟨fun a q e => by rw [up_ne (hk1 e).1]; exact ext.gs a q e, ext.cs, ext.keep⟩
    refine ⟨mc, hns, fun h'' hs'' => ?_⟩
    have hL' : ∀ a q, a ≠ Lc → h'.get? a = some q → h''.get? a = some q := fun a q n e => hs''.extBut a q n e
    refine ⟨h'', tk', rfl, up G₁ ac o, C₁, m', ?_, fin ys G₁ C₁ ac _ hg hI (.up ga) (acis _ up_self)⟩
    refine c1.after (G' := up G₁ ac o) (C' := C₁) ?_ ⟨extU.gs, extU.cs, fun a q e hc => hL' a q (hk1 e).2 (extU.keep a q e hc)⟩
    exact
      { x := ok.x, t := ok.t, z := ok.z, gb := okU.gb, gc := okU.gc
        g := fun a q e => hL' a q (fun z => by rw [z, up_ne (Ne.symm ne), gL] at e; cases e) (okU.g a q e)
        c := fun a q e => hL' a q (fun z => by rw [z, cL] at e; cases e) (okU.c a q e) }
theorem B.asgDictComp {kx vx target iter : PySem.Expr} {ifs : List PySem.Expr} {scope : Scope} {cl : List (Str × Addr)} {pos : Pos} {env : Env} {Q : Flow → PM → PM → LM → Prop} {y : Str} {py spos : Pos}
    (x : B D F A (eval iter env) (DcP D A target kx vx ifs scope cl env fun Inv n G' m' => ∀ ys G₁ C₁ a G₂, GLe G' G₁ → Inv n ys G₁ C₁ → GLe G₁ G₂ → DcA D G₂ a ys → Q .next G₂ C₁ (upS m' y (.ref a))) G C m)
    (hclos : closureFor scope env = Pure.pure cl) (hcell : ∀ y ∈ scope.names, y.2 ≠ .cell) (hkind : scope.kind = .function) (hnames : ∀ x ∈ scope.names, x.2 = .local → scope.names.lookup x.1 = some .local)
    (hsw : swapsWith (.DictComp kx vx [⟨target, iter, ifs, 0⟩] scope pos) (some (.Name y py)) spos.line env = Pure.pure true) (hy : env.kindOf y = some .local) (hfk : env.scope.kind = .function) (hL : env.locals = F.L)
    (hs : ∀ x, foldedSetIterable iter env x = Pure.pure x := by intro _; rfl) : B D F A (exec (.Assign [.Name y py] (.DictComp kx vx [⟨target, iter, ifs, 0⟩] scope pos) spos) env) Q G C m := fun h cx tk => by
  rw [exec_Assign_Name_used _ _ _ _ hsw]
  refine wpAny_bind (wpAny_standAt (wpAny_bind ?_))
  show wpAny _ A (do let _ ← comprehension (.DictComp kx vx [⟨target, iter, ifs, 0⟩] scope pos) scope env _ newDict false (eval iter env) (some (PySem.assign (.Name y py) env))) _ _ _
  refine wpAny_bind (wpAny_mono (wpAny_comprehension_free (use := some (PySem.assign (.Name y py) env)) (Q := fun _ s' => WP D (BP D F Q) .next s') rfl hs hclos hkind hnames (wpAny_mono (x h cx tk) (fun xv s₁ hx => ?_) fun _ _ z => z)) (fun _ s' hq => wpAny_pure (wpAny_pure hq)) fun _ _ z => z)
  obtain ⟨h1, tk1, rfl, G', C', m', c1, n, P, Inv, it, hn, h0, step, fin⟩ := hx
  refine it h1 c1.ok.g _ _ tk1 fun I fp wr Md S h2 T al self st hk hw hf => ?_
  refine comp_block_dict (hb := h1) (RR := fun acc Lc => compPost (model Pw D.w) A (fun _ _ => False) (some (PySem.assign (.Name y py) env)) (fun _ s' => WP D (BP D F Q) .next s') acc Lc) c1.ok ⟨T, al, self, st, hk, hw, hf⟩ hn h0 (fun i v ys G₁ C₁ m₁ h F' hi hG hC hg hI c hP tk => ?_) (fun ac Lc h' tk' mc ys G₁ C₁ hz na nL ne hns ok ext hg hI hacc ga ca gL cL => ?_) hcell hkind
  · refine wpAny_mono (step i v ys G₁ C₁ m₁ F' hi hG hC hg hI hP h c tk) (fun _ s q => ?_) fun _ _ z => z
    obtain ⟨h', tk', rfl, G₂, C₂, m₂, c2, q⟩ := q
    exact ⟨h', tk', rfl, G₂, C₂, m₂, c2, q⟩
  · obtain ⟨o, ea, da⟩ := Heap.dictOf_iff.mp hacc
    have acis : ∀ G₂ : PM, G₂ ac = some o → DcA D G₂ ac ys := fun G₂ e => ⟨hz, o, e, da⟩
    have hk1 : ∀ {a o}, h1.get? a = some o → a ≠ ac ∧ a ≠ Lc := fun {a o} e => ⟨(fun z => by rw [z, na] at e; cases e), (fun z => by rw [z, nL] at e; cases e)⟩
    have okU : Ok D (up G₁ ac o) C₁ h' :=
      { x := ok.x, t := ok.t, z := ok.z, gb := fun a q e => GLe.up ga a q (ok.gb a q e), c := ok.c
        g := fun a q e => by
          by_cases z : a = ac
          · subst z; rw [up_self] at e; cases e; exact ea
          · rw [up_ne z] at e; exact ok.g a q e
        gc := fun a q e => by rw [up_ne (fun z => by rw [z, ca] at e; cases e)]; exact ok.gc a q e }
    have extU : Ext G' C' h1 (up G₁ ac o) C₁ h' := ⟨fun a q e => by rw [up_ne (hk1 e).1]; exact ext.gs a q e, ext.cs, ext.keep⟩
    have cU := c1.after okU extU
    have nFL : F.L ≠ Lc := fun z => by obtain ⟨o', _, _, e, _⟩ := c1.ns; rw [z, nL] at e; cases e
    refine wpAny_assign_Name (wpAny_storeName_local (s := St D h' tk') (env := env) hy (hL ▸ cU.ns) (fun h'' hn'' hs'' => ?_) (by rw [hfk]; rfl))
    have cV := cU.set (hL ▸ hn'') (fun a o n e => (hs''.2 a (hL ▸ n)).trans e)
    refine ⟨mc, hns.sameBut hs'' (fun z => nFL (hL ▸ z.symm)), fun h₃ hs₃ => ?_⟩
    have hL' : ∀ a q, a ≠ Lc → h''.get? a = some q → h₃.get? a = some q := fun a q n e => hs₃.extBut a q n e
    refine ⟨h₃, _, rfl, up G₁ ac o, C₁, _, ?_, fin ys G₁ C₁ ac _ hg hI (.up ga) (acis _ up_self)⟩
    obtain ⟨oL, es, ep, eL, r⟩ := cV.ns
    have oldF : ∀ {a o}, a ≠ F.L → F.h.get? a = some o → a ≠ Lc := fun {a o} n e z => by
      obtain ⟨o', e'⟩ := c1.ext.alive c1.ok n e
      rw [z, nL] at e'; cases e'
    exact
      { ok := { x := ok.x, t := ok.t, z := ok.z, gb := okU.gb, gc := okU.gc
                g := fun a q e => hL' a q (fun z => by rw [z, up_ne (Ne.symm ne), gL] at e; cases e) (cV.ok.g a q e)
                c := fun a q e => hL' a q (fun z => by rw [z, cL] at e; cases e) (cV.ok.c a q e) }
        ext := { gs := cV.ext.gs, cs := cV.ext.cs, keep := fun a q n e hc => hL' a q (oldF n e) (cV.ext.keep a q n e hc) }
        ns := ⟨oL, es, ep, hL' _ _ nFL eL, r⟩, lg := cV.lg, lc := cV.lc, lg0 := cV.lg0, lc0 := cV.lc0, lb := cV.lb, ok0 := cV.ok0 }
end
end Mine
end
section
open PySem PySem.W PyProof.Rows PySem.Calls
set_option maxRecDepth 100000
set_option maxHeartbeats 4000000
namespace Mine
/-! objects: more rules -/
section
variable {D : Wd} {A : Around} {F : Fn} {G C G' C' : PM} {m : LM} {h h' : Heap} {a x c : Addr} {vs : List Value} {kvs : List (Str × Value)} {fs : List (Str × Value)} {env : Env} {pos : Pos}
theorem Cx.pushG (c : Cx D F G C m h) {o : Obj} (ha : h.get? a = none) (ho : h'.get? a = some o) (hk : ∀ x q, h.get? x = some q → h'.get? x = some q) : Cx D F (up G a o) C m h' := c.after (c.ok.newG ha ho hk) (.newG ha hk)
theorem Cx.pushC (c : Cx D F G C m h) {o : Obj} (ha : h.get? a = none) (ho : h'.get? a = some o) (hk : ∀ x q, h.get? x = some q → h'.get? x = some q) : Cx D F G (up C a o) m h' := c.after (c.ok.newC ha ho hk) (.newC ha hk)
theorem Cx.keepN (c : Cx D F G C m h) {m' : LM} {o : Obj} (F' : Fr D.b F.L h' m') (N' : News D.b F.L h' ((a, o) :: restL D.b h F.L a)) (ha : h.get? a = none) : (∀ x q, x ≠ F.L → h.get? x = some q → h'.get? x = some q) ∧ h'.get? a = some o :=
  ⟨fun x q n e => by
    cases hb : D.b.get? x with
    | none => exact (N' _ (List.mem_cons_of_mem _ (restL_mem e hb n fun z => by rw [z, ha] at e; cases e))).1
    | some q' => rw [c.ok.base x q' hb] at e; cases e; exact F'.keep x _ hb, (N' _ List.mem_cons_self).1⟩
theorem Cx.newN (c : Cx D F G C m h) (a : Addr) : News D.b F.L h (restL D.b h F.L a) := fun p hp => by
  have := restL_mem' hp
  exact ⟨this.1, this.2.1, this.2.2.1⟩
theorem Cx.newGN (c : Cx D F G C m h) {m' : LM} {o : Obj} (F' : Fr D.b F.L h' m') (N' : News D.b F.L h' ((a, o) :: restL D.b h F.L a)) (ha : h.get? a = none) : Cx D F (up G a o) C m' h' := by
  obtain ⟨hk, ho⟩ := c.keepN F' N' ha
  have nL : a ≠ F.L := fun z => by obtain ⟨_, _, _, e, _⟩ := c.ns; rw [← z, ha] at e; cases e
  have ga := c.ok.fresh_g ha
  have ca := c.ok.fresh_c ha
  exact
    { ok := { x := c.ok.x, t := c.ok.t, z := c.ok.z, gb := fun x q e => GLe.up ga x q (c.ok.gb x q e)
              g := fun x q e => by
                by_cases z : x = a
                · subst z; rw [up_self] at e; cases e; exact ho
                · rw [up_ne z] at e; exact hk x q (fun z => by rw [z, c.lg] at e; cases e) (c.ok.g x q e)
              c := fun x q e => hk x q (fun z => by rw [z, c.lc] at e; cases e) (c.ok.c x q e)
              gc := fun x q e => by rw [up_ne (fun z => by rw [z, ca] at e; cases e)]; exact c.ok.gc x q e }
      ext := { gs := fun x q n e => by
                 rw [up_ne (fun z => ?_)]
                 · exact c.ext.gs x q n e
                 · obtain ⟨o', e'⟩ := c.ext.alive c.ok n e; rw [z, ha] at e'; cases e'
               cs := c.ext.cs, keep := fun x q n e hc => hk x q n (c.ext.keep x q n e hc) }
      ns := F'.ns, lg := by rw [up_ne (Ne.symm nL)]; exact c.lg
      lc := c.lc, lg0 := c.lg0, lc0 := c.lc0, lb := c.lb, ok0 := c.ok0 }
theorem tpl (k : Ok D G C h) (r : TpA G a vs) : h.IsTuple a vs.toArray := let ⟨o, e, hc, ep, hd⟩ := r; ⟨o, k.g _ _ e, hc, ⟨ep, hd⟩⟩
/-! isinstance -/
theorem B.isi {x d : Addr} {c : Value} {b : Bool} {Q : Value → PM → PM → LM → Prop} (hx : InA G x d fs) (e : kitOne (K D.w.params) (.ref d) c = some b)
    (hg : plainGet (K D.w.params) d "__class__" = true) (hh : hasDictIn (K D.w.params) d = true) (ha : findIn (K D.w.params) (.ref d) "__class__" = some (some (.builtin "object.__class__")))
    (hn : specialIn (K D.w.params) (.builtin "object.__class__") "__get__" = some (some (.builtin "getset_descriptor.__get__"))) (ht : takesIn (K D.w.params) (.builtin "object.__class__") = some true) (hm : mroIn (K D.w.params) d (.type "object") = some true)
    (q : Q (.bool b) G C m) : B D F A (PySem.call (.builtin "isinstance") [.ref x, c]) Q G C m :=
  B.val (· = .bool b) (fun h cx Q E tk j => by
    obtain ⟨ox, es, n, I, _⟩ := rdI cx.ok hx
    exact kia_one (kitx_own hg hh ha hn ht hm) cx.ok.K I e (fun z => by cases z) fun tk => j tk _ rfl) fun _ e => e ▸ q
theorem B.isiT {x d t : Addr} {cs : List Value} {b : Bool} {Q : Value → PM → PM → LM → Prop} (hx : InA G x d fs) (hT : TpA G t cs) (e : kitAny (K D.w.params) (.ref d) cs = some b)
    (hg : plainGet (K D.w.params) d "__class__" = true) (hh : hasDictIn (K D.w.params) d = true) (ha : findIn (K D.w.params) (.ref d) "__class__" = some (some (.builtin "object.__class__")))
    (hn : specialIn (K D.w.params) (.builtin "object.__class__") "__get__" = some (some (.builtin "getset_descriptor.__get__"))) (ht : takesIn (K D.w.params) (.builtin "object.__class__") = some true) (hm : mroIn (K D.w.params) d (.type "object") = some true)
    (q : Q (.bool b) G C m) : B D F A (PySem.call (.builtin "isinstance") [.ref x, .ref t]) Q G C m :=
  B.val (· = .bool b) (fun h cx Q E tk j => by
    obtain ⟨ox, es, n, I, _⟩ := rdI cx.ok hx
    obtain ⟨⟨oc, od, dd, osl⟩, et, hc, ep, hd⟩ := hT
    dsimp only at hc hd
    subst hc hd
    exact kia_tup (kitx_own hg hh ha hn ht hm) cx.ok.K I (cx.ok.g _ _ et) e (fun z => by cases z) fun tk => j tk _ rfl) fun _ e => e ▸ q
theorem B.isiInt {i : Int} {t : Tok} {T : String} {b : Bool} {Q : Value → PM → PM → LM → Prop} (e : kitOne (K D.w.params) (.type "int") (.type T) = some b) (q : Q (.bool b) G C m) : B D F A (PySem.call (.builtin "isinstance") [.int i t, .type T]) Q G C m :=
  B.val (· = .bool b) (fun h cx Q E tk j => kia_one kitx_int cx.ok.K trivial e (fun z => by cases z) fun tk => j tk _ rfl) fun _ e => e ▸ q
theorem B.isiStr {i : Str} {t : Tok} {T : String} {b : Bool} {Q : Value → PM → PM → LM → Prop} (e : kitOne (K D.w.params) (.type "str") (.type T) = some b) (q : Q (.bool b) G C m) : B D F A (PySem.call (.builtin "isinstance") [.str i t, .type T]) Q G C m :=
  B.val (· = .bool b) (fun h cx Q E tk j => kia_one kitx_str cx.ok.K trivial e (fun z => by cases z) fun tk => j tk _ rfl) fun _ e => e ▸ q
theorem B.isiTup {t : Addr} {T : String} {b : Bool} {Q : Value → PM → PM → LM → Prop} (ht : TpA G t vs) (e : kitOne (K D.w.params) (.type "tuple") (.type T) = some b) (q : Q (.bool b) G C m) : B D F A (PySem.call (.builtin "isinstance") [.ref t, .type T]) Q G C m :=
  B.val (· = .bool b) (fun h cx Q E tk j => kia_one kitx_tuple cx.ok.K (let ⟨o, e, hc, _, _⟩ := ht; ⟨o, cx.ok.g _ _ e, hc⟩) e (fun z => by cases z) fun tk => j tk _ rfl) fun _ e => e ▸ q
/-! is -/
theorem B.isNone {v : Value} {Q : Value → PM → PM → LM → Prop} (q : Q (.bool (v == .none)) G C m) : B D F A (compareOp .Is v .none) Q G C m := B.val (· = .bool (v == .none)) (fun h c Q E tk j => is_none_gen (j _ _ rfl)) fun _ e => e ▸ q
theorem B.isNotNone {v : Value} {Q : Value → PM → PM → LM → Prop} (hp : plainIs v .none = true) (q : Q (.bool (!(v == .none))) G C m) : B D F A (compareOp .IsNot v .none) Q G C m := B.val (· = .bool (!(v == .none))) (fun h c Q E tk j => wpAny_isNot_plain hp (j _ _ rfl)) fun _ e => e ▸ q
theorem B.eqStr {x y : Str} {t u : Tok} {Q : Value → PM → PM → LM → Prop} (q : Q (.bool (decide (x = y))) G C m) : B D F A (compareOp .Eq (.str x t) (.str y u)) Q G C m :=
  B.val (· = .bool (x == y)) (fun h c Q E tk j => eq_str (j _ _ rfl)) fun _ e => by
    have : (x == y) = decide (x = y) := by rw [Bool.eq_iff_iff]; simp
    rw [e, this]; exact q
/-! dicts -/
theorem typeDict (k : Ok D G C h) {tk : Nat} (r : Rd G C fun M => DcA D M a kvs) : (St D h tk).TypeIs (.ref a) "dict" := (rdD k r).2.mapOf.typeIs
theorem B.dictGet1 {k : Str} {t : Tok} {Q : Value → PM → PM → LM → Prop} (hl : Rd G C fun M => DcA D M a kvs) (q : Q ((valueAt kvs k).getD .none) G C m) : B D F A (PySem.call (.builtin "dict.get") [.ref a, .str k t]) Q G C m :=
  B.val (· = (valueAt kvs k).getD .none) (fun h cx Q E tk j => call_meetsIn PySem.F.slot_dict_get (typeDict cx.ok hl) PySem.F.entry_dict_get (PySem.F.args_dict_get_2 _ _) (meets_dict_get (PySem.strKind Pw D.w) a (strKind_is Pw D.w k t) (rdD cx.ok hl).1) ⟨_, (rdD cx.ok hl).2.mapOf, j _ _ rfl⟩) fun _ e => e ▸ q
theorem B.dictGet2 {k : Str} {t : Tok} {dv : Value} {Q : Value → PM → PM → LM → Prop} (hl : Rd G C fun M => DcA D M a kvs) (q : Q ((valueAt kvs k).getD dv) G C m) : B D F A (PySem.call (.builtin "dict.get") [.ref a, .str k t, dv]) Q G C m :=
  B.val (· = (valueAt kvs k).getD dv) (fun h cx Q E tk j => call_meetsIn PySem.F.slot_dict_get (typeDict cx.ok hl) PySem.F.entry_dict_get (PySem.F.args_dict_get_3 _ _ _) (meets_dict_get_default (PySem.strKind Pw D.w) a (strKind_is Pw D.w k t) (rdD cx.ok hl).1 dv) ⟨_, (rdD cx.ok hl).2.mapOf, j _ _ rfl⟩) fun _ e => e ▸ q
theorem notMod (c : Cx D F G C m h) : (h.objs.size == sysModules) = false := beq_eq_false_iff_ne.mpr (Nat.ne_of_gt (modules_low c.ok.nolimit))
/-- dict(d), a copy that may be written -/
theorem B.dictOf {o : Addr} {Q : Value → PM → PM → LM → Prop} (hl : Rd G C fun M => DcA D M o kvs) (hz : kvs.length ≤ sizeLine)
    (q : ∀ a ob, G a = none → C a = none → F.C a = none → (a == sysModules) = false → ob.IsDictOf (PySem.strKind Pw D.w) kvs → Q (.ref a) G (up C a ob) m) : B D F A (PySem.call (.type "dict") [.ref o]) Q G C m := fun h c tk =>
  kt_call_dict (s := St D h tk) (rdD c.ok hl).1 (rdD c.ok hl).2 hz fun h' hd hs => by
    obtain ⟨ob, ho, hd⟩ := Heap.dictOf_iff.mp hd
    have ha := get_size h
    have hk : ∀ x q, h.get? x = some q → h'.get? x = some q := fun x q e => hs.extBut x q (fun z => by rw [z] at e; exact absurd (e.symm.trans ha) (by simp)) (Heap.get?_push_of_some _ e)
    exact ⟨h', tk, rfl, G, _, m, c.pushC ha ho hk, q _ _ (c.ok.fresh_g ha) (c.ok.fresh_c ha) (c.own ha) (notMod c) hd⟩
theorem B.dictUpdate {d o : Addr} {ob : Obj} {more : List (Str × Value)} {Q : Value → PM → PM → LM → Prop} (hc : C d = some ob) (hd : ob.IsDictOf (PySem.strKind Pw D.w) kvs) (hl : DcA D G o more) (hz : kvs.length + more.length ≤ sizeLine)
    (q : ∀ o', o'.IsDictOf (PySem.strKind Pw D.w) (merged kvs more) → Q .none G (up C d o') m) : B D F A (PySem.call (.builtin "dict.update") [.ref d, .ref o]) Q G C m := fun h c tk => by
  have hne : d ≠ o := fun z => by
    subst z
    obtain ⟨_, o', e, _⟩ := hl
    rw [c.ok.gc _ _ hc] at e; cases e
  have h1 : Heap.DictOf (PySem.strKind Pw D.w) h d kvs := Heap.dictOf_iff.mpr ⟨ob, c.ok.c _ _ hc, hd⟩
  have h2 := rdD c.ok (.inl hl)
  refine call_meetsIn (s := St D h tk) PySem.F.slot_dict_update h1.mapOf.typeIs PySem.F.entry_dict_update (PySem.F.args_dict_update_2 _ _) (meets_dict_update (PySem.strKind Pw D.w) d o hne h2.1) ⟨kvs, more, h1, h2.2, hz, fun h' hd' _ hs => ?_⟩
  obtain ⟨o', ho', hd'⟩ := Heap.dictOf_iff.mp hd'
  exact ⟨h', tk, rfl, G, _, m, c.after (c.ok.upd hc (fun x q n e => (hs.2 x n).trans e) ho') (.upd hc fun x q n e => (hs.2 x n).trans e), q o' hd'⟩
theorem B.dictPop {d : Addr} {ob : Obj} {k : Str} {t : Tok} {v : Value} {Q : Value → PM → PM → LM → Prop} (hc : C d = some ob) (hd : ob.IsDictOf (PySem.strKind Pw D.w) kvs) (hz : kvs.length ≤ sizeLine) (hv : valueAt kvs k = some v)
    (q : ∀ o', o'.IsDictOf (PySem.strKind Pw D.w) (PySem.without kvs k) → Q v G (up C d o') m) : B D F A (PySem.call (.builtin "dict.pop") [.ref d, .str k t]) Q G C m := fun h c tk => by
  have h1 : Heap.DictOf (PySem.strKind Pw D.w) h d kvs := Heap.dictOf_iff.mpr ⟨ob, c.ok.c _ _ hc, hd⟩
  refine call_meetsIn (s := St D h tk) PySem.F.slot_dict_pop h1.mapOf.typeIs PySem.F.entry_dict_pop (PySem.F.args_dict_pop_2 _ _) (meets_dict_pop_there (PySem.strKind Pw D.w) d (strKind_is Pw D.w k t) [] (.inl rfl) rfl) ⟨kvs, v, h1, hz, hv, fun h' hd' hs => ?_⟩
  obtain ⟨o', ho', hd'⟩ := Heap.dictOf_iff.mp hd'
  exact ⟨h', tk + 1, rfl, G, _, m, c.after (c.ok.upd hc (fun x q n e => (hs.2 x n).trans e) ho') (.upd hc fun x q n e => (hs.2 x n).trans e), q o' hd'⟩
/-! lists -/
theorem B.listOf {l : Addr} {Q : Value → PM → PM → LM → Prop} (hl : Rd G C fun M => LsA M l vs) (hz : vs.length ≤ sizeLine) (q : ∀ a G', GLe G G' → LsA G' a vs → Q (.ref a) G' C m) : B D F A (PySem.call (.type "list") [.ref l]) Q G C m := fun h c tk => by
  obtain ⟨o, ho, hc, n, hd⟩ := rdL c.ok hl
  refine call_list_seq (s := St D h tk) (hsz := by simpa using hz) l (.inl rfl) ho hc hd fun h' c' hk hD => ?_
  exact ⟨h', tk, rfl, _, C, m, c.pushG (get_size h) hD hk, q _ _ (.up (c.ok.fresh_g (get_size h))) ⟨_, up_self, rfl, _, rfl⟩⟩
theorem B.tupleOf {l : Addr} {Q : Value → PM → PM → LM → Prop} (hl : Rd G C fun M => LsA M l vs) (hz : vs.length ≤ sizeLine) (q : ∀ a G', GLe G G' → TpA G' a vs → Q (.ref a) G' C m) : B D F A (PySem.call (.type "tuple") [.ref l]) Q G C m := fun h c tk => by
  refine call_tuple_list (s := St D h tk) (hsz := by simpa using hz) (rdL c.ok hl) fun h' hk => ?_
  have ck : Cx D F G C m h' := c.after (c.ok.grow hk) (.grow hk)
  exact ⟨_, tk, rfl, _, C, m, ck.pushG (get_size h') (Heap.get?_push_size _ rfl) (fun x q e => Heap.get?_push_of_some _ e), q _ _ (.up (ck.ok.fresh_g (get_size h'))) ⟨_, up_self, rfl, _, rfl⟩⟩
theorem B.addLists {l b : Addr} {ws : List Value} {Q : Value → PM → PM → LM → Prop} (hl : Rd G C fun M => LsA M l vs) (hb : Rd G C fun M => LsA M b ws) (hz : vs.length + ws.length ≤ sizeLine) (q : ∀ a G', GLe G G' → LsA G' a (vs ++ ws) → Q (.ref a) G' C m) :
    B D F A (binaryOp .Add (.ref l) (.ref b)) Q G C m := fun h c tk => by
  refine add_arrays (s := St D h tk) (hsz := by simpa using hz) c.fr (c.newN h.objs.size) (rdL c.ok hl) (rdL c.ok hb) fun h' F' N' => ?_
  exact ⟨h', tk, rfl, _, C, m, c.newGN F' N' (get_size h), q _ _ (.up (c.ok.fresh_g (get_size h))) ⟨_, up_self, rfl, _, rfl⟩⟩
theorem B.addListsZ {l b : Addr} {ws : List Value} {Q : Value → PM → PM → LM → Prop} (hl : Rd G C fun M => LsA M l vs) (hb : Rd G C fun M => LsA M b ws) (hz : vs.length + ws.length ≤ sizeLine) (q : ∀ a G', GLe G G' → LzA G' a (vs ++ ws) → Q (.ref a) G' C m) :
    B D F A (binaryOp .Add (.ref l) (.ref b)) Q G C m := fun h c tk => by
  refine add_arrays (s := St D h tk) (hsz := by simpa using hz) c.fr (c.newN h.objs.size) (rdL c.ok hl) (rdL c.ok hb) fun h' F' N' => ?_
  exact ⟨h', tk, rfl, _, C, m, c.newGN F' N' (get_size h), q _ _ (.up (c.ok.fresh_g (get_size h))) ⟨_, up_self, _, rfl⟩⟩
theorem B.append {l : Addr} {o : Obj} {v : Value} {Q : Value → PM → PM → LM → Prop} (hc : C l = some o) (hl : PlO o vs) (hz : vs.length ≤ sizeLine) (q : ∀ o', PlO o' (vs ++ [v]) → Q .none G (up C l o') m) : B D F A (PySem.call (.builtin "list.append") [.ref l, v]) Q G C m := fun h c tk => by
  obtain ⟨n, rfl⟩ := hl
  refine wpAny_list_append_plain (s := St D h tk) ⟨n, c.ok.c _ _ hc⟩ (fun h' hi hs => ?_) (by simpa using hz)
  obtain ⟨n', ho'⟩ := hi
  exact ⟨h', tk, rfl, G, _, m, c.after (c.ok.upd hc (fun x q n e => (hs.2 x n).trans e) ho') (.upd hc fun x q n e => (hs.2 x n).trans e), q _ ⟨n', by simp⟩⟩
theorem B.methAppend {l : Addr} {o : Obj} {pl : Sem Bool} {Q : Value × List Value → PM → PM → LM → Prop} (hc : C l = some o) (hl : PlO o vs) (q : Q (.builtin "list.append", [.ref l]) G C m) : B D F A (getMethod (.ref l) "append" pl) Q G C m :=
  B.val (· = (.builtin "list.append", [.ref l])) (fun h c Q E tk j => by
    obtain ⟨n, rfl⟩ := hl
    exact getMethod_list_append (s := St D h tk) (c.ok.c _ _ hc) rfl rfl (j _ _ rfl)) fun _ e => e ▸ q
theorem B.methD {d : Addr} {name : Str} {id : String} {pl : Sem Bool} {Q : Value × List Value → PM → PM → LM → Prop} (slot : Slot "dict" name id) (ty : typeOf (.builtin id) = Pure.pure (.type "method_descriptor")) (hl : Rd G C fun M => DcA D M d kvs) (q : Q (.builtin id, [.ref d]) G C m) : B D F A (getMethod (.ref d) name pl) Q G C m :=
  B.val (· = (.builtin id, [.ref d])) (fun h c Q E tk j => getMethod_builtin (s := St D h tk) (rdD c.ok hl).2.mapOf.typeIs PySem.F.plainAttrs_dict slot ty (rdD c.ok hl).2.mapOf.noDict (j _ _ rfl)) fun _ e => e ▸ q
end
end Mine
end
section
open PySem PySem.W PyProof.Rows PySem.Calls
set_option maxRecDepth 100000
set_option maxHeartbeats 4000000
namespace Mine
/-! equality of data -/
noncomputable def RdG (G : PM) (v : Value) (d : PyData) : Prop := ∀ h : Heap, (∀ a o, G a = some o → h.get? a = some o) → ∃ as, Reads h v d as
noncomputable def RdGs (G : PM) (vs : List Value) (ds : List PyData) : Prop := ∀ h : Heap, (∀ a o, G a = some o → h.get? a = some o) → ∃ as, ReadsAll h vs ds as
section
variable {D : Wd} {A : Around} {F : Fn} {G C G' C' : PM} {m : LM} {h h' : Heap} {a x c : Addr} {vs : List Value} {kvs : List (Str × Value)} {fs : List (Str × Value)} {env : Env} {pos : Pos}
theorem RdG.up {v : Value} {d : PyData} (g : GLe G G') (r : RdG G v d) : RdG G' v d := fun h k => r h fun a o e => k a o (g a o e)
theorem RdG.int {i : Int} {t : Tok} : RdG G (.int i t) (.int i) := fun _ _ => ⟨_, .int _ _⟩
theorem RdG.bool {b : Bool} : RdG G (.bool b) (.bool b) := fun _ _ => ⟨_, .bool _⟩
theorem RdG.str {b : Str} {t : Tok} : RdG G (.str b t) (.str b) := fun _ _ => ⟨_, .str _ _⟩
theorem RdGs.nil : RdGs G [] [] := fun _ _ => ⟨_, .nil⟩
theorem RdGs.cons {v : Value} {d : PyData} {ds : List PyData} (r : RdG G v d) (s : RdGs G vs ds) : RdGs G (v :: vs) (d :: ds) := fun h k => by
  obtain ⟨as, r⟩ := r h k; obtain ⟨bs, s⟩ := s h k; exact ⟨_, .cons r s⟩
theorem RdG.tuple {ds : List PyData} (t : TpA G a vs) (s : RdGs G vs ds) : RdG G (.ref a) (.tuple ds) := fun h k => by
  obtain ⟨o, e, hc, ep, hd⟩ := t; obtain ⟨bs, s⟩ := s h k; exact ⟨_, .tuple (k _ _ e) hc hd s⟩
theorem RdG.list {ds : List PyData} (t : LsA G a vs) (s : RdGs G vs ds) : RdG G (.ref a) (.list ds) := fun h k => by
  obtain ⟨o, e, hc, ep, hd⟩ := t; obtain ⟨bs, s⟩ := s h k; exact ⟨_, .list (k _ _ e) hc hd s⟩
theorem B.eqData {v w : Value} {d e : PyData} {Q : Value → PM → PM → LM → Prop} (r : RdG G v d) (s : RdG G w e) (hd : PySem.SeqAt.shaped d = true) (he : PySem.SeqAt.shaped e = true) (hu : A.units + 64 < cLine) (q : Q (.bool (PyData.eqv d e)) G C m) : B D F A (compareOp .Eq v w) Q G C m :=
  B.val (· = .bool (PyData.eqv d e)) (fun h c Q E tk j => by
    obtain ⟨as, r⟩ := r h c.ok.g; obtain ⟨bs, s⟩ := s h c.ok.g
    exact eq_dataH r s hd he hu (j _ _ rfl)) fun _ e => e ▸ q
theorem B.neData {v w : Value} {d e : PyData} {Q : Value → PM → PM → LM → Prop} (r : RdG G v d) (s : RdG G w e) (hd : PySem.SeqAt.shaped d = true) (he : PySem.SeqAt.shaped e = true) (hu : A.units + 64 < cLine) (q : Q (.bool (!PyData.eqv d e)) G C m) : B D F A (compareOp .NotEq v w) Q G C m :=
  B.val (· = .bool (!PyData.eqv d e)) (fun h c Q E tk j => by
    obtain ⟨as, r⟩ := r h c.ok.g; obtain ⟨bs, s⟩ := s h c.ok.g
    exact ne_dataH r s hd he hu (j _ _ rfl)) fun _ e => e ▸ q
/-! sorted(d) -/
theorem strs_of : ∀ {vs : List Value} {ks : List Str}, vs.length = ks.length → (∀ (j : Nat) (v : Value), vs[j]? = some v → ∃ k t, ks[j]? = some k ∧ v = .str k t) → StrsAre vs ks
  | [], [], _, _ => .nil
  | v :: vs, k :: ks, hl, h => by
    obtain ⟨k', t, e, rfl⟩ := h 0 v rfl
    cases e
    exact .cons _ _ (strs_of (Nat.succ.inj hl) fun j v e => h (j + 1) v e)
theorem B.sortedD {d : Addr} {Q : Value → PM → PM → LM → Prop} (hh : A.handled = none) (hl : DcA D G d kvs) (hz : kvs.length < 64)
    (q : ∀ a G' vs ss, GLe G G' → LsA G' a vs → StrsAre vs ss → ss.Perm (kvs.map (·.1)) → sortedS ss = true → Q (.ref a) G' C m) : B D F A (PySem.call (.builtin "sorted") [.ref d]) Q G C m := fun h c tk => by
  obtain ⟨hs, hd⟩ := rdD c.ok (.inl hl)
  obtain ⟨ep, hat⟩ := hd.dictAt
  refine kdu_sorted (s := St D h tk) (kdl_dict (knd := PySem.strKind Pw D.w) (kvs := kvs) (ep := ep) hs) hh c.fr (c.newN h.objs.size) hat (by rw [sizeLine_eq]; lia) fun B h' tk' vs F' N' l1 hlen hv => ?_
  have hS : StrsAre vs (kvs.map (·.1)) := strs_of (by simpa using hlen) fun j v e => by
    obtain ⟨k, x, hx, hk⟩ := hv j v e
    obtain ⟨t, rfl⟩ := strKind_str.mp hk
    exact ⟨k, t, by simp [hx], rfl⟩
  have hB : h'.get? B = some (seqObj "list" vs.toArray 0) := (N' _ List.mem_cons_self).1
  have nB : h.get? B = none := by
    cases e : h.get? B with
    | none => rfl
    | some o =>
      exfalso
      have z := N' _ List.mem_cons_self
      cases hb : D.b.get? B with
      | some o' => have := z.2.2; rw [hb] at this; cases this
      | none =>
        by_cases n : B = F.L
        · exact z.2.1 n
        · have := l1 (B, o) (restL_mem e hb n (Nat.ne_of_lt (Heap.lt_size e)))
          exact Nat.lt_irrefl _ this
  have N'' : News D.b F.L h' ((B, seqObj "list" vs.toArray 0) :: restL D.b h F.L B) := fun p hp => by
    rcases List.mem_cons.mp hp with rfl | hp
    · exact N' _ List.mem_cons_self
    · have r := restL_mem' hp
      exact N' _ (List.mem_cons_of_mem _ (restL_mem r.1 r.2.2.1 r.2.1 (Nat.ne_of_lt (Heap.lt_size r.1))))
  have c1 := c.newGN F' N'' nB
  refine wpAny_call_entry (s := St D h' tk') slot_list_sort ⟨_, hB, rfl⟩ entry_list_sort ?_ (args_list_sort _)
  refine list_sort_treeK strKind_oneLt hB hS.keysOf (fun v₁ v₂ rest e => keyKind_strs (by rw [← e]; exact hS)) (by rw [hlen]; exact hz) fun st' hp hso => ?_
  obtain ⟨ss', h1, h2, h3⟩ := sorted_out_str hS hp hso
  obtain ⟨e, he⟩ := sortedHeap_at (out := (arrOf st').map (·.2)) hB
  have ga := c.ok.fresh_g nB
  have hk : ∀ x q, x ≠ B → h'.get? x = some q → (sortedHeap h' B vs ((arrOf st').map (·.2))).get? x = some q := fun x q n e => (sortedHeap_old n (Heap.lt_size e)).trans e
  obtain ⟨hk0, _⟩ := c.keepN F' N'' nB
  have nL : B ≠ F.L := fun z => by obtain ⟨_, _, _, e, _⟩ := c.ns; rw [← z, nB] at e; cases e
  have c2 : Cx D F (up G B (seqObj "list" ((arrOf st').map (·.2)) e)) C m (sortedHeap h' B vs ((arrOf st').map (·.2))) := by
    obtain ⟨oL, es, ep, eL, r⟩ := c1.ns
    exact
    { ok := { x := c1.ok.x, t := c1.ok.t, z := c1.ok.z, gb := fun x q e => GLe.up ga x q (c.ok.gb x q e)
              g := fun x q e => by
                by_cases z : x = B
                · subst z; rw [up_self] at e; cases e; exact he
                · rw [up_ne z] at e; exact hk x q z (c1.ok.g x q (by rw [up_ne z]; exact e))
              c := fun x q e => hk x q (fun z => by rw [z, c.ok.fresh_c nB] at e; cases e) (c1.ok.c x q e)
              gc := fun x q e => by rw [up_ne (fun z => by rw [z, c.ok.fresh_c nB] at e; cases e)]; exact c.ok.gc x q e }
      ext := { gs := fun x q n e => by
                 have := c1.ext.gs x q n e
                 by_cases z : x = B
                 · subst z; obtain ⟨o', e'⟩ := c.ext.alive c.ok n e; rw [nB] at e'; cases e'
                 · rw [up_ne z] at this ⊢; exact this
               cs := c1.ext.cs
               keep := fun x q n e hc => hk x q (fun z => by subst z; obtain ⟨o', e'⟩ := c.ext.alive c.ok n e; rw [nB] at e'; cases e') (c1.ext.keep x q n e hc) }
      ns := ⟨oL, es, ep, hk _ _ (Ne.symm nL) eL, r⟩, lg := by rw [up_ne (Ne.symm nL)]; exact c.lg
      lc := c.lc, lg0 := c.lg0, lc0 := c.lc0, lb := c.lb, ok0 := c.ok0 }
  exact ⟨_, rfl, _, tk', rfl, _, C, m, c2, q B _ _ ss' (.up ga) ⟨_, up_self, rfl, e, rfl⟩ h1 h2 h3⟩
/-! range -/
inductive RgA (M : PM) (a : Addr) (n : Int) : Prop
  | mk : ∀ t u v, (M a = some { cls := .type "range", dict := none, data := .fields #[.int 0 t, .int n u, .int 1 v], slots := #[] }) → RgA M a n
theorem RgA.up {n : Int} (g : GLe G G') (k : RgA G a n) : RgA G' a n := let ⟨t, u, v, e⟩ := k; ⟨t, u, v, g _ _ e⟩
theorem B.range {n : Int} {t : Tok} {Q : Value → PM → PM → LM → Prop} (q : ∀ a G', GLe G G' → RgA G' a n → Q (.ref a) G' C m) : B D F A (PySem.call (.type "range") [.int n t]) Q G C m := fun h c tk => by
  refine call_range_1 (s := St D h tk) ?_
  exact ⟨_, _, rfl, _, C, m, c.pushG (get_size h) (Heap.get?_push_size _ rfl) (fun x q e => Heap.get?_push_of_some _ e), q _ _ (.up (c.ok.fresh_g (get_size h))) ⟨_, _, _, up_self⟩⟩
theorem iter_range {x : Str} {px : Pos} {n : Nat} (hh : A.handled = none) (hn : n < 1000) (hl : RgA G a n) : IterV D A (.Name x px) (.ref a) n (fun i v => ∃ t, v = .int i t) G := fun h hg Q E tk q => by
  obtain ⟨t, u, v, e⟩ := hl
  have sz : Builtin.Range.rangeSize 0 n 1 = n := by unfold Builtin.Range.rangeSize; simp; lia
  have sm : Builtin.Range.small 0 n 1 = true := by
    have : ∀ k : Int, 0 ≤ k → k < 1000 → Builtin.Range.rangeFitsLong k = true := fun k h0 h1 => by unfold Builtin.Range.rangeFitsLong; simp; lia
    unfold Builtin.Range.small
    simp only [sz, this 0 (by decide) (by decide), this 1 (by decide) (by decide), this n (by exact Int.natCast_nonneg _) (by lia), Bool.true_and, Bool.and_true]
    rw [if_pos (by decide), show (n : Int) + (1 - 1) = n by lia, this n (by exact Int.natCast_nonneg _) (by lia), Bool.or_true]
  refine wpAny_pyIter_range (s := St D h tk) (hg _ _ e) sm ?_
  have W0 := Walks.range (prog := Pw) (w := D.w) hh h.objs.size 0 1 n
  have W : Walks Pw D.w A h.objs.size [h.objs.size] [h.objs.size] n (fun i v => ∃ t, v = .int i t) (fun i h' => IsRangeIter h' h.objs.size (0 + (i : Nat) * 1) ((n : Int) - (i : Nat)) 1) :=
    { sub := W0.sub, frame := W0.frame, done := W0.done, self := W0.self, item := fun i s Q E hi st hQ => W0.item i s Q E hi st fun v h' tk hP => hQ v h' tk (by obtain ⟨t, rfl⟩ := hP; exact ⟨t, by rw [Int.zero_add, Int.mul_one]⟩) }
  refine q _ _ _ _ _ _ (KTurns.ofWalks W fun i v s Q E st q => wpAny_pure (a := ()) q) (fun i h st b hb => ?_) W.self ?_ (fun b o e => Heap.get?_push_of_some _ e) (fun b hb => ?_) fun b hb => ?_
  · simp at hb; subst hb; exact ⟨_, st⟩
  · show (h.push _).get? h.objs.size = _
    rw [sz]; simpa using Heap.get?_push_size h (o := _) rfl
  · simp at hb; subst hb; exact get_size h
  · exact .inl hb
/-! texts -/
theorem B.addStr {x y : Str} {t u : Tok} {Q : Value → PM → PM → LM → Prop} (hz : x.length + y.length ≤ sizeLine) (q : ∀ t, Q (.str (x ++ y) t) G C m) : B D F A (binaryOp .Add (.str x t) (.str y u)) Q G C m :=
  B.val (fun v => ∃ t, v = .str (x ++ y) t) (fun h c Q E tk j => PyProof.Rows.add_str (fun t' tk' => j _ _ ⟨t', rfl⟩) hz) fun v ⟨t, e⟩ => e ▸ q t
theorem B.strInt {i : Int} {t : Tok} {Q : Value → PM → PM → LM → Prop} (hi : i.natAbs.log2 < 1920) (q : ∀ t, Q (.str (Str.ofString (toString i)) t) G C m) : B D F A (PySem.call (.type "str") [.int i t]) Q G C m :=
  B.val (fun v => ∃ t, v = .str (Str.ofString (toString i)) t) (fun h c Q E tk j => PySem.P.str_of_int hi (j _ _ ⟨_, rfl⟩)) fun v ⟨t, e⟩ => e ▸ q t
theorem B.boolAnd {e₁ e₂ : PySem.Expr} {rest : List PySem.Expr} {Q : Value → PM → PM → LM → Prop} (x : B D F A (eval e₁ env) (fun v => B D F A (truthy v) fun b G C m => if b then B D F A (eval (.BoolOp .And (e₂ :: rest) pos) env) Q G C m else Q v G C m) G C m) : B D F A (eval (.BoolOp .And (e₁ :: e₂ :: rest) pos) env) Q G C m :=
  fun hh c tk => BoolOp_and (wpAny_mono (x hh c tk) (fun v _ ⟨h', tk', e, G', C', m', c', q⟩ => by
    subst e
    refine wpAny_mono (q h' c' tk') (fun b _ ⟨h', tk', e, G', C', m', c', q⟩ => ?_) fun _ _ z => z
    subst e
    cases b
    · exact ⟨h', tk', rfl, G', C', m', c', q⟩
    · exact q h' c' tk') fun _ _ z => z)
theorem B.boolOne {op : PySem.BoolOp} {e : PySem.Expr} {Q : Value → PM → PM → LM → Prop} (x : B D F A (eval e env) Q G C m) : B D F A (eval (.BoolOp op [e] pos) env) Q G C m := x
theorem B.notOf {v : Value} {Q : Value → PM → PM → LM → Prop} (x : B D F A (truthy v) (Kf (fun b => .bool (!b)) Q) G C m) : B D F A (unaryOp .Not v) Q G C m := B.ofMap (f := fun b => .bool (!b)) (fun _ _ _ h => not_of h) x
/-! targets in a row -/
theorem B.asgTuple {elts : List PySem.Expr} {k : Nat} {t : Addr} {Q : Unit → PM → PM → LM → Prop} (hh : A.handled = none) (ht : TpA G t vs) (hn : (assignEach elts env).length = vs.length) (hs : (assignEach elts env).findIdx? (·.1) = none)
    (q : B D F A (assignInOrder ((assignEach elts env).map (·.2)) vs) Q G C m) : B D F A (PySem.assign (.Tuple elts k pos) env (.ref t)) Q G C m := fun h c tk =>
  wpAny_assign_Tuple (s := St D h tk) hh (tpl c.ok ht) (by simpa using hn) hs fun h' hx => by
    have hk : ∀ a o, h.get? a = some o → h'.get? a = some o := fun a o e => hx a o (Nat.ne_of_lt (Heap.lt_size e)) e
    exact q h' (c.after (c.ok.grow hk) (.grow hk)) tk
theorem B.inOrder0 {Q : Unit → PM → PM → LM → Prop} (q : Q () G C m) : B D F A (assignInOrder [] []) Q G C m := B.val (fun _ => True) (fun h c Q E tk k => by
  show wpAny _ _ (Pure.pure ()) _ _ _
  exact wpAny_pure (k _ _ trivial)) fun _ _ => q
theorem B.inOrder {f : Value → Sem Unit} {fs : List (Value → Sem Unit)} {v : Value} {Q : Unit → PM → PM → LM → Prop} (q : B D F A (f v) (Kb D F A (fun _ => assignInOrder fs vs) Q) G C m) : B D F A (assignInOrder (f :: fs) (v :: vs)) Q G C m := fun h c tk => by
  first
  | exact B.bind q h c tk
  | (show wpAny _ _ (holding _ _ >>= _) _ _ _; exact B.bind (B.of0 (fun _ _ _ h => wpAny_holding h) q) h c tk)
theorem B.asgTupleS {elts : List PySem.Expr} {k : Nat} {tpos : Pos} {value : PySem.Expr} {Q : Flow → PM → PM → LM → Prop} (x : B D F A (eval value env) (Kb D F A (PySem.assign (.Tuple elts k tpos) env) (Kf (fun _ => .next) Q)) G C m)
    (hs : swapsWithSole [.Tuple elts k tpos] value pos.line env = Pure.pure false := by rfl) (hw : swappedStores [.Tuple elts k tpos] value env = Pure.pure none := by rfl) : B D F A (exec (.Assign [.Tuple elts k tpos] value pos) env) Q G C m :=
  fun hh c tk => Assign_Tuple (wpAny_mono (x hh c tk) (fun _ _ ⟨h', tk', e, G', C', m', c', q⟩ => by
    subst e
    exact wp_map (f := fun _ => Flow.next) (Q := Q) (q h' c' tk')) fun _ _ z => z) hs hw
@[reducible] def KTpW (D : Wd) (F : Fn) (A : Around) (n : Nat) (t : List Value → Sem Unit) (Q : Flow → PM → PM → LM → Prop) : Value → PM → PM → LM → Prop := fun v G C m => ∃ t' vs, v = .ref t' ∧ TpA G t' vs ∧ vs.length = n ∧ B D F A (t vs) (Kf (fun _ => .next) Q) G C m
theorem B.asgTupleW {elts : List PySem.Expr} {k : Nat} {tpos : Pos} {value : PySem.Expr} {names : List Str} {Q : Flow → PM → PM → LM → Prop} (hh : A.handled = none)
    (x : B D F A (eval value env) (KTpW D F A names.length (fun vs => assignInOrder (names.reverse.map fun n => bindName env n) vs.reverse) Q) G C m)
    (hs : swapsWithSole [.Tuple elts k tpos] value pos.line env = Pure.pure false := by rfl) (hw : swappedStores [.Tuple elts k tpos] value env = Pure.pure (some names) := by rfl) : B D F A (exec (.Assign [.Tuple elts k tpos] value pos) env) Q G C m :=
  fun h c tk => Assign_Tuple_swapped (wpAny_mono (x h c tk) (fun _ _ ⟨h', tk', e, G', C', m', c', q⟩ => by
    subst e
    obtain ⟨t, vs, rfl, ht, hl, q⟩ := q
    have e : names.length = vs.toArray.size := by simp [hl]
    rw [e]
    refine unpackItems_tuple (s := St D h' tk') hh (tpl c'.ok ht) fun h'' hx => ?_
    have hk : ∀ a o, h'.get? a = some o → h''.get? a = some o := fun a o e => hx a o (Nat.ne_of_lt (Heap.lt_size e)) e
    exact wp_map (f := fun _ => Flow.next) (Q := Q) (q h'' (c'.after (c'.ok.grow hk) (.grow hk)) tk')) fun _ _ z => z) hs hw
theorem B.bindName {x : Str} {v : Value} {Q : Unit → PM → PM → LM → Prop} (q : B D F A (storeName env x v) Q G C m) : B D F A (PySem.bindName env x v) Q G C m := B.of0 (fun _ _ _ h => bindName_ h) q
/-! calls, their arguments in a row -/
theorem B.withF {f : Addr} {e : PySem.Expr} {rest : List PySem.Expr} {Q : Value → PM → PM → LM → Prop} (hk : keepIn (K D.w.params) (.ref f) = true) (q : B D F A (spliced (backTo pos (starEach (e :: rest) env))) (Kb D F A (fun vs => PySem.call (.ref f) vs) Q) G C m)
    (he : starEach (e :: rest) env = (false, eval e env) :: starEach rest env := by rfl) (hp : (backTo pos (starEach rest env)).any (·.1) = false := by rfl) : B D F A (callWith pos (.ref f) [] (backTo pos (starEach (e :: rest) env)) []) Q G C m := B.withK hk q he hp
theorem B.withF0 {f : Addr} {Q : Value → PM → PM → LM → Prop} (hk : keepIn (K D.w.params) (.ref f) = true) (q : B D F A (PySem.call (.ref f) []) Q G C m) : B D F A (callWith pos (.ref f) [] (backTo pos (starEach [] env)) []) Q G C m := B.withK0 hk q
theorem B.withM {f : Addr} {x : Value} {e : PySem.Expr} {rest : List PySem.Expr} {Q : Value → PM → PM → LM → Prop} (hk : keepIn (K D.w.params) (.ref f) = true) (q : B D F A (spliced (backTo pos (starEach (e :: rest) env))) (Kb D F A (fun vs => PySem.call (.ref f) (x :: vs)) Q) G C m)
    (he : starEach (e :: rest) env = (false, eval e env) :: starEach rest env := by rfl) (hp : (backTo pos (starEach rest env)).any (·.1) = false := by rfl) : B D F A (callWith pos (.ref f) [x] (backTo pos (starEach (e :: rest) env)) []) Q G C m := B.withK hk q he hp
theorem B.withM0 {f : Addr} {x : Value} {Q : Value → PM → PM → LM → Prop} (hk : keepIn (K D.w.params) (.ref f) = true) (q : B D F A (PySem.call (.ref f) [x]) Q G C m) : B D F A (callWith pos (.ref f) [x] (backTo pos (starEach [] env)) []) Q G C m := B.withK0 hk q
theorem B.withBF {f : String} {e : PySem.Expr} {rest : List PySem.Expr} {Q : Value → PM → PM → LM → Prop} (q : B D F A (spliced (backTo pos (starEach (e :: rest) env))) (Kb D F A (fun vs => PySem.call (.builtin f) vs) Q) G C m)
    (he : starEach (e :: rest) env = (false, eval e env) :: starEach rest env := by rfl) (hp : (backTo pos (starEach rest env)).any (·.1) = false := by rfl) : B D F A (callWith pos (.builtin f) [] (backTo pos (starEach (e :: rest) env)) []) Q G C m := B.withB q he hp
theorem B.withBM {f : String} {x : Value} {e : PySem.Expr} {rest : List PySem.Expr} {Q : Value → PM → PM → LM → Prop} (q : B D F A (spliced (backTo pos (starEach (e :: rest) env))) (Kb D F A (fun vs => PySem.call (.builtin f) (x :: vs)) Q) G C m)
    (he : starEach (e :: rest) env = (false, eval e env) :: starEach rest env := by rfl) (hp : (backTo pos (starEach rest env)).any (·.1) = false := by rfl) : B D F A (callWith pos (.builtin f) [x] (backTo pos (starEach (e :: rest) env)) []) Q G C m := B.withB q he hp
theorem B.eT {s t : PySem.Expr} {Q : Value → PM → PM → LM → Prop} (h : B D F A (eval s env) Q G C m) : B D F A (eval (bif true then s else t) env) Q G C m := h
theorem B.eF {s t : PySem.Expr} {Q : Value → PM → PM → LM → Prop} (h : B D F A (eval t env) Q G C m) : B D F A (eval (bif false then s else t) env) Q G C m := h
theorem B.sT {s t : List Stmt} {Q : Flow → PM → PM → LM → Prop} (h : B D F A (execs s env) Q G C m) : B D F A (execs (bif true then s else t) env) Q G C m := h
theorem B.sF {s t : List Stmt} {Q : Flow → PM → PM → LM → Prop} (h : B D F A (execs t env) Q G C m) : B D F A (execs (bif false then s else t) env) Q G C m := h
theorem condT {X Y : PM → PM → LM → Prop} (h : X G C m) : (bif true then X else Y) G C m := h
theorem condF {X Y : PM → PM → LM → Prop} (h : Y G C m) : (bif false then X else Y) G C m := h
theorem condNT {X Y : PM → PM → LM → Prop} (h : Y G C m) : (bif !true then X else Y) G C m := h
theorem condNF {X Y : PM → PM → LM → Prop} (h : X G C m) : (bif !false then X else Y) G C m := h
theorem iteT {X Y : Prop} (h : X) : (if true = true then X else Y) := h
theorem iteF {X Y : Prop} (h : Y) : (if false = true then X else Y) := h
theorem B.callS {f : Value} {args : List Value} {P : Value → PM → Prop} {Q : Value → PM → PM → LM → Prop} (k : CodeOk D A f args G C (fun r G' C' => G' = G ∧ P r C')) (q : ∀ r C', P r C' → Q r G C' m) : B D F A (PySem.call f args) Q G C m :=
  B.callOk k.call fun r G' C' _ ⟨e, p⟩ => e ▸ q r C' p
theorem B.callC {f : Value} {args : List Value} {P : Value → PM → Prop} {Q : Value → PM → PM → LM → Prop} (k : CodeOk D A f args G C (fun r G' C' => C' = C ∧ P r G')) (q : ∀ r G', GLe G G' → P r G' → Q r G' C m) : B D F A (PySem.call f args) Q G C m :=
  B.callOk k.call fun r G' C' g ⟨e, p⟩ => e ▸ q r G' g p
theorem B.callX {f : Value} {args : List Value} {R : Addr → PM → Prop} {Q : Value → PM → PM → LM → Prop} (k : CodeOk D A f args G C (fun r G' C' => C' = C ∧ ∃ x, r = .ref x ∧ R x G')) (q : ∀ x G', GLe G G' → R x G' → Q (.ref x) G' C m) : B D F A (PySem.call f args) Q G C m :=
  B.callOk k.call fun r G' C' g ⟨e, x, e', p⟩ => e ▸ e' ▸ q x G' g p
theorem B.callI {f : Value} {args : List Value} {R : Int → Tok → PM → Prop} {Q : Value → PM → PM → LM → Prop} (k : CodeOk D A f args G C (fun r G' C' => G' = G ∧ Ex2 fun i t => r = .int i t ∧ R i t C')) (q : ∀ i t C', R i t C' → Q (.int i t) G C' m) : B D F A (PySem.call f args) Q G C m :=
  B.callOk k.call fun r G' C' _ ⟨e, i, t, e', p⟩ => e ▸ e' ▸ q i t C' p
theorem B.callN {f : Value} {args : List Value} {s : Str} {R : PM → Prop} {Q : Value → PM → PM → LM → Prop} (k : CodeOk D A f args G C (fun r G' C' => G' = G ∧ (∃ t, r = .str s t) ∧ R C')) (q : ∀ t C', R C' → Q (.str s t) G C' m) : B D F A (PySem.call f args) Q G C m :=
  B.callOk k.call fun r G' C' _ ⟨e, ⟨t, e'⟩, p⟩ => e ▸ e' ▸ q t C' p
end
end Mine
end
section
open PySem PySem.W PyProof.Rows PySem.Calls
set_option maxRecDepth 100000
set_option maxHeartbeats 4000000
namespace Mine
theorem up_up {C : PM} {x : Addr} {o₁ o₂ : Obj} : up (up C x o₁) x o₂ = up C x o₂ := by
  funext a; unfold up; split <;> rfl
theorem rm_up {C : PM} {x dx : Addr} {o₁ o₂ o₃ : Obj} (h1 : C x = none) (h2 : C dx = none) : rm (rm (up (up (up C dx o₁) x o₂) dx o₃) dx) x = C := by
  funext a
  unfold rm up
  by_cases e : a = x
  · subst e; simp [h1]
  · by_cases e' : a = dx
    · subst e'; simp [e, h2]
    · simp [e, e']
theorem look35 (P : Params) : (K P).lookup 35 = some (k35 P) := by kernel_rfl
theorem look77 (P : Params) : (K P).lookup 77 = some (k77 P) := by kernel_rfl
theorem look119 (P : Params) : (K P).lookup 119 = some (k119 P) := by kernel_rfl
theorem look159 (P : Params) : (K P).lookup 159 = some (k159 P) := by kernel_rfl
theorem look201 (P : Params) : (K P).lookup 201 = some (k201 P) := by kernel_rfl
theorem look239 (P : Params) : (K P).lookup 239 = some (k239 P) := by kernel_rfl
theorem look260 (P : Params) : (K P).lookup 260 = some (k260 P) := by kernel_rfl
theorem look340 (P : Params) : (K P).lookup 340 = some (k340 P) := by kernel_rfl
theorem look380 (P : Params) : (K P).lookup 380 = some (k380 P) := by kernel_rfl
theorem look401 (P : Params) : (K P).lookup 401 = some (k401 P) := by kernel_rfl
theorem look539 (P : Params) : (K P).lookup 539 = some (k539 P) := by kernel_rfl
section
variable {D : Wd} {A : Around} {F : Fn} {G C : PM} {m : LM}
theorem mk_Var (R : Room A 2) (v0 : Value) : CodeOk D A (.ref 59) [v0] G C (fun r G' C' => C' = C ∧ ∃ x, r = .ref x ∧ InA G' x 59 [(Str.ofString "name", v0)]) := by
  refine codeOk_cls (fI := 35) (by kernel_rfl) (by kernel_rfl) (by kernel_rfl) fun x dx gx cx gd cd ne => ?_
  refine codeOk_def (binds := (Str.ofString "self", .ref x) :: [(Str.ofString "name", v0)]) (look35 _) (by kernel_rfl) (by have := R.d; show A.depth + 1 < 1000; lia) (fun s X => BindsTo.of_eq rfl) (locs rfl) ?_ (by decide)
  intro F hG hC env₀ A₀ m₀ Q₀ q₀
  refine B.cons ?_
  refine B.assignAttr ?_
  refine B.name (v := v0) rfl ?_
  refine B.name (v := .ref x) rfl ?_
  refine B.setAttr (c := 59) (dx := dx) (es := []) (n := 0) (fs := []) up_self (by rw [up_ne (Ne.symm ne)]; exact up_self) .nil (by kernel_rfl) (by kernel_rfl) (by kernel_rfl) (by kernel_rfl) rfl (by simp) (fun es1 n1 fl1 => ?_)
  refine Then.next ?_
  refine B.nil ?_
  refine q₀.at ?_
  exact ⟨rfl, es1, n1, (by rw [up_ne ne]; exact up_self), up_self, gx, gd, _, fl1, fun G'' g i => ⟨by exact rm_up cx cd, x, rfl, i⟩⟩
theorem mk_Lit (R : Room A 2) (v0 v1 : Value) : CodeOk D A (.ref 101) [v0, v1] G C (fun r G' C' => C' = C ∧ ∃ x, r = .ref x ∧ InA G' x 101 [(Str.ofString "kind", v0), (Str.ofString "value", v1)]) := by
  refine codeOk_cls (fI := 77) (by kernel_rfl) (by kernel_rfl) (by kernel_rfl) fun x dx gx cx gd cd ne => ?_
  refine codeOk_def (binds := (Str.ofString "self", .ref x) :: [(Str.ofString "kind", v0), (Str.ofString "value", v1)]) (look77 _) (by kernel_rfl) (by have := R.d; show A.depth + 1 < 1000; lia) (fun s X => BindsTo.of_eq rfl) (locs rfl) ?_ (by decide)
  intro F hG hC env₀ A₀ m₀ Q₀ q₀
  refine B.cons ?_
  refine B.assignAttr ?_
  refine B.name (v := v0) rfl ?_
  refine B.name (v := .ref x) rfl ?_
  refine B.setAttr (c := 101) (dx := dx) (es := []) (n := 0) (fs := []) up_self (by rw [up_ne (Ne.symm ne)]; exact up_self) .nil (by kernel_rfl) (by kernel_rfl) (by kernel_rfl) (by kernel_rfl) rfl (by simp) (fun es1 n1 fl1 => ?_)
  refine Then.next ?_
  refine B.cons ?_
  refine B.assignAttr ?_
  refine B.name (v := v1) rfl ?_
  refine B.name (v := .ref x) rfl ?_
  refine B.setAttr (c := 101) (dx := dx) (es := es1) (n := n1) (fs := [(Str.ofString "kind", v0)]) (by rw [up_ne ne]; exact up_self) up_self fl1 (by kernel_rfl) (by kernel_rfl) (by kernel_rfl) (by kernel_rfl) rfl (by simp) (fun es2 n2 fl2 => ?_)
  refine Then.next ?_
  refine B.nil ?_
  refine q₀.at ?_
  exact ⟨rfl, es2, n2, (by rw [up_ne ne]; rw [up_ne ne]; exact up_self), up_self, gx, gd, _, fl2, fun G'' g i => ⟨by simp only [up_up]; exact rm_up cx cd, x, rfl, i⟩⟩
theorem mk_App (R : Room A 2) (v0 v1 : Value) : CodeOk D A (.ref 141) [v0, v1] G C (fun r G' C' => C' = C ∧ ∃ x, r = .ref x ∧ InA G' x 141 [(Str.ofString "fun", v0), (Str.ofString "args", v1)]) := by
  refine codeOk_cls (fI := 119) (by kernel_rfl) (by kernel_rfl) (by kernel_rfl) fun x dx gx cx gd cd ne => ?_
  refine codeOk_def (binds := (Str.ofString "self", .ref x) :: [(Str.ofString "fun", v0), (Str.ofString "args", v1)]) (look119 _) (by kernel_rfl) (by have := R.d; show A.depth + 1 < 1000; lia) (fun s X => BindsTo.of_eq rfl) (locs rfl) ?_ (by decide)
  intro F hG hC env₀ A₀ m₀ Q₀ q₀
  refine B.cons ?_
  refine B.assignAttr ?_
  refine B.name (v := v0) rfl ?_
  refine B.name (v := .ref x) rfl ?_
  refine B.setAttr (c := 141) (dx := dx) (es := []) (n := 0) (fs := []) up_self (by rw [up_ne (Ne.symm ne)]; exact up_self) .nil (by kernel_rfl) (by kernel_rfl) (by kernel_rfl) (by kernel_rfl) rfl (by simp) (fun es1 n1 fl1 => ?_)
  refine Then.next ?_
  refine B.cons ?_
  refine B.assignAttr ?_
  refine B.name (v := v1) rfl ?_
  refine B.name (v := .ref x) rfl ?_
  refine B.setAttr (c := 141) (dx := dx) (es := es1) (n := n1) (fs := [(Str.ofString "fun", v0)]) (by rw [up_ne ne]; exact up_self) up_self fl1 (by kernel_rfl) (by kernel_rfl) (by kernel_rfl) (by kernel_rfl) rfl (by simp) (fun es2 n2 fl2 => ?_)
  refine Then.next ?_
  refine B.nil ?_
  refine q₀.at ?_
  exact ⟨rfl, es2, n2, (by rw [up_ne ne]; rw [up_ne ne]; exact up_self), up_self, gx, gd, _, fl2, fun G'' g i => ⟨by simp only [up_up]; exact rm_up cx cd, x, rfl, i⟩⟩
theorem mk_Lam (R : Room A 2) (v0 v1 : Value) : CodeOk D A (.ref 183) [v0, v1] G C (fun r G' C' => C' = C ∧ ∃ x, r = .ref x ∧ InA G' x 183 [(Str.ofString "params", v0), (Str.ofString "body", v1)]) := by
  refine codeOk_cls (fI := 159) (by kernel_rfl) (by kernel_rfl) (by kernel_rfl) fun x dx gx cx gd cd ne => ?_
  refine codeOk_def (binds := (Str.ofString "self", .ref x) :: [(Str.ofString "params", v0), (Str.ofString "body", v1)]) (look159 _) (by kernel_rfl) (by have := R.d; show A.depth + 1 < 1000; lia) (fun s X => BindsTo.of_eq rfl) (locs rfl) ?_ (by decide)
  intro F hG hC env₀ A₀ m₀ Q₀ q₀
  refine B.cons ?_
  refine B.assignAttr ?_
  refine B.name (v := v0) rfl ?_
  refine B.name (v := .ref x) rfl ?_
  refine B.setAttr (c := 183) (dx := dx) (es := []) (n := 0) (fs := []) up_self (by rw [up_ne (Ne.symm ne)]; exact up_self) .nil (by kernel_rfl) (by kernel_rfl) (by kernel_rfl) (by kernel_rfl) rfl (by simp) (fun es1 n1 fl1 => ?_)
  refine Then.next ?_
  refine B.cons ?_
  refine B.assignAttr ?_
  refine B.name (v := v1) rfl ?_
  refine B.name (v := .ref x) rfl ?_
  refine B.setAttr (c := 183) (dx := dx) (es := es1) (n := n1) (fs := [(Str.ofString "params", v0)]) (by rw [up_ne ne]; exact up_self) up_self fl1 (by kernel_rfl) (by kernel_rfl) (by kernel_rfl) (by kernel_rfl) rfl (by simp) (fun es2 n2 fl2 => ?_)
  refine Then.next ?_
  refine B.nil ?_
  refine q₀.at ?_
  exact ⟨rfl, es2, n2, (by rw [up_ne ne]; rw [up_ne ne]; exact up_self), up_self, gx, gd, _, fl2, fun G'' g i => ⟨by simp only [up_up]; exact rm_up cx cd, x, rfl, i⟩⟩
theorem mk_Let (R : Room A 2) (v0 v1 v2 : Value) : CodeOk D A (.ref 221) [v0, v1, v2] G C (fun r G' C' => C' = C ∧ ∃ x, r = .ref x ∧ InA G' x 221 [(Str.ofString "binds", v0), (Str.ofString "body", v1), (Str.ofString "is_rec", v2)]) := by
  refine codeOk_cls (fI := 201) (by kernel_rfl) (by kernel_rfl) (by kernel_rfl) fun x dx gx cx gd cd ne => ?_
  refine codeOk_def (binds := (Str.ofString "self", .ref x) :: [(Str.ofString "binds", v0), (Str.ofString "body", v1), (Str.ofString "is_rec", v2)]) (look201 _) (by kernel_rfl) (by have := R.d; show A.depth + 1 < 1000; lia) (fun s X => BindsTo.of_eq rfl) (locs rfl) ?_ (by decide)
  intro F hG hC env₀ A₀ m₀ Q₀ q₀
  refine B.cons ?_
  refine B.assignAttr ?_
  refine B.name (v := v0) rfl ?_
  refine B.name (v := .ref x) rfl ?_
  refine B.setAttr (c := 221) (dx := dx) (es := []) (n := 0) (fs := []) up_self (by rw [up_ne (Ne.symm ne)]; exact up_self) .nil (by kernel_rfl) (by kernel_rfl) (by kernel_rfl) (by kernel_rfl) rfl (by simp) (fun es1 n1 fl1 => ?_)
  refine Then.next ?_
  refine B.cons ?_
  refine B.assignAttr ?_
  refine B.name (v := v1) rfl ?_
  refine B.name (v := .ref x) rfl ?_
  refine B.setAttr (c := 221) (dx := dx) (es := es1) (n := n1) (fs := [(Str.ofString "binds", v0)]) (by rw [up_ne ne]; exact up_self) up_self fl1 (by kernel_rfl) (by kernel_rfl) (by kernel_rfl) (by kernel_rfl) rfl (by simp) (fun es2 n2 fl2 => ?_)
  refine Then.next ?_
  refine B.cons ?_
  refine B.assignAttr ?_
  refine B.name (v := v2) rfl ?_
  refine B.name (v := .ref x) rfl ?_
  refine B.setAttr (c := 221) (dx := dx) (es := es2) (n := n2) (fs := [(Str.ofString "binds", v0), (Str.ofString "body", v1)]) (by rw [up_ne ne]; rw [up_ne ne]; exact up_self) up_self fl2 (by kernel_rfl) (by kernel_rfl) (by kernel_rfl) (by kernel_rfl) rfl (by simp) (fun es3 n3 fl3 => ?_)
  refine Then.next ?_
  refine B.nil ?_
  refine q₀.at ?_
  exact ⟨rfl, es3, n3, (by rw [up_ne ne]; rw [up_ne ne]; rw [up_ne ne]; exact up_self), up_self, gx, gd, _, fl3, fun G'' g i => ⟨by simp only [up_up]; exact rm_up cx cd, x, rfl, i⟩⟩
theorem mk_Alt (R : Room A 2) (v0 v1 v2 : Value) : CodeOk D A (.ref 242) [v0, v1, v2] G C (fun r G' C' => C' = C ∧ ∃ x, r = .ref x ∧ InA G' x 242 [(Str.ofString "key", v0), (Str.ofString "names", v1), (Str.ofString "body", v2)]) := by
  refine codeOk_cls (fI := 239) (by kernel_rfl) (by kernel_rfl) (by kernel_rfl) fun x dx gx cx gd cd ne => ?_
  refine codeOk_def (binds := (Str.ofString "self", .ref x) :: [(Str.ofString "key", v0), (Str.ofString "names", v1), (Str.ofString "body", v2)]) (look239 _) (by kernel_rfl) (by have := R.d; show A.depth + 1 < 1000; lia) (fun s X => BindsTo.of_eq rfl) (locs rfl) ?_ (by decide)
  intro F hG hC env₀ A₀ m₀ Q₀ q₀
  refine B.cons ?_
  refine B.assignAttr ?_
  refine B.name (v := v0) rfl ?_
  refine B.name (v := .ref x) rfl ?_
  refine B.setAttr (c := 242) (dx := dx) (es := []) (n := 0) (fs := []) up_self (by rw [up_ne (Ne.symm ne)]; exact up_self) .nil (by kernel_rfl) (by kernel_rfl) (by kernel_rfl) (by kernel_rfl) rfl (by simp) (fun es1 n1 fl1 => ?_)
  refine Then.next ?_
  refine B.cons ?_
  refine B.assignAttr ?_
  refine B.name (v := v1) rfl ?_
  refine B.name (v := .ref x) rfl ?_
  refine B.setAttr (c := 242) (dx := dx) (es := es1) (n := n1) (fs := [(Str.ofString "key", v0)]) (by rw [up_ne ne]; exact up_self) up_self fl1 (by kernel_rfl) (by kernel_rfl) (by kernel_rfl) (by kernel_rfl) rfl (by simp) (fun es2 n2 fl2 => ?_)
  refine Then.next ?_
  refine B.cons ?_
  refine B.assignAttr ?_
  refine B.name (v := v2) rfl ?_
  refine B.name (v := .ref x) rfl ?_
  refine B.setAttr (c := 242) (dx := dx) (es := es2) (n := n2) (fs := [(Str.ofString "key", v0), (Str.ofString "names", v1)]) (by rw [up_ne ne]; rw [up_ne ne]; exact up_self) up_self fl2 (by kernel_rfl) (by kernel_rfl) (by kernel_rfl) (by kernel_rfl) rfl (by simp) (fun es3 n3 fl3 => ?_)
  refine Then.next ?_
  refine B.nil ?_
  refine q₀.at ?_
  exact ⟨rfl, es3, n3, (by rw [up_ne ne]; rw [up_ne ne]; rw [up_ne ne]; exact up_self), up_self, gx, gd, _, fl3, fun G'' g i => ⟨by simp only [up_up]; exact rm_up cx cd, x, rfl, i⟩⟩
theorem mk_Case (R : Room A 2) (v0 v1 v2 v3 : Value) : CodeOk D A (.ref 282) [v0, v1, v2, v3] G C (fun r G' C' => C' = C ∧ ∃ x, r = .ref x ∧ InA G' x 282 [(Str.ofString "value", v0), (Str.ofString "name", v1), (Str.ofString "alts", v2), (Str.ofString "other", v3)]) := by
  refine codeOk_cls (fI := 260) (by kernel_rfl) (by kernel_rfl) (by kernel_rfl) fun x dx gx cx gd cd ne => ?_
  refine codeOk_def (binds := (Str.ofString "self", .ref x) :: [(Str.ofString "value", v0), (Str.ofString "name", v1), (Str.ofString "alts", v2), (Str.ofString "other", v3)]) (look260 _) (by kernel_rfl) (by have := R.d; show A.depth + 1 < 1000; lia) (fun s X => BindsTo.of_eq rfl) (locs rfl) ?_ (by decide)
  intro F hG hC env₀ A₀ m₀ Q₀ q₀
  refine B.cons ?_
  refine B.assignAttr ?_
  refine B.name (v := v0) rfl ?_
  refine B.name (v := .ref x) rfl ?_
  refine B.setAttr (c := 282) (dx := dx) (es := []) (n := 0) (fs := []) up_self (by rw [up_ne (Ne.symm ne)]; exact up_self) .nil (by kernel_rfl) (by kernel_rfl) (by kernel_rfl) (by kernel_rfl) rfl (by simp) (fun es1 n1 fl1 => ?_)
  refine Then.next ?_
  refine B.cons ?_
  refine B.assignAttr ?_
  refine B.name (v := v1) rfl ?_
  refine B.name (v := .ref x) rfl ?_
  refine B.setAttr (c := 282) (dx := dx) (es := es1) (n := n1) (fs := [(Str.ofString "value", v0)]) (by rw [up_ne ne]; exact up_self) up_self fl1 (by kernel_rfl) (by kernel_rfl) (by kernel_rfl) (by kernel_rfl) rfl (by simp) (fun es2 n2 fl2 => ?_)
  refine Then.next ?_
  refine B.cons ?_
  refine B.assignAttr ?_
  refine B.name (v := v2) rfl ?_
  refine B.name (v := .ref x) rfl ?_
  refine B.setAttr (c := 282) (dx := dx) (es := es2) (n := n2) (fs := [(Str.ofString "value", v0), (Str.ofString "name", v1)]) (by rw [up_ne ne]; rw [up_ne ne]; exact up_self) up_self fl2 (by kernel_rfl) (by kernel_rfl) (by kernel_rfl) (by kernel_rfl) rfl (by simp) (fun es3 n3 fl3 => ?_)
  refine Then.next ?_
  refine B.cons ?_
  refine B.assignAttr ?_
  refine B.name (v := v3) rfl ?_
  refine B.name (v := .ref x) rfl ?_
  refine B.setAttr (c := 282) (dx := dx) (es := es3) (n := n3) (fs := [(Str.ofString "value", v0), (Str.ofString "name", v1), (Str.ofString "alts", v2)]) (by rw [up_ne ne]; rw [up_ne ne]; rw [up_ne ne]; exact up_self) up_self fl3 (by kernel_rfl) (by kernel_rfl) (by kernel_rfl) (by kernel_rfl) rfl (by simp) (fun es4 n4 fl4 => ?_)
  refine Then.next ?_
  refine B.nil ?_
  refine q₀.at ?_
  exact ⟨rfl, es4, n4, (by rw [up_ne ne]; rw [up_ne ne]; rw [up_ne ne]; rw [up_ne ne]; exact up_self), up_self, gx, gd, _, fl4, fun G'' g i => ⟨by simp only [up_up]; exact rm_up cx cd, x, rfl, i⟩⟩
theorem mk_Prim (R : Room A 2) (v0 v1 : Value) : CodeOk D A (.ref 362) [v0, v1] G C (fun r G' C' => C' = C ∧ ∃ x, r = .ref x ∧ InA G' x 362 [(Str.ofString "op", v0), (Str.ofString "args", v1)]) := by
  refine codeOk_cls (fI := 340) (by kernel_rfl) (by kernel_rfl) (by kernel_rfl) fun x dx gx cx gd cd ne => ?_
  refine codeOk_def (binds := (Str.ofString "self", .ref x) :: [(Str.ofString "op", v0), (Str.ofString "args", v1)]) (look340 _) (by kernel_rfl) (by have := R.d; show A.depth + 1 < 1000; lia) (fun s X => BindsTo.of_eq rfl) (locs rfl) ?_ (by decide)
  intro F hG hC env₀ A₀ m₀ Q₀ q₀
  refine B.cons ?_
  refine B.assignAttr ?_
  refine B.name (v := v0) rfl ?_
  refine B.name (v := .ref x) rfl ?_
  refine B.setAttr (c := 362) (dx := dx) (es := []) (n := 0) (fs := []) up_self (by rw [up_ne (Ne.symm ne)]; exact up_self) .nil (by kernel_rfl) (by kernel_rfl) (by kernel_rfl) (by kernel_rfl) rfl (by simp) (fun es1 n1 fl1 => ?_)
  refine Then.next ?_
  refine B.cons ?_
  refine B.assignAttr ?_
  refine B.name (v := v1) rfl ?_
  refine B.name (v := .ref x) rfl ?_
  refine B.setAttr (c := 362) (dx := dx) (es := es1) (n := n1) (fs := [(Str.ofString "op", v0)]) (by rw [up_ne ne]; exact up_self) up_self fl1 (by kernel_rfl) (by kernel_rfl) (by kernel_rfl) (by kernel_rfl) rfl (by simp) (fun es2 n2 fl2 => ?_)
  refine Then.next ?_
  refine B.nil ?_
  refine q₀.at ?_
  exact ⟨rfl, es2, n2, (by rw [up_ne ne]; rw [up_ne ne]; exact up_self), up_self, gx, gd, _, fl2, fun G'' g i => ⟨by simp only [up_up]; exact rm_up cx cd, x, rfl, i⟩⟩
theorem mk_CoreProgram (R : Room A 2) (v0 v1 v2 : Value) : CodeOk D A (.ref 383) [v0, v1, v2] G C (fun r G' C' => C' = C ∧ ∃ x, r = .ref x ∧ InA G' x 383 [(Str.ofString "binds", v0), (Str.ofString "cons", v1), (Str.ofString "main", v2)]) := by
  refine codeOk_cls (fI := 380) (by kernel_rfl) (by kernel_rfl) (by kernel_rfl) fun x dx gx cx gd cd ne => ?_
  refine codeOk_def (binds := (Str.ofString "self", .ref x) :: [(Str.ofString "binds", v0), (Str.ofString "cons", v1), (Str.ofString "main", v2)]) (look380 _) (by kernel_rfl) (by have := R.d; show A.depth + 1 < 1000; lia) (fun s X => BindsTo.of_eq rfl) (locs rfl) ?_ (by decide)
  intro F hG hC env₀ A₀ m₀ Q₀ q₀
  refine B.cons ?_
  refine B.assignAttr ?_
  refine B.name (v := v0) rfl ?_
  refine B.name (v := .ref x) rfl ?_
  refine B.setAttr (c := 383) (dx := dx) (es := []) (n := 0) (fs := []) up_self (by rw [up_ne (Ne.symm ne)]; exact up_self) .nil (by kernel_rfl) (by kernel_rfl) (by kernel_rfl) (by kernel_rfl) rfl (by simp) (fun es1 n1 fl1 => ?_)
  refine Then.next ?_
  refine B.cons ?_
  refine B.assignAttr ?_
  refine B.name (v := v1) rfl ?_
  refine B.name (v := .ref x) rfl ?_
  refine B.setAttr (c := 383) (dx := dx) (es := es1) (n := n1) (fs := [(Str.ofString "binds", v0)]) (by rw [up_ne ne]; exact up_self) up_self fl1 (by kernel_rfl) (by kernel_rfl) (by kernel_rfl) (by kernel_rfl) rfl (by simp) (fun es2 n2 fl2 => ?_)
  refine Then.next ?_
  refine B.cons ?_
  refine B.assignAttr ?_
  refine B.name (v := v2) rfl ?_
  refine B.name (v := .ref x) rfl ?_
  refine B.setAttr (c := 383) (dx := dx) (es := es2) (n := n2) (fs := [(Str.ofString "binds", v0), (Str.ofString "cons", v1)]) (by rw [up_ne ne]; rw [up_ne ne]; exact up_self) up_self fl2 (by kernel_rfl) (by kernel_rfl) (by kernel_rfl) (by kernel_rfl) rfl (by simp) (fun es3 n3 fl3 => ?_)
  refine Then.next ?_
  refine B.nil ?_
  refine q₀.at ?_
  exact ⟨rfl, es3, n3, (by rw [up_ne ne]; rw [up_ne ne]; rw [up_ne ne]; exact up_self), up_self, gx, gd, _, fl3, fun G'' g i => ⟨by simp only [up_up]; exact rm_up cx cd, x, rfl, i⟩⟩
theorem mk_Signature (R : Room A 2) (v0 v1 v2 : Value) : CodeOk D A (.ref 411) [v0, v1, v2] G C (fun r G' C' => C' = C ∧ ∃ x, r = .ref x ∧ InA G' x 411 [(Str.ofString "flags", v0), (Str.ofString "free", v1), (Str.ofString "diverges", v2)]) := by
  refine codeOk_cls (fI := 401) (by kernel_rfl) (by kernel_rfl) (by kernel_rfl) fun x dx gx cx gd cd ne => ?_
  refine codeOk_def (binds := (Str.ofString "self", .ref x) :: [(Str.ofString "flags", v0), (Str.ofString "free", v1), (Str.ofString "diverges", v2)]) (look401 _) (by kernel_rfl) (by have := R.d; show A.depth + 1 < 1000; lia) (fun s X => BindsTo.of_eq rfl) (locs rfl) ?_ (by decide)
  intro F hG hC env₀ A₀ m₀ Q₀ q₀
  refine B.cons ?_
  refine B.assignAttr ?_
  refine B.name (v := v0) rfl ?_
  refine B.name (v := .ref x) rfl ?_
  refine B.setAttr (c := 411) (dx := dx) (es := []) (n := 0) (fs := []) up_self (by rw [up_ne (Ne.symm ne)]; exact up_self) .nil (by kernel_rfl) (by kernel_rfl) (by kernel_rfl) (by kernel_rfl) rfl (by simp) (fun es1 n1 fl1 => ?_)
  refine Then.next ?_
  refine B.cons ?_
  refine B.assignAttr ?_
  refine B.name (v := v1) rfl ?_
  refine B.name (v := .ref x) rfl ?_
  refine B.setAttr (c := 411) (dx := dx) (es := es1) (n := n1) (fs := [(Str.ofString "flags", v0)]) (by rw [up_ne ne]; exact up_self) up_self fl1 (by kernel_rfl) (by kernel_rfl) (by kernel_rfl) (by kernel_rfl) rfl (by simp) (fun es2 n2 fl2 => ?_)
  refine Then.next ?_
  refine B.cons ?_
  refine B.assignAttr ?_
  refine B.name (v := v2) rfl ?_
  refine B.name (v := .ref x) rfl ?_
  refine B.setAttr (c := 411) (dx := dx) (es := es2) (n := n2) (fs := [(Str.ofString "flags", v0), (Str.ofString "free", v1)]) (by rw [up_ne ne]; rw [up_ne ne]; exact up_self) up_self fl2 (by kernel_rfl) (by kernel_rfl) (by kernel_rfl) (by kernel_rfl) rfl (by simp) (fun es3 n3 fl3 => ?_)
  refine Then.next ?_
  refine B.nil ?_
  refine q₀.at ?_
  exact ⟨rfl, es3, n3, (by rw [up_ne ne]; rw [up_ne ne]; rw [up_ne ne]; exact up_self), up_self, gx, gd, _, fl3, fun G'' g i => ⟨by simp only [up_up]; exact rm_up cx cd, x, rfl, i⟩⟩
theorem mk_Forcer (R : Room A 2) (v0 : Value) : CodeOk D A (.ref 562) [v0] G C (fun r G' C' => C' = C ∧ ∃ x, r = .ref x ∧ InA G' x 562 [(Str.ofString "fresh", v0)]) := by
  refine codeOk_cls (fI := 539) (by kernel_rfl) (by kernel_rfl) (by kernel_rfl) fun x dx gx cx gd cd ne => ?_
  refine codeOk_def (binds := (Str.ofString "self", .ref x) :: [(Str.ofString "fresh", v0)]) (look539 _) (by kernel_rfl) (by have := R.d; show A.depth + 1 < 1000; lia) (fun s X => BindsTo.of_eq rfl) (locs rfl) ?_ (by decide)
  intro F hG hC env₀ A₀ m₀ Q₀ q₀
  refine B.cons ?_
  refine B.assignAttr ?_
  refine B.name (v := v0) rfl ?_
  refine B.name (v := .ref x) rfl ?_
  refine B.setAttr (c := 562) (dx := dx) (es := []) (n := 0) (fs := []) up_self (by rw [up_ne (Ne.symm ne)]; exact up_self) .nil (by kernel_rfl) (by kernel_rfl) (by kernel_rfl) (by kernel_rfl) rfl (by simp) (fun es1 n1 fl1 => ?_)
  refine Then.next ?_
  refine B.nil ?_
  refine q₀.at ?_
  exact ⟨rfl, es1, n1, (by rw [up_ne ne]; exact up_self), up_self, gx, gd, _, fl1, fun G'' g i => ⟨by exact rm_up cx cd, x, rfl, i⟩⟩
end
end Mine
end
section
open PySem PySem.W PyProof.Rows PySem.Calls
set_option maxRecDepth 100000
set_option maxHeartbeats 4000000
namespace Mine
theorem glb59 {P : Params} : nsIn (K P) mainGlobals (Str.ofString "Var") = some (some (.ref 59)) := by kernel_rfl
theorem glb101 {P : Params} : nsIn (K P) mainGlobals (Str.ofString "Lit") = some (some (.ref 101)) := by kernel_rfl
theorem glb141 {P : Params} : nsIn (K P) mainGlobals (Str.ofString "App") = some (some (.ref 141)) := by kernel_rfl
theorem glb183 {P : Params} : nsIn (K P) mainGlobals (Str.ofString "Lam") = some (some (.ref 183)) := by kernel_rfl
theorem glb221 {P : Params} : nsIn (K P) mainGlobals (Str.ofString "Let") = some (some (.ref 221)) := by kernel_rfl
theorem glb242 {P : Params} : nsIn (K P) mainGlobals (Str.ofString "Alt") = some (some (.ref 242)) := by kernel_rfl
theorem glb282 {P : Params} : nsIn (K P) mainGlobals (Str.ofString "Case") = some (some (.ref 282)) := by kernel_rfl
theorem glb322 {P : Params} : nsIn (K P) mainGlobals (Str.ofString "Con") = some (some (.ref 322)) := by kernel_rfl
theorem glb362 {P : Params} : nsIn (K P) mainGlobals (Str.ofString "Prim") = some (some (.ref 362)) := by kernel_rfl
theorem glb383 {P : Params} : nsIn (K P) mainGlobals (Str.ofString "CoreProgram") = some (some (.ref 383)) := by kernel_rfl
theorem glb411 {P : Params} : nsIn (K P) mainGlobals (Str.ofString "Signature") = some (some (.ref 411)) := by kernel_rfl
theorem glb422 {P : Params} : nsIn (K P) mainGlobals (Str.ofString "hopeful") = some (some (.ref 422)) := by kernel_rfl
theorem glb429 {P : Params} : nsIn (K P) mainGlobals (Str.ofString "both") = some (some (.ref 429)) := by kernel_rfl
theorem glb434 {P : Params} : nsIn (K P) mainGlobals (Str.ofString "either") = some (some (.ref 434)) := by kernel_rfl
theorem glb439 {P : Params} : nsIn (K P) mainGlobals (Str.ofString "without") = some (some (.ref 439)) := by kernel_rfl
theorem glb446 {P : Params} : nsIn (K P) mainGlobals (Str.ofString "extended") = some (some (.ref 446)) := by kernel_rfl
theorem glb453 {P : Params} : nsIn (K P) mainGlobals (Str.ofString "needed") = some (some (.ref 453)) := by kernel_rfl
theorem glb460 {P : Params} : nsIn (K P) mainGlobals (Str.ofString "prim_needs") = some (some (.ref 460)) := by kernel_rfl
theorem glb467 {P : Params} : nsIn (K P) mainGlobals (Str.ofString "call_needs") = some (some (.ref 467)) := by kernel_rfl
theorem glb474 {P : Params} : nsIn (K P) mainGlobals (Str.ofString "case_needs") = some (some (.ref 474)) := by kernel_rfl
theorem glb479 {P : Params} : nsIn (K P) mainGlobals (Str.ofString "signature_of") = some (some (.ref 479)) := by kernel_rfl
theorem glb484 {P : Params} : nsIn (K P) mainGlobals (Str.ofString "functions_in") = some (some (.ref 484)) := by kernel_rfl
theorem glb489 {P : Params} : nsIn (K P) mainGlobals (Str.ofString "settled") = some (some (.ref 489)) := by kernel_rfl
theorem glb494 {P : Params} : nsIn (K P) mainGlobals (Str.ofString "bound_env") = some (some (.ref 494)) := by kernel_rfl
theorem glb499 {P : Params} : nsIn (K P) mainGlobals (Str.ofString "with_binds") = some (some (.ref 499)) := by kernel_rfl
theorem glb506 {P : Params} : nsIn (K P) mainGlobals (Str.ofString "let_needs") = some (some (.ref 506)) := by kernel_rfl
theorem glb513 {P : Params} : nsIn (K P) mainGlobals (Str.ofString "signatures") = some (some (.ref 513)) := by kernel_rfl
theorem glb518 {P : Params} : nsIn (K P) mainGlobals (Str.ofString "strict_params") = some (some (.ref 518)) := by kernel_rfl
theorem glb525 {P : Params} : nsIn (K P) mainGlobals (Str.ofString "is_done") = some (some (.ref 525)) := by kernel_rfl
theorem glb562 {P : Params} : nsIn (K P) mainGlobals (Str.ofString "Forcer") = some (some (.ref 562)) := by kernel_rfl
theorem glb571 {P : Params} : nsIn (K P) mainGlobals (Str.ofString "forced") = some (some (.ref 571)) := by kernel_rfl
theorem glb578 {P : Params} : nsIn (K P) mainGlobals (Str.ofString "base_of") = some (some (.ref 578)) := by kernel_rfl
theorem glb611 {P : Params} : nsIn (K P) mainGlobals (Str.ofString "Fresh") = some (some (.ref 611)) := by kernel_rfl
theorem glb622 {P : Params} : nsIn (K P) mainGlobals (Str.ofString "_law_pool") = some (some (.ref 622)) := by kernel_rfl
theorem glb629 {P : Params} : nsIn (K P) mainGlobals (Str.ofString "_law_take") = some (some (.ref 629)) := by kernel_rfl
theorem glb636 {P : Params} : nsIn (K P) mainGlobals (Str.ofString "_law_one") = some (some (.ref 636)) := by kernel_rfl
theorem glb643 {P : Params} : nsIn (K P) mainGlobals (Str.ofString "_law_new") = some (some (.ref 643)) := by kernel_rfl
theorem glb648 {P : Params} : nsIn (K P) mainGlobals (Str.ofString "_law_expr") = some (some (.ref 648)) := by kernel_rfl
theorem glb653 {P : Params} : nsIn (K P) mainGlobals (Str.ofString "_law_program") = some (some (.ref 653)) := by kernel_rfl
theorem glb658 {P : Params} : nsIn (K P) mainGlobals (Str.ofString "_law_value") = some (some (.ref 658)) := by kernel_rfl
theorem glb665 {P : Params} : nsIn (K P) mainGlobals (Str.ofString "_law_with") = some (some (.ref 665)) := by kernel_rfl
theorem glb672 {P : Params} : nsIn (K P) mainGlobals (Str.ofString "_law_plainly") = some (some (.ref 672)) := by kernel_rfl
theorem glb677 {P : Params} : nsIn (K P) mainGlobals (Str.ofString "_law_told_right") = some (some (.ref 677)) := by kernel_rfl
theorem look422 (P : Params) : (K P).lookup 422 = some (k422 P) := by kernel_rfl
theorem look429 (P : Params) : (K P).lookup 429 = some (k429 P) := by kernel_rfl
theorem look434 (P : Params) : (K P).lookup 434 = some (k434 P) := by kernel_rfl
theorem look439 (P : Params) : (K P).lookup 439 = some (k439 P) := by kernel_rfl
theorem look446 (P : Params) : (K P).lookup 446 = some (k446 P) := by kernel_rfl
theorem look453 (P : Params) : (K P).lookup 453 = some (k453 P) := by kernel_rfl
theorem look460 (P : Params) : (K P).lookup 460 = some (k460 P) := by kernel_rfl
theorem look467 (P : Params) : (K P).lookup 467 = some (k467 P) := by kernel_rfl
theorem look474 (P : Params) : (K P).lookup 474 = some (k474 P) := by kernel_rfl
theorem look479 (P : Params) : (K P).lookup 479 = some (k479 P) := by kernel_rfl
theorem look484 (P : Params) : (K P).lookup 484 = some (k484 P) := by kernel_rfl
theorem look489 (P : Params) : (K P).lookup 489 = some (k489 P) := by kernel_rfl
theorem look494 (P : Params) : (K P).lookup 494 = some (k494 P) := by kernel_rfl
theorem look499 (P : Params) : (K P).lookup 499 = some (k499 P) := by kernel_rfl
theorem look506 (P : Params) : (K P).lookup 506 = some (k506 P) := by kernel_rfl
theorem look513 (P : Params) : (K P).lookup 513 = some (k513 P) := by kernel_rfl
theorem look518 (P : Params) : (K P).lookup 518 = some (k518 P) := by kernel_rfl
theorem look525 (P : Params) : (K P).lookup 525 = some (k525 P) := by kernel_rfl
theorem look571 (P : Params) : (K P).lookup 571 = some (k571 P) := by kernel_rfl
theorem look578 (P : Params) : (K P).lookup 578 = some (k578 P) := by kernel_rfl
theorem look622 (P : Params) : (K P).lookup 622 = some (k622 P) := by kernel_rfl
theorem look636 (P : Params) : (K P).lookup 636 = some (k636 P) := by kernel_rfl
theorem look643 (P : Params) : (K P).lookup 643 = some (k643 P) := by kernel_rfl
theorem look648 (P : Params) : (K P).lookup 648 = some (k648 P) := by kernel_rfl
theorem look653 (P : Params) : (K P).lookup 653 = some (k653 P) := by kernel_rfl
theorem look658 (P : Params) : (K P).lookup 658 = some (k658 P) := by kernel_rfl
theorem look665 (P : Params) : (K P).lookup 665 = some (k665 P) := by kernel_rfl
theorem look672 (P : Params) : (K P).lookup 672 = some (k672 P) := by kernel_rfl
theorem look677 (P : Params) : (K P).lookup 677 = some (k677 P) := by kernel_rfl
theorem look684 (P : Params) : (K P).lookup 684 = some (k684 P) := by kernel_rfl
theorem look408 (P : Params) : (K P).lookup 408 = some (k408 P) := by kernel_rfl
theorem look544 (P : Params) : (K P).lookup 544 = some (k544 P) := by kernel_rfl
theorem look549 (P : Params) : (K P).lookup 549 = some (k549 P) := by kernel_rfl
theorem look554 (P : Params) : (K P).lookup 554 = some (k554 P) := by kernel_rfl
theorem look559 (P : Params) : (K P).lookup 559 = some (k559 P) := by kernel_rfl
theorem look594 (P : Params) : (K P).lookup 594 = some (k594 P) := by kernel_rfl
theorem look601 (P : Params) : (K P).lookup 601 = some (k601 P) := by kernel_rfl
theorem look608 (P : Params) : (K P).lookup 608 = some (k608 P) := by kernel_rfl
end Mine
end
section
open PySem PySem.W PyProof.Rows PySem.Calls
set_option maxRecDepth 100000
set_option maxHeartbeats 4000000
namespace Mine
/-! plain words: names, constants, fields of what stays; a call with such arguments -/
inductive ClA (M : PM) (c : Addr) (v : Value) : Prop
  | mk : ∀ o, (M c = some o) → (o.data = .cell (some v)) → ClA M c v
theorem ClA.up {G G' : PM} {c : Addr} {v : Value} (g : GLe G G') (k : ClA G c v) : ClA G' c v := let ⟨o, e, r⟩ := k; ⟨o, g _ _ e, r⟩
noncomputable def okFn (env : Env) : Bool := decide (env.scope.kind = .function)
noncomputable def okNm (env : Env) (x : Str) : Bool := okFn env && decide (env.kindOf x = some .local) && !(x == ("__debug__" : Str))
noncomputable def okCl (env : Env) (x : Str) : Bool := okFn env && decide (env.kindOf x = some .cell) && !(x == ("__debug__" : Str))
noncomputable def okGl (env : Env) (x : Str) : Bool := okFn env && decide (env.kindOf x = some .globalImplicit) && !(x == ("__debug__" : Str)) && decide (env.globals = mainGlobals)
noncomputable def okBt (env : Env) (x : Str) : Bool := okGl env x && decide (env.builtins = builtinsNs) && !(x == ("__name__" : Str))
/-- the classes and their fields -/
noncomputable def clT : List (Addr × List String) := [(59, ["name"]), (101, ["kind", "value"]), (141, ["fun", "args"]), (183, ["params", "body"]), (221, ["binds", "body", "is_rec"]), (242, ["key", "names", "body"]), (282, ["value", "name", "alts", "other"]), (362, ["op", "args"]), (383, ["binds", "cons", "main"]), (411, ["flags", "free", "diverges"]), (562, ["fresh"]), (611, ["avoided", "numbers"])]
noncomputable def clC : List Addr := [59, 101, 141, 183, 221, 242, 282, 322, 362]
noncomputable def kpT : List Addr := [59, 101, 141, 183, 221, 242, 282, 322, 362, 383, 411, 422, 429, 434, 439, 446, 453, 460, 467, 474, 479, 484, 489, 494, 499, 506, 513, 518, 525, 544, 549, 554, 559, 562, 571, 578, 594, 601, 608, 611, 622, 629, 636, 643, 648, 653, 658, 665, 672, 677]
noncomputable def atOk (c : Addr) (a : String) : Bool := clT.any fun p => p.1 == c && p.2.contains a
theorem at_all : ∀ P : Params, (clT.all fun p => p.2.all fun a => plainGet (K P) p.1 (Str.ofString a) && hasDictIn (K P) p.1 && findIn (K P) (.ref p.1) (Str.ofString a) == some none && noGet (K P) none) = true := fun P => by kernel_rfl
theorem isi_all : ∀ P : Params, (clC.all fun d => plainGet (K P) d "__class__" && hasDictIn (K P) d && findIn (K P) (.ref d) "__class__" == some (some (.builtin "object.__class__")) && specialIn (K P) (.builtin "object.__class__") "__get__" == some (some (.builtin "getset_descriptor.__get__")) && decide (takesIn (K P) (.builtin "object.__class__") = some true) && decide (mroIn (K P) d (.type "object") = some true) &&
  clC.all fun c => decide (kitOne (K P) (.ref d) (.ref c) = some (d == c))) = true := fun P => by kernel_rfl
theorem kp_all : ∀ P : Params, (kpT.all fun f => keepIn (K P) (.ref f)) = true := fun P => by kernel_rfl
theorem at_of {P : Params} {c : Addr} {a : String} (h : atOk c a = true) : plainGet (K P) c (Str.ofString a) = true ∧ hasDictIn (K P) c = true ∧ findIn (K P) (.ref c) (Str.ofString a) = some none ∧ noGet (K P) none = true := by
  obtain ⟨p, hp, hq⟩ := List.any_eq_true.mp h
  simp only [Bool.and_eq_true, beq_iff_eq] at hq
  obtain ⟨rfl, h2⟩ := hq
  have h3 := List.all_eq_true.mp (List.all_eq_true.mp (at_all P) p hp) a (List.contains_iff_mem.mp h2)
  simp only [Bool.and_eq_true, beq_iff_eq] at h3
  exact ⟨h3.1.1.1, h3.1.1.2, h3.1.2, h3.2⟩
theorem kp_of {P : Params} {f : Addr} (h : kpT.contains f = true) : keepIn (K P) (.ref f) = true := List.all_eq_true.mp (kp_all P) f (List.contains_iff_mem.mp h)
section
variable {D : Wd} {A : Around} {F : Fn} {G C G' C' : PM} {m : LM} {h : Heap} {env : Env} {pos : Pos}
theorem B.cellA {x : Str} {c : Addr} {v : Value} {Q : Value → PM → PM → LM → Prop} (hc : env.cells.lookup x = some c) (hg : Rd G C fun M => ClA M c v) (q : Q v G C m)
    (hk : env.scope.kind = .function := by rfl) (hx : env.kindOf x = some .cell := by rfl) (hd : (x == ("__debug__" : Str)) = false := by decide) : B D F A (eval (.Name x pos) env) Q G C m := by
  rcases hg with ⟨o, e, d⟩ | ⟨o, e, d⟩
  · exact B.cell hc (.inl e) d q hk hx hd
  · exact B.cell hc (.inr e) d q hk hx hd
end
class inductive Sv (D : Wd) (G C : PM) (m : LM) (env : Env) : PySem.Expr → Value → Prop
  | name {x : Str} {pos : Pos} {v : Value} : m x = some v → okNm env x = true → Sv D G C m env (.Name x pos) v
  | cell {x : Str} {pos : Pos} {v : Value} {c : Addr} : env.cells.lookup x = some c → (Rd G C fun M => ClA M c v) → okCl env x = true → Sv D G C m env (.Name x pos) v
  | glob {x : Str} {pos : Pos} {v : Value} : nsIn (K D.w.params) mainGlobals x = some (some v) → okGl env x = true → Sv D G C m env (.Name x pos) v
  | built {x : Str} {pos : Pos} {v : Value} : nsIn (K D.w.params) mainGlobals x = some none → bootBuiltins x = some v → okBt env x = true → Sv D G C m env (.Name x pos) v
  | none {k : Nat} {pos : Pos} : Sv D G C m env (.Constant .none k pos) .none
  | bool {b : Bool} {k : Nat} {pos : Pos} : Sv D G C m env (.Constant (.bool b) k pos) (.bool b)
  | attr {e : PySem.Expr} {a : String} {pos : Pos} {x c : Addr} {fs : List (Str × Value)} {v : Value} : Sv D G C m env e (.ref x) → (Rd G C fun M => InA M x c fs) → fs.lookup (Str.ofString a) = some v → atOk c a = true → handedIn v = true → Sv D G C m env (.Attribute e (Str.ofString a) pos) v
class inductive Svs (D : Wd) (G C : PM) (m : LM) (env : Env) : List PySem.Expr → List Value → Prop
  | nil : Svs D G C m env [] []
  | cons {e : PySem.Expr} {v : Value} {es : List PySem.Expr} {vs : List Value} : Sv D G C m env e v → Svs D G C m env es vs → Svs D G C m env (e :: es) (v :: vs)
noncomputable def isSv : PySem.Expr → Bool
  | .Name _ _ => true
  | .Constant .none _ _ => true
  | .Constant (.bool _) _ _ => true
  | .Attribute (.Name _ _) _ _ => true
  | _ => false
noncomputable def okCall : Value → Bool
  | .ref f => kpT.contains f
  | .builtin _ => true
  | _ => false
section
variable {D : Wd} {A : Around} {F : Fn} {G C G' C' : PM} {m : LM} {h : Heap} {env : Env} {pos : Pos}
theorem B.sv {e : PySem.Expr} {v : Value} {Q : Value → PM → PM → LM → Prop} (hL : env.locals = F.L) (k : Sv D G C m env e v) (q : Q v G C m) : B D F A (eval e env) Q G C m := by
  induction k generalizing Q with
  | name h1 h2 =>
    simp only [okNm, okFn, Bool.and_eq_true, decide_eq_true_eq, Bool.not_eq_true'] at h2
    exact B.name h1 q h2.1.1 h2.1.2 h2.2 hL
  | cell h1 h2 h3 =>
    simp only [okCl, okFn, Bool.and_eq_true, decide_eq_true_eq, Bool.not_eq_true'] at h3
    exact B.cellA h1 h2 q h3.1.1 h3.1.2 h3.2
  | glob h1 h2 =>
    simp only [okGl, okFn, Bool.and_eq_true, decide_eq_true_eq, Bool.not_eq_true'] at h2
    exact B.glob h1 q h2.1.1.1 h2.1.1.2 h2.1.2 h2.2
  | built h1 h3 h2 =>
    simp only [okBt, okGl, okFn, Bool.and_eq_true, decide_eq_true_eq, Bool.not_eq_true'] at h2
    exact B.built h1 h3 (fun z => by rw [z] at h2; exact absurd h2.2 (by decide)) q h2.1.1.1.1.1 h2.1.1.1.1.2 h2.1.1.1.2 h2.1.1.2 h2.1.2
  | none => exact B.cNone q
  | bool => exact B.cBool q
  | attr h1 h2 h3 h4 h5 ih =>
    obtain ⟨a1, a2, a3, a4⟩ := at_of (P := D.w.params) h4
    exact B.attribute (ih (B.getAttr h2 h3 a1 a2 a3 a4 h5 q)) (by cases h1 <;> rfl)
theorem Sv.star {e : PySem.Expr} {v : Value} {es : List PySem.Expr} (k : Sv D G C m env e v) : starEach (e :: es) env = (false, eval e env) :: starEach es env := by cases k <;> rfl
theorem B.svs0 {es : List PySem.Expr} {vs : List Value} {Q : List Value → PM → PM → LM → Prop} (hL : env.locals = F.L) (k : Svs D G C m env es vs) (q : Q vs G C m) : B D F A (spliced (backTo pos (starEach es env))) Q G C m := by
  induction k generalizing Q with
  | nil => exact B.args0 q
  | cons h1 h2 ih => exact B.args (B.sv hL h1 (ih q)) h1.star
theorem B.svs {es : List PySem.Expr} {vs : List Value} {Q : List Value → PM → PM → LM → Prop} (hL : env.locals = F.L) (hs : es.all isSv = true) (k : Svs D G C m env es vs) (q : Q vs G C m) : B D F A (spliced (backTo pos (starEach es env))) Q G C m := B.svs0 hL k q
theorem Svs.plain {es : List PySem.Expr} {vs : List Value} (k : Svs D G C m env es vs) : (backTo pos (starEach es env)).any (·.1) = false := by
  induction k with
  | nil => rfl
  | cons h1 h2 ih => rw [h1.star]; exact ih
theorem B.withSv {f : Value} {first : List Value} {es : List PySem.Expr} {vs : List Value} {Q : Value → PM → PM → LM → Prop} (hL : env.locals = F.L) (k : Svs D G C m env es vs) (ok : okCall f = true) (q : B D F A (PySem.call f (first ++ vs)) Q G C m) : B D F A (callWith pos f first (backTo pos (starEach es env)) []) Q G C m := by
  cases f with
  | ref f =>
    have ok := kp_of (P := D.w.params) ok
    cases k with
    | nil => exact B.withK0 ok q
    | cons h1 h2 => exact B.withK ok (B.svs0 hL (.cons h1 h2) q) h1.star h2.plain
  | builtin f =>
    cases k with
    | nil => rw [List.append_nil] at q; exact B.withB0 q
    | cons h1 h2 => exact B.withB (B.svs0 hL (.cons h1 h2) q) h1.star h2.plain
  | _ => cases ok
theorem B.callSv {x : Str} {p : Pos} {f : Value} {es : List PySem.Expr} {vs : List Value} {Q : Value → PM → PM → LM → Prop} (hL : env.locals = F.L) (hf : Sv D G C m env (.Name x p) f) (hs : es.all isSv = true) (k : Svs D G C m env es vs) (ok : okCall f = true) (q : B D F A (PySem.call f vs) Q G C m) : B D F A (eval (.Call (.Name x p) es [] pos) env) Q G C m :=
  B.call (B.sv hL hf (B.withSv hL k ok q)) rfl
theorem B.withSv0 {f : Value} {es : List PySem.Expr} {vs : List Value} {Q : Value → PM → PM → LM → Prop} (hL : env.locals = F.L) (hs : es.all isSv = true) (k : Svs D G C m env es vs) (ok : okCall f = true) (q : B D F A (PySem.call f vs) Q G C m) : B D F A (callWith pos f [] (backTo pos (starEach es env)) []) Q G C m := B.withSv hL k ok q
theorem B.withSv1 {f x : Value} {es : List PySem.Expr} {vs : List Value} {Q : Value → PM → PM → LM → Prop} (hL : env.locals = F.L) (hs : es.all isSv = true) (k : Svs D G C m env es vs) (ok : okCall f = true) (q : B D F A (PySem.call f (x :: vs)) Q G C m) : B D F A (callWith pos f [x] (backTo pos (starEach es env)) []) Q G C m := B.withSv hL k ok q
noncomputable def isOk (d c : Addr) (b : Bool) : Bool := clC.contains d && clC.contains c && ((d == c) == b)
theorem isi_cls (P : Params) {d : Addr} (h1 : clC.contains d = true) : plainGet (K P) d "__class__" = true ∧ hasDictIn (K P) d = true ∧ findIn (K P) (.ref d) "__class__" = some (some (.builtin "object.__class__")) ∧ specialIn (K P) (.builtin "object.__class__") "__get__" = some (some (.builtin "getset_descriptor.__get__")) ∧ takesIn (K P) (.builtin "object.__class__") = some true ∧ mroIn (K P) d (.type "object") = some true ∧ ∀ c, clC.contains c = true → kitOne (K P) (.ref d) (.ref c) = some (d == c) := by
  have h3 := List.all_eq_true.mp (isi_all P) d (List.contains_iff_mem.mp h1)
  simp only [Bool.and_eq_true, beq_iff_eq, decide_eq_true_eq] at h3
  exact ⟨h3.1.1.1.1.1.1, h3.1.1.1.1.1.2, h3.1.1.1.1.2, h3.1.1.1.2, h3.1.1.2, h3.1.2, fun c hc => of_decide_eq_true (List.all_eq_true.mp h3.2 c (List.contains_iff_mem.mp hc))⟩
theorem B.isiC {x d c : Addr} {b : Bool} {fs : List (Str × Value)} {Q : Value → PM → PM → LM → Prop} (hx : InA G x d fs) (ok : isOk d c b = true) (q : Q (.bool b) G C m) : B D F A (PySem.call (.builtin "isinstance") [.ref x, .ref c]) Q G C m := by
  simp only [isOk, Bool.and_eq_true, beq_iff_eq] at ok
  obtain ⟨⟨h1, h2⟩, rfl⟩ := ok
  obtain ⟨a1, a2, a3, a4, a5, a6, a7⟩ := isi_cls D.w.params h1
  exact B.isi hx (a7 c h2) a1 a2 a3 a4 a5 a6 q
theorem B.isiTC {x d t : Addr} {cs : List Value} {b : Bool} {fs : List (Str × Value)} {Q : Value → PM → PM → LM → Prop} (hx : InA G x d fs) (hT : TpA G t cs) (ok : clC.contains d = true) (e : kitAny (K D.w.params) (.ref d) cs = some b) (q : Q (.bool b) G C m) : B D F A (PySem.call (.builtin "isinstance") [.ref x, .ref t]) Q G C m := by
  obtain ⟨a1, a2, a3, a4, a5, a6, _⟩ := isi_cls D.w.params ok
  exact B.isiT hx hT e a1 a2 a3 a4 a5 a6 q
theorem B.getAttrT {x c : Addr} {fs : List (Str × Value)} {a : String} {v : Value} {expr : Bool} {Q : Value → PM → PM → LM → Prop} (hx : Rd G C fun M => InA M x c fs) (hv : fs.lookup (Str.ofString a) = some v) (h4 : atOk c a = true) (hi : handedIn v = true) (q : Q v G C m) : B D F A (PySem.getAttr (.ref x) (Str.ofString a) expr) Q G C m := by
  obtain ⟨a1, a2, a3, a4⟩ := at_of (P := D.w.params) h4
  exact B.getAttr hx hv a1 a2 a3 a4 hi q
theorem mem_lk : ∀ {l : List (String × Addr)} {a : String} {f : Addr}, l.lookup a = some f → (a, f) ∈ l
  | (b, g) :: l, a, f, h => by
    rw [List.lookup_cons] at h
    cases q : a == b with
    | true => rw [q] at h; cases h; rw [eq_of_beq q]; exact .head _
    | false => rw [q] at h; exact .tail _ (mem_lk h)
noncomputable def meL : List (String × Addr) := [("expr", 544), ("case", 549), ("let", 554), ("call", 559)]
theorem me_all : ∀ P : Params, (meL.all fun p => plainGet (K P) 562 (Str.ofString p.1) && findIn (K P) (.ref 562) (Str.ofString p.1) == some (some (.ref p.2)) && isFn (K P) (.ref p.2)) = true := fun P => by kernel_rfl
theorem B.meT {x f : Addr} {fs : List (Str × Value)} {a : String} {pl : Sem Bool} {Q : Value × List Value → PM → PM → LM → Prop} (hx : Rd G C fun M => InA M x 562 fs) (hv : fs.lookup (Str.ofString a) = none) (hm : meL.lookup a = some f) (q : Q (.ref f, [.ref x]) G C m) : B D F A (getMethod (.ref x) (Str.ofString a) pl) Q G C m := by
  have h3 := List.all_eq_true.mp (me_all D.w.params) (a, f) (mem_lk hm)
  simp only [Bool.and_eq_true, beq_iff_eq] at h3
  exact B.getMeth hx hv h3.1.1 h3.1.2 h3.2 q
end
end Mine
end
section
open PySem PySem.W PyProof.Rows PySem.Calls
set_option maxRecDepth 100000
set_option maxHeartbeats 4000000
namespace Mine
/-! ### the plain law: terms, evaluation by name, needs -/
abbrev N := PySem.Str
inductive Tm
  | var (x : N) | lit (i : Int) | err | add (a b : Tm)
  | case (v : Tm) (x : N) (k : Int) (a o : Tm)
  | seq (v : Tm) (x : N) (o : Tm)
  | lt (x : N) (v b : Tm)
  | ap1 (f : N) (a : Tm) | ap2 (f : N) (a b : Tm)
inductive Thing
  | no | int (i : Int) | th (t : Tm) (ρ : N → Thing)
abbrev Rho := N → Thing
noncomputable def setR (ρ : Rho) (x : N) (θ : Thing) : Rho := fun y => if y = x then θ else ρ y
noncomputable def rho0 : Rho := fun _ => .no
theorem setR_same {ρ : Rho} {x : N} {θ : Thing} : setR ρ x θ x = θ := if_pos rfl
theorem setR_ne {ρ : Rho} {x y : N} {θ : Thing} (h : y ≠ x) : setR ρ x θ y = ρ y := if_neg h
structure Fd where
  ps : List N
  body : Tm
abbrev Tops := N → Option Fd
/-- some i: an int; none: an error; the number: how many calls -/
class inductive Ev (P : Tops) : Tm → Rho → Option Int → Nat → Prop
  | lit {i ρ} : Ev P (.lit i) ρ (some i) 1
  | varI {x i ρ} : ρ x = .int i → Ev P (.var x) ρ (some i) 1
  | varT {x t ρ ρ' r c} : ρ x = .th t ρ' → Ev P t ρ' r c → Ev P (.var x) ρ r (c + 1)
  | err {ρ} : Ev P .err ρ none 1
  | addE {a b ρ c} : Ev P a ρ none c → Ev P (.add a b) ρ none (c + 1)
  | addF {a b ρ i c d} : Ev P a ρ (some i) c → Ev P b ρ none d → Ev P (.add a b) ρ none (c + d + 1)
  | add {a b ρ i j c d} : Ev P a ρ (some i) c → Ev P b ρ (some j) d → Ev P (.add a b) ρ (some (i + j)) (c + d + 1)
  | caseE {v x k a o ρ c} : Ev P v ρ none c → Ev P (.case v x k a o) ρ none (c + 1)
  | caseA {v x k a o ρ c d r} : Ev P v ρ (some k) c → Ev P a (setR ρ x (.int k)) r d → Ev P (.case v x k a o) ρ r (c + d + 1)
  | caseO {v x k i a o ρ c d r} : Ev P v ρ (some i) c → i ≠ k → Ev P o (setR ρ x (.int i)) r d → Ev P (.case v x k a o) ρ r (c + d + 1)
  | seqE {v x o ρ c} : Ev P v ρ none c → Ev P (.seq v x o) ρ none (c + 1)
  | seq {v x i o ρ c d r} : Ev P v ρ (some i) c → Ev P o (setR ρ x (.int i)) r d → Ev P (.seq v x o) ρ r (c + d + 1)
  | lt {x v b ρ c r} : Ev P b (setR ρ x (.th v ρ)) r c → Ev P (.lt x v b) ρ r (c + 1)
  | ap1 {f p b a ρ c r} : P f = some ⟨[p], b⟩ → Ev P b (setR rho0 p (.th a ρ)) r c → Ev P (.ap1 f a) ρ r (c + 1)
  | ap2 {f p q b a a' ρ c r} : P f = some ⟨[p, q], b⟩ → Ev P b (setR (setR rho0 p (.th a ρ)) q (.th a' ρ)) r c → Ev P (.ap2 f a a') ρ r (c + 1)
inductive EvVar (P : Tops) (x : N) (ρ : Rho) : Option Int → Nat → Prop
  | varI {i} : ρ x = .int i → EvVar P x ρ (some i) 1
  | varT {t ρ' r c} : ρ x = .th t ρ' → Ev P t ρ' r c → EvVar P x ρ r (c + 1)
inductive EvLit (P : Tops) (i : Int) (ρ : Rho) : Option Int → Nat → Prop
  | lit : EvLit P i ρ (some i) 1
inductive EvErr (P : Tops) (ρ : Rho) : Option Int → Nat → Prop
  | err : EvErr P ρ none 1
inductive EvAdd (P : Tops) (a : Tm) (b : Tm) (ρ : Rho) : Option Int → Nat → Prop
  | addE {c} : Ev P a ρ none c → EvAdd P a b ρ none (c + 1)
  | addF {i c d} : Ev P a ρ (some i) c → Ev P b ρ none d → EvAdd P a b ρ none (c + d + 1)
  | add {i j c d} : Ev P a ρ (some i) c → Ev P b ρ (some j) d → EvAdd P a b ρ (some (i + j)) (c + d + 1)
inductive EvCase (P : Tops) (v : Tm) (x : N) (k : Int) (a : Tm) (o : Tm) (ρ : Rho) : Option Int → Nat → Prop
  | caseE {c} : Ev P v ρ none c → EvCase P v x k a o ρ none (c + 1)
  | caseA {c d r} : Ev P v ρ (some k) c → Ev P a (setR ρ x (.int k)) r d → EvCase P v x k a o ρ r (c + d + 1)
  | caseO {i c d r} : Ev P v ρ (some i) c → i ≠ k → Ev P o (setR ρ x (.int i)) r d → EvCase P v x k a o ρ r (c + d + 1)
inductive EvSeq (P : Tops) (v : Tm) (x : N) (o : Tm) (ρ : Rho) : Option Int → Nat → Prop
  | seqE {c} : Ev P v ρ none c → EvSeq P v x o ρ none (c + 1)
  | seq {i c d r} : Ev P v ρ (some i) c → Ev P o (setR ρ x (.int i)) r d → EvSeq P v x o ρ r (c + d + 1)
inductive EvLt (P : Tops) (x : N) (v : Tm) (b : Tm) (ρ : Rho) : Option Int → Nat → Prop
  | lt {c r} : Ev P b (setR ρ x (.th v ρ)) r c → EvLt P x v b ρ r (c + 1)
inductive EvAp1 (P : Tops) (f : N) (a : Tm) (ρ : Rho) : Option Int → Nat → Prop
  | ap1 {p b c r} : P f = some ⟨[p], b⟩ → Ev P b (setR rho0 p (.th a ρ)) r c → EvAp1 P f a ρ r (c + 1)
inductive EvAp2 (P : Tops) (f : N) (a : Tm) (a' : Tm) (ρ : Rho) : Option Int → Nat → Prop
  | ap2 {p q b c r} : P f = some ⟨[p, q], b⟩ → Ev P b (setR (setR rho0 p (.th a ρ)) q (.th a' ρ)) r c → EvAp2 P f a a' ρ r (c + 1)
/-- by what a value came -/
noncomputable def EvI (P : Tops) : Tm → Rho → Option Int → Nat → Prop
  | .var x => EvVar P x
  | .lit i => EvLit P i
  | .err => EvErr P
  | .add a b => EvAdd P a b
  | .case v x k a o => EvCase P v x k a o
  | .seq v x o => EvSeq P v x o
  | .lt x v b => EvLt P x v b
  | .ap1 f a => EvAp1 P f a
  | .ap2 f a a' => EvAp2 P f a a'
theorem Ev.inv {P : Tops} {t ρ r c} (h : Ev P t ρ r c) : EvI P t ρ r c := by
  induction h with
  | lit => exact EvLit.lit
  | varI h0 => exact EvVar.varI h0
  | varT h0 h1 => exact EvVar.varT h0 h1
  | err => exact EvErr.err
  | addE h0 => exact EvAdd.addE h0
  | addF h0 h1 => exact EvAdd.addF h0 h1
  | add h0 h1 => exact EvAdd.add h0 h1
  | caseE h0 => exact EvCase.caseE h0
  | caseA h0 h1 => exact EvCase.caseA h0 h1
  | caseO h0 h1 h2 => exact EvCase.caseO h0 h1 h2
  | seqE h0 => exact EvSeq.seqE h0
  | seq h0 h1 => exact EvSeq.seq h0 h1
  | lt h0 => exact EvLt.lt h0
  | ap1 h0 h1 => exact EvAp1.ap1 h0 h1
  | ap2 h0 h1 => exact EvAp2.ap2 h0 h1
/-! by what an int came -/
inductive EvVarS (P : Tops) (x : N) (ρ : Rho) : Int → Nat → Prop
  | varI {i} : ρ x = .int i → EvVarS P x ρ i 1
  | varT {t ρ' r c} : ρ x = .th t ρ' → Ev P t ρ' (some r) c → EvVarS P x ρ r (c + 1)
inductive EvLitS (i : Int) : Int → Nat → Prop
  | lit : EvLitS i i 1
inductive EvAddS (P : Tops) (a b : Tm) (ρ : Rho) : Int → Nat → Prop
  | add {i j c d} : Ev P a ρ (some i) c → Ev P b ρ (some j) d → EvAddS P a b ρ (i + j) (c + d + 1)
inductive EvCaseS (P : Tops) (v : Tm) (x : N) (k : Int) (a o : Tm) (ρ : Rho) : Int → Nat → Prop
  | caseA {c d r} : Ev P v ρ (some k) c → Ev P a (setR ρ x (.int k)) (some r) d → EvCaseS P v x k a o ρ r (c + d + 1)
  | caseO {i c d r} : Ev P v ρ (some i) c → i ≠ k → Ev P o (setR ρ x (.int i)) (some r) d → EvCaseS P v x k a o ρ r (c + d + 1)
inductive EvSeqS (P : Tops) (v : Tm) (x : N) (o : Tm) (ρ : Rho) : Int → Nat → Prop
  | seq {i c d r} : Ev P v ρ (some i) c → Ev P o (setR ρ x (.int i)) (some r) d → EvSeqS P v x o ρ r (c + d + 1)
inductive EvLtS (P : Tops) (x : N) (v b : Tm) (ρ : Rho) : Int → Nat → Prop
  | lt {c r} : Ev P b (setR ρ x (.th v ρ)) (some r) c → EvLtS P x v b ρ r (c + 1)
inductive EvAp1S (P : Tops) (f : N) (a : Tm) (ρ : Rho) : Int → Nat → Prop
  | ap1 {p b c r} : P f = some ⟨[p], b⟩ → Ev P b (setR rho0 p (.th a ρ)) (some r) c → EvAp1S P f a ρ r (c + 1)
inductive EvAp2S (P : Tops) (f : N) (a a' : Tm) (ρ : Rho) : Int → Nat → Prop
  | ap2 {p q b c r} : P f = some ⟨[p, q], b⟩ → Ev P b (setR (setR rho0 p (.th a ρ)) q (.th a' ρ)) (some r) c → EvAp2S P f a a' ρ r (c + 1)
noncomputable def EvIS (P : Tops) : Tm → Rho → Int → Nat → Prop
  | .var x, ρ => EvVarS P x ρ
  | .lit i, _ => EvLitS i
  | .err, _ => fun _ _ => False
  | .add a b, ρ => EvAddS P a b ρ
  | .case v x k a o, ρ => EvCaseS P v x k a o ρ
  | .seq v x o, ρ => EvSeqS P v x o ρ
  | .lt x v b, ρ => EvLtS P x v b ρ
  | .ap1 f a, ρ => EvAp1S P f a ρ
  | .ap2 f a a', ρ => EvAp2S P f a a' ρ
theorem Ev.invS0 {P : Tops} {t ρ r c} (h : Ev P t ρ r c) : ∀ v, r = some v → EvIS P t ρ v c := by
  induction h with
  | lit => intro v e; rw [← Option.some.inj e]; exact EvLitS.lit
  | varI h0 => intro v e; rw [← Option.some.inj e]; exact EvVarS.varI h0
  | varT h0 h1 => intro v e; subst e; exact EvVarS.varT h0 h1
  | err => intro v e; exact nomatch e
  | addE h0 => intro v e; exact nomatch e
  | addF h0 h1 => intro v e; exact nomatch e
  | add h0 h1 => intro v e; rw [← Option.some.inj e]; exact EvAddS.add h0 h1
  | caseE h0 => intro v e; exact nomatch e
  | caseA h0 h1 => intro v e; subst e; exact EvCaseS.caseA h0 h1
  | caseO h0 h1 h2 => intro v e; subst e; exact EvCaseS.caseO h0 h1 h2
  | seqE h0 => intro v e; exact nomatch e
  | seq h0 h1 => intro v e; subst e; exact EvSeqS.seq h0 h1
  | lt h0 => intro v e; subst e; exact EvLtS.lt h0
  | ap1 h0 h1 => intro v e; subst e; exact EvAp1S.ap1 h0 h1
  | ap2 h0 h1 => intro v e; subst e; exact EvAp2S.ap2 h0 h1
theorem Ev.invS {P : Tops} {t ρ v c} (h : Ev P t ρ (some v) c) : EvIS P t ρ v c := h.invS0 v rfl
theorem Ev.invVar {P : Tops} {x ρ r c} (h : Ev P (.var x) ρ r c) : EvVar P x ρ r c := h.inv
theorem Ev.invAdd {P : Tops} {a b ρ r c} (h : Ev P (.add a b) ρ r c) : EvAdd P a b ρ r c := h.inv
theorem Ev.invCase {P : Tops} {v x k a o ρ r c} (h : Ev P (.case v x k a o) ρ r c) : EvCase P v x k a o ρ r c := h.inv
theorem Ev.invSeq {P : Tops} {v x o ρ r c} (h : Ev P (.seq v x o) ρ r c) : EvSeq P v x o ρ r c := h.inv
theorem Ev.invLt {P : Tops} {x v b ρ r c} (h : Ev P (.lt x v b) ρ r c) : EvLt P x v b ρ r c := h.inv
theorem Ev.invAp1 {P : Tops} {f a ρ r c} (h : Ev P (.ap1 f a) ρ r c) : EvAp1 P f a ρ r c := h.inv
theorem Ev.invAp2 {P : Tops} {f a b ρ r c} (h : Ev P (.ap2 f a b) ρ r c) : EvAp2 P f a b ρ r c := h.inv
theorem Ev.invLit {P : Tops} {i ρ r c} (h : Ev P (.lit i) ρ r c) : EvLit P i ρ r c := h.inv
theorem Ev.invErr {P : Tops} {ρ r c} (h : Ev P .err ρ r c) : EvErr P ρ r c := h.inv
theorem Ev.valVar {P : Tops} {x ρ r c} (h : Ev P (.var x) ρ (some r) c) : EvVarS P x ρ r c := h.invS
theorem Ev.valLit {P : Tops} {i ρ r c} (h : Ev P (.lit i) ρ (some r) c) : EvLitS i r c := h.invS
theorem Ev.valAdd {P : Tops} {a b ρ r c} (h : Ev P (.add a b) ρ (some r) c) : EvAddS P a b ρ r c := h.invS
theorem Ev.valCase {P : Tops} {v x k a o ρ r c} (h : Ev P (.case v x k a o) ρ (some r) c) : EvCaseS P v x k a o ρ r c := h.invS
theorem Ev.valSeq {P : Tops} {v x o ρ r c} (h : Ev P (.seq v x o) ρ (some r) c) : EvSeqS P v x o ρ r c := h.invS
theorem Ev.valLt {P : Tops} {x v b ρ r c} (h : Ev P (.lt x v b) ρ (some r) c) : EvLtS P x v b ρ r c := h.invS
theorem Ev.valAp1 {P : Tops} {f a ρ r c} (h : Ev P (.ap1 f a) ρ (some r) c) : EvAp1S P f a ρ r c := h.invS
theorem Ev.valAp2 {P : Tops} {f a b ρ r c} (h : Ev P (.ap2 f a b) ρ (some r) c) : EvAp2S P f a b ρ r c := h.invS
theorem Ev.pos {P : Tops} {t ρ r c} (h : Ev P t ρ r c) : 0 < c := by induction h <;> exact Nat.succ_pos _
theorem Ev.det {P : Tops} {t ρ r c} (h : Ev P t ρ r c) : ∀ {r' c'}, Ev P t ρ r' c' → r = r' ∧ c = c' := by
  induction h with
  | lit => intro r' c' k; replace k := k.invLit; induction k; exact ⟨rfl, rfl⟩
  | varI e => intro r' c' k; replace k := k.invVar; induction k with
    | varI e' => rw [e] at e'; cases e'; exact ⟨rfl, rfl⟩
    | varT e' _ => rw [e] at e'; cases e'
  | varT e _ ih => intro r' c' k; replace k := k.invVar; induction k with
    | varI e' => rw [e] at e'; cases e'
    | varT e' k => rw [e] at e'; cases e'; obtain ⟨rfl, rfl⟩ := ih k; exact ⟨rfl, rfl⟩
  | err => intro r' c' k; replace k := k.invErr; induction k; exact ⟨rfl, rfl⟩
  | addE _ ih => intro r' c' k; replace k := k.invAdd; induction k with
    | addE k => obtain ⟨_, rfl⟩ := ih k; exact ⟨rfl, rfl⟩
    | addF k _ => obtain ⟨z, _⟩ := ih k; cases z
    | add k _ => obtain ⟨z, _⟩ := ih k; cases z
  | addF _ _ ih ih2 => intro r' c' k; replace k := k.invAdd; induction k with
    | addE k => obtain ⟨z, _⟩ := ih k; cases z
    | addF k k2 => obtain ⟨z, rfl⟩ := ih k; cases z; obtain ⟨_, rfl⟩ := ih2 k2; exact ⟨rfl, rfl⟩
    | add k k2 => obtain ⟨z, _⟩ := ih2 k2; cases z
  | add _ _ ih ih2 => intro r' c' k; replace k := k.invAdd; induction k with
    | addE k => obtain ⟨z, _⟩ := ih k; cases z
    | addF k k2 => obtain ⟨z, _⟩ := ih2 k2; cases z
    | add k k2 => obtain ⟨z, rfl⟩ := ih k; cases z; obtain ⟨z, rfl⟩ := ih2 k2; cases z; exact ⟨rfl, rfl⟩
  | caseE _ ih => intro r' c' k; replace k := k.invCase; induction k with
    | caseE k => obtain ⟨_, rfl⟩ := ih k; exact ⟨rfl, rfl⟩
    | caseA k _ => obtain ⟨z, _⟩ := ih k; cases z
    | caseO k _ _ => obtain ⟨z, _⟩ := ih k; cases z
  | caseA _ _ ih ih2 => intro r' c' k; replace k := k.invCase; induction k with
    | caseE k => obtain ⟨z, _⟩ := ih k; cases z
    | caseA k k2 => obtain ⟨_, rfl⟩ := ih k; obtain ⟨rfl, rfl⟩ := ih2 k2; exact ⟨rfl, rfl⟩
    | caseO k n _ => obtain ⟨z, _⟩ := ih k; cases z; exact absurd rfl n
  | caseO _ n _ ih ih2 => intro r' c' k; replace k := k.invCase; induction k with
    | caseE k => obtain ⟨z, _⟩ := ih k; cases z
    | caseA k k2 => obtain ⟨z, _⟩ := ih k; cases z; exact absurd rfl n
    | caseO k n k2 => obtain ⟨z, rfl⟩ := ih k; cases z; obtain ⟨rfl, rfl⟩ := ih2 k2; exact ⟨rfl, rfl⟩
  | seqE _ ih => intro r' c' k; replace k := k.invSeq; induction k with
    | seqE k => obtain ⟨_, rfl⟩ := ih k; exact ⟨rfl, rfl⟩
    | seq k _ => obtain ⟨z, _⟩ := ih k; cases z
  | seq _ _ ih ih2 => intro r' c' k; replace k := k.invSeq; induction k with
    | seqE k => obtain ⟨z, _⟩ := ih k; cases z
    | seq k k2 => obtain ⟨z, rfl⟩ := ih k; cases z; obtain ⟨rfl, rfl⟩ := ih2 k2; exact ⟨rfl, rfl⟩
  | lt _ ih => intro r' c' k; replace k := k.invLt; induction k with
    | lt k => obtain ⟨rfl, rfl⟩ := ih k; exact ⟨rfl, rfl⟩
  | ap1 e _ ih => intro r' c' k; replace k := k.invAp1; induction k with
    | ap1 e' k => rw [e] at e'; cases e'; obtain ⟨rfl, rfl⟩ := ih k; exact ⟨rfl, rfl⟩
  | ap2 e _ ih => intro r' c' k; replace k := k.invAp2; induction k with
    | ap2 e' k => rw [e] at e'; cases e'; obtain ⟨rfl, rfl⟩ := ih k; exact ⟨rfl, rfl⟩
/-! needs -/
structure Sg where
  flags : List Bool
  free : List N
  div : Bool
abbrev Sgs := N → Option Sg
abbrev Nd := Option (List N)
noncomputable def addTo (l : List N) (x : N) : List N := if x ∈ l then l else l ++ [x]
noncomputable def joinL (a b : List N) : List N := b.foldl addTo a
theorem mem_addTo {l : List N} {x y : N} : y ∈ addTo l x ↔ y ∈ l ∨ y = x := by
  unfold addTo; split
  · rename_i h; constructor
    · exact .inl
    · rintro (k | rfl); exact k; exact h
  · simp
theorem mem_joinL {a b : List N} {y : N} : y ∈ joinL a b ↔ y ∈ a ∨ y ∈ b := by
  unfold joinL
  induction b generalizing a with
  | nil => simp
  | cons x b ih => rw [List.foldl_cons, ih, mem_addTo, List.mem_cons, or_assoc]
theorem nodup_addTo {l : List N} {x : N} (h : l.Nodup) : (addTo l x).Nodup := by
  unfold addTo; split
  · exact h
  · rename_i k
    rw [List.nodup_append]; exact ⟨h, by simp, by intro a ha b hb; simp at hb; subst hb; intro z; subst z; exact k ha⟩
theorem nodup_joinL {a b : List N} (h : a.Nodup) : (joinL a b).Nodup := by
  unfold joinL
  induction b generalizing a with
  | nil => exact h
  | cons x b ih => exact ih (nodup_addTo h)
noncomputable def both : Nd → Nd → Nd
  | some a, some b => some (joinL a b)
  | _, _ => none
noncomputable def either2 : Nd → Nd → Nd
  | none, b => b
  | some a, none => some a
  | some a, some b => some (a.filter (· ∈ b))
noncomputable def without (n : Nd) (xs : List N) : Nd := n.map (·.filter (· ∉ xs))
noncomputable def zipN : List Bool → List Nd → Nd → Nd
  | fl :: fs, n :: ns, acc => zipN fs ns (if fl then both acc n else acc)
  | _, _, acc => acc
noncomputable def callN (so : Option Sg) (f : N) (ns : List Nd) : Nd :=
  match so with
  | none => some [f]
  | some s => if ns.length < s.flags.length then some [f] else if s.div then none else zipN s.flags ns (both (some [f]) (some s.free))
noncomputable def letN (nb nv : Nd) (x : N) : Nd :=
  without (match nb with
    | none => none
    | some l => if x ∈ l then both (some l) nv else some l) [x]
noncomputable def need (S : Sgs) : Tm → Nd
  | .var x => some [x]
  | .lit _ => some []
  | .err => none
  | .add a b => both (both (some []) (need S a)) (need S b)
  | .case v x _ a o => both (need S v) (either2 (without (need S a) [x]) (without (need S o) [x]))
  | .seq _ _ _ => some []
  | .lt x v b => letN (need S b) (need S v) x
  | .ap1 f a => callN (S f) f [need S a]
  | .ap2 f a b => callN (S f) f [need S a, need S b]
noncomputable def sigOf (S : Sgs) (fd : Fd) : Sg :=
  match need S fd.body with
  | none => ⟨fd.ps.map fun _ => true, [], true⟩
  | some l => ⟨fd.ps.map (decide <| · ∈ l), l.filter (· ∉ fd.ps), false⟩
noncomputable def SameSg (s s' : Sg) : Prop := s.flags = s'.flags ∧ (∀ x, x ∈ s.free ↔ x ∈ s'.free) ∧ s.div = s'.div
/-- the signatures are what the bodies give under them -/
noncomputable def Cons (P : Tops) (S : Sgs) : Prop := ∀ f, (P f = none ∧ S f = none) ∨ ∃ fd s, P f = some fd ∧ S f = some s ∧ SameSg s (sigOf S fd)
/-! names -/
noncomputable def Nm (x : N) : Prop := x.cps[1]? = some 46 ∧ PySem.PyData.strOk x = true
noncomputable def NmL (x : N) : Prop := x.cps[0]? = some 108
noncomputable def NmA (x : N) : Prop := x.cps[1]? = some 114
theorem Nm.notA {x : N} (h : Nm x) : ¬NmA x := fun k => absurd (Option.some.inj ((show x.cps[1]? = some 46 from h.1).symm.trans k)) (by decide)
/-- a term of the source -/
noncomputable def Src : Tm → Prop
  | .var x => Nm x
  | .lit _ => True
  | .err => True
  | .add a b => Src a ∧ Src b
  | .case v x _ a o => Src v ∧ Nm x ∧ Src a ∧ Src o
  | .seq _ _ _ => False
  | .lt x v b => Src v ∧ Nm x ∧ NmL x ∧ Src b
  | .ap1 _ a => Src a
  | .ap2 _ a b => Src a ∧ Src b
/-- every name is there, every call fits -/
noncomputable def WS (P : Tops) : Tm → (N → Prop) → Prop
  | .var x, d => d x
  | .lit _, _ => True
  | .err, _ => True
  | .add a b, d => WS P a d ∧ WS P b d
  | .case v x _ a o, d => WS P v d ∧ WS P a (fun y => y = x ∨ d y) ∧ WS P o (fun y => y = x ∨ d y)
  | .seq v x o, d => WS P v d ∧ WS P o (fun y => y = x ∨ d y)
  | .lt x v b, d => WS P v d ∧ WS P b (fun y => y = x ∨ d y)
  | .ap1 f a, d => (∃ p b, P f = some ⟨[p], b⟩) ∧ WS P a d
  | .ap2 f a b, d => (∃ p q b, P f = some ⟨[p, q], b⟩) ∧ WS P a d ∧ WS P b d
theorem WS.mono {P : Tops} : ∀ {t : Tm} {d d' : N → Prop}, WS P t d → (∀ x, d x → d' x) → WS P t d'
  | .var _, _, _, h, k => k _ h
  | .lit _, _, _, _, _ => trivial
  | .err, _, _, _, _ => trivial
  | .add _ _, _, _, h, k => ⟨WS.mono h.1 k, WS.mono h.2 k⟩
  | .case .., _, _, h, k => ⟨WS.mono h.1 k, WS.mono h.2.1 fun x q => q.imp id (k x), WS.mono h.2.2 fun x q => q.imp id (k x)⟩
  | .seq .., _, _, h, k => ⟨WS.mono h.1 k, WS.mono h.2 fun x q => q.imp id (k x)⟩
  | .lt .., _, _, h, k => ⟨WS.mono h.1 k, WS.mono h.2 fun x q => q.imp id (k x)⟩
  | .ap1 .., _, _, h, k => ⟨h.1, WS.mono h.2 k⟩
  | .ap2 .., _, _, h, k => ⟨h.1, WS.mono h.2.1 k, WS.mono h.2.2 k⟩
end Mine
end
section
open PySem PySem.W PyProof.Rows PySem.Calls
set_option maxRecDepth 100000
set_option maxHeartbeats 4000000
namespace Mine
/-- parameters are apart, names are names, the bodies are of the source -/
noncomputable def PGood (P : Tops) : Prop := ∀ f fd, P f = some fd → fd.ps.Nodup ∧ (∀ p ∈ fd.ps, Nm p ∧ ¬NmL p) ∧ Src fd.body
noncomputable def PNames (P : Tops) : Prop := ∀ x, Nm x → P x = none
/-! a name's thunk may be worked out ahead -/
class inductive RT (P : Tops) : Thing → Thing → Prop
  | no : RT P .no .no
  | int {i} : RT P (.int i) (.int i)
  | th {t ρ ρ2} : (∀ x, RT P (ρ x) (ρ2 x)) → RT P (.th t ρ) (.th t ρ2)
  | val {t ρ w c} : Ev P t ρ (some w) c → RT P (.th t ρ) (.int w)
noncomputable def RR (P : Tops) (ρ ρ2 : Rho) : Prop := ∀ x, RT P (ρ x) (ρ2 x)
theorem RT.rfl {P : Tops} : ∀ {θ : Thing}, RT P θ θ
  | .no => .no
  | .int _ => .int
  | .th _ _ => .th fun _ => RT.rfl
theorem RR.refl {P : Tops} {ρ : Rho} : RR P ρ ρ := fun _ => .rfl
theorem RR.set {P : Tops} {ρ ρ2 : Rho} (h : RR P ρ ρ2) {x : N} {θ θ2 : Thing} (k : RT P θ θ2) : RR P (setR ρ x θ) (setR ρ2 x θ2) := fun y => by
  by_cases e : y = x
  · subst e; rw [setR_same, setR_same]; exact k
  · rw [setR_ne e, setR_ne e]; exact h y
theorem Ev.ahead {P : Tops} {t ρ r c} (h : Ev P t ρ r c) : ∀ {ρ2}, RR P ρ ρ2 → ∃ c2, c2 ≤ c ∧ Ev P t ρ2 r c2 := by
  induction h with
  | lit => exact fun _ => ⟨_, Nat.le_refl _, .lit⟩
  | @varI x i ρ e =>
    intro ρ2 k; have := k x; rw [e] at this
    generalize h2 : ρ2 x = θ at this
    cases this; exact ⟨_, Nat.le_refl _, .varI h2⟩
  | @varT x t ρ ρ' r c e h ih =>
    intro ρ2 k; have := k x; rw [e] at this
    generalize h2 : ρ2 x = θ at this
    cases this with
    | th q => obtain ⟨c2, l, q⟩ := ih q; exact ⟨_, Nat.succ_le_succ l, .varT h2 q⟩
    | val q => obtain ⟨rfl, _⟩ := h.det q; exact ⟨1, by exact Nat.le_of_ble_eq_true rfl, .varI h2⟩
  | err => exact fun _ => ⟨_, Nat.le_refl _, .err⟩
  | addE _ ih => intro ρ2 k; obtain ⟨c2, l, q⟩ := ih k; exact ⟨_, by exact Nat.lt_succ_of_le (by assumption), .addE q⟩
  | addF _ _ ih ih2 => intro ρ2 k; obtain ⟨c2, l, q⟩ := ih k; obtain ⟨c3, l3, q3⟩ := ih2 k; exact ⟨c2 + c3 + 1, by exact Nat.succ_le_succ (Nat.add_le_add (by assumption) (by assumption)), .addF q q3⟩
  | add _ _ ih ih2 => intro ρ2 k; obtain ⟨c2, l, q⟩ := ih k; obtain ⟨c3, l3, q3⟩ := ih2 k; exact ⟨c2 + c3 + 1, by exact Nat.succ_le_succ (Nat.add_le_add (by assumption) (by assumption)), .add q q3⟩
  | caseE _ ih => intro ρ2 k; obtain ⟨c2, l, q⟩ := ih k; exact ⟨_, by exact Nat.lt_succ_of_le (by assumption), .caseE q⟩
  | caseA _ _ ih ih2 => intro ρ2 k; obtain ⟨c2, l, q⟩ := ih k; obtain ⟨c3, l3, q3⟩ := ih2 (k.set .int); exact ⟨c2 + c3 + 1, by exact Nat.succ_le_succ (Nat.add_le_add (by assumption) (by assumption)), .caseA q q3⟩
  | caseO _ n _ ih ih2 => intro ρ2 k; obtain ⟨c2, l, q⟩ := ih k; obtain ⟨c3, l3, q3⟩ := ih2 (k.set .int); exact ⟨c2 + c3 + 1, by exact Nat.succ_le_succ (Nat.add_le_add (by assumption) (by assumption)), .caseO q n q3⟩
  | seqE _ ih => intro ρ2 k; obtain ⟨c2, l, q⟩ := ih k; exact ⟨_, by exact Nat.lt_succ_of_le (by assumption), .seqE q⟩
  | seq _ _ ih ih2 => intro ρ2 k; obtain ⟨c2, l, q⟩ := ih k; obtain ⟨c3, l3, q3⟩ := ih2 (k.set .int); exact ⟨c2 + c3 + 1, by exact Nat.succ_le_succ (Nat.add_le_add (by assumption) (by assumption)), .seq q q3⟩
  | lt _ ih => intro ρ2 k; obtain ⟨c2, l, q⟩ := ih (k.set (.th k)); exact ⟨_, by exact Nat.lt_succ_of_le (by assumption), .lt q⟩
  | ap1 e _ ih => intro ρ2 k; obtain ⟨c2, l, q⟩ := ih (RR.refl.set (.th k)); exact ⟨_, by exact Nat.lt_succ_of_le (by assumption), .ap1 e q⟩
  | ap2 e _ ih => intro ρ2 k; obtain ⟨c2, l, q⟩ := ih ((RR.refl.set (.th k)).set (.th k)); exact ⟨_, by exact Nat.lt_succ_of_le (by assumption), .ap2 e q⟩
/-! what is needed is worked out -/
theorem both_some {a b : Nd} {l : List N} (h : both a b = some l) : ∃ x y, a = some x ∧ b = some y ∧ ∀ z, z ∈ l ↔ z ∈ x ∨ z ∈ y := by
  cases a with
  | none => cases h
  | some x =>
    cases b with
    | none => cases h
    | some y => cases h; exact ⟨x, y, rfl, rfl, fun z => mem_joinL⟩
theorem both_none {a b : Nd} (h : both a b = none) : a = none ∨ b = none := by
  cases a with
  | none => exact .inl rfl
  | some x =>
    cases b with
    | none => exact .inr rfl
    | some y => cases h
theorem without_some {a : Nd} {xs l : List N} (h : without a xs = some l) : ∃ m, a = some m ∧ ∀ z, z ∈ l ↔ z ∈ m ∧ z ∉ xs := by
  cases a with
  | none => cases h
  | some m => cases h; exact ⟨m, rfl, fun z => by simp⟩
theorem without_none {a : Nd} {xs : List N} (h : without a xs = none) : a = none := by
  cases a with
  | none => rfl
  | some m => cases h
theorem either_some {a b : Nd} {l : List N} (h : either2 a b = some l) {z : N} (hz : z ∈ l) : (∀ m, a = some m → z ∈ m) ∧ ∀ m, b = some m → z ∈ m := by
  cases a with
  | none => exact ⟨nofun, fun m e => by rw [either2, e] at h; cases h; exact hz⟩
  | some x =>
    cases b with
    | none => cases h; exact ⟨fun m e => by cases e; exact hz, nofun⟩
    | some y => cases h; simp at hz; exact ⟨fun m e => by cases e; exact hz.1, fun m e => by cases e; exact hz.2⟩
theorem either_none {a b : Nd} (h : either2 a b = none) : a = none ∧ b = none := by
  cases a with
  | none => exact ⟨rfl, h⟩
  | some x => cases b <;> cases h
noncomputable def Save (P : Tops) (x : N) (ρ ρ2 : Rho) (s : Nat) : Prop := ∀ w c1, Ev P (.var x) ρ (some w) c1 → ∃ c2, Ev P (.var x) ρ2 (some w) c2 ∧ c2 + s ≤ c1
/-- the name is worked out within e: and what it saves is saved -/
noncomputable def Hit (P : Tops) (e : Tm) (ρ : Rho) (v : Int) (T : Nat) (x : N) : Prop :=
  (∃ w c, Ev P (.var x) ρ (some w) c ∧ c ≤ T) ∧ ∀ ρ2 s, RR P ρ ρ2 → Save P x ρ ρ2 s → ∃ T2, Ev P e ρ2 (some v) T2 ∧ T2 + s ≤ T
theorem var_congr {P : Tops} {x : N} {ρ ρ2 : Rho} {r c} (e : ρ2 x = ρ x) (h : Ev P (.var x) ρ r c) : Ev P (.var x) ρ2 r c := by
  replace h := h.invVar; induction h with
  | varI k => exact .varI (e.trans k)
  | varT k q => exact .varT (e.trans k) q
theorem Save.set {P : Tops} {x y : N} {ρ ρ2 : Rho} {s : Nat} {θ θ2 : Thing} (h : Save P x ρ ρ2 s) (n : x ≠ y) : Save P x (setR ρ y θ) (setR ρ2 y θ2) s := fun w c1 k => by
  obtain ⟨c2, q, l⟩ := h w c1 (var_congr (setR_ne n).symm k)
  exact ⟨c2, var_congr (setR_ne n) q, l⟩
/-- a thunk for a parameter saves what its term saves -/
theorem save_th {P : Tops} {x : N} {ρ ρ2 : Rho} {s : Nat} {t : Tm} {ρa ρb : Rho} (e : ρ x = .th t ρa) (e2 : ρ2 x = .th t ρb) (h : ∀ w c1, Ev P t ρa (some w) c1 → ∃ c2, Ev P t ρb (some w) c2 ∧ c2 + s ≤ c1) : Save P x ρ ρ2 s := fun w c1 k => by
  replace k := k.valVar; induction k with
  | varI k => rw [e] at k; cases k
  | varT k q => rw [e] at k; cases k; obtain ⟨c2, q2, l⟩ := h _ _ q; exact ⟨_, .varT e2 q2, by exact ca4 (by assumption)⟩
theorem zipN_none : ∀ {fs : List Bool} {ns : List Nd} {acc : Nd}, zipN fs ns acc = none → acc = none ∨ ∃ i : Nat, fs[i]? = some true ∧ ns[i]? = some none
  | [], _, _, h => .inl (by simpa [zipN] using h)
  | _ :: _, [], _, h => .inl (by simpa [zipN] using h)
  | fl :: fs, n :: ns, acc, h => by
    rw [zipN] at h
    rcases zipN_none h with h | ⟨i, h1, h2⟩
    · cases fl
      · exact .inl h
      · rcases both_none h with h | h
        · exact .inl h
        · exact .inr ⟨0, rfl, by rw [h]; rfl⟩
    · exact .inr ⟨i + 1, h1, h2⟩
theorem zipN_some : ∀ {fs : List Bool} {ns : List Nd} {acc : Nd} {l : List N}, zipN fs ns acc = some l → ∃ m, acc = some m ∧ ∀ z ∈ l, z ∈ m ∨ ∃ (i : Nat) (k : List N), fs[i]? = some true ∧ ns[i]? = some (some k) ∧ z ∈ k
  | [], _, _, l, h => ⟨l, by simpa [zipN] using h, fun z hz => .inl hz⟩
  | _ :: _, [], _, l, h => ⟨l, by simpa [zipN] using h, fun z hz => .inl hz⟩
  | fl :: fs, n :: ns, acc, l, h => by
    rw [zipN] at h
    obtain ⟨m, hm, q⟩ := zipN_some h
    cases fl
    · exact ⟨m, hm, fun z hz => (q z hz).imp id fun ⟨i, k, h1, h2, h3⟩ => ⟨i + 1, k, h1, h2, h3⟩⟩
    · obtain ⟨a, b, ha, hb, hab⟩ := both_some hm
      refine ⟨a, ha, fun z hz => ?_⟩
      rcases q z hz with h | ⟨i, k, h1, h2, h3⟩
      · rcases (hab z).mp h with h | h
        · exact .inl h
        · exact .inr ⟨0, b, rfl, by rw [hb]; rfl, h⟩
      · exact .inr ⟨i + 1, k, h1, h2, h3⟩
theorem sig_flag {S : Sgs} {fd : Fd} {s : Sg} (h : SameSg s (sigOf S fd)) {l : List N} (hn : need S fd.body = some l) {i : Nat} (hi : s.flags[i]? = some true) : ∃ p, fd.ps[i]? = some p ∧ p ∈ l := by
  have h1 := h.1
  unfold sigOf at h1; rw [hn] at h1
  rw [h1] at hi
  simp only [List.getElem?_map, Option.map_eq_some_iff] at hi
  obtain ⟨p, hp, hq⟩ := hi
  exact ⟨p, hp, by simpa using hq⟩
theorem sig_free {S : Sgs} {fd : Fd} {s : Sg} (h : SameSg s (sigOf S fd)) {l : List N} (hn : need S fd.body = some l) {x : N} (hx : x ∈ s.free) : x ∈ l ∧ x ∉ fd.ps := by
  have h1 := (h.2.1 x).mp hx
  unfold sigOf at h1; rw [hn] at h1
  simpa using h1
theorem sig_div {S : Sgs} {fd : Fd} {s : Sg} (h : SameSg s (sigOf S fd)) {l : List N} (hn : need S fd.body = some l) : s.div = false := by
  have h1 := h.2.2
  unfold sigOf at h1; rw [hn] at h1; exact h1
theorem sig_len {S : Sgs} {fd : Fd} {s : Sg} (h : SameSg s (sigOf S fd)) : s.flags.length = fd.ps.length := by
  have h1 := h.1
  unfold sigOf at h1
  split at h1 <;> rw [h1] <;> simp
section
variable {P : Tops} {S : Sgs} (hC : Cons P S) (hG : PGood P) (hN : PNames P)
include hC hG hN
/-- one call, its parameters' thunks in hand -/
theorem hit_call {f : N} {fd : Fd} (hf : P f = some fd) {as : List Tm} {ρ : Rho} {ρb : Rho → Rho} {v : Int} {Tb : Nat} (hlen : as.length = fd.ps.length) {l : List N}
    (hb0 : ∀ ρ' : Rho, ∀ x, (∀ i : Nat, fd.ps[i]? ≠ some x) → ρb ρ' x = .no)
    (hb1 : ∀ ρ' : Rho, ∀ (i : Nat) (p : N), fd.ps[i]? = some p → ∃ a, as[i]? = some a ∧ ρb ρ' p = .th a ρ')
    (ihb : need S fd.body ≠ none ∧ ∀ l, need S fd.body = some l → ∀ x ∈ l, P x = none → Hit P fd.body (ρb ρ) v Tb x)
    (iha : ∀ a ∈ as, ∀ w c, c < Tb → Ev P a ρ (some w) c → need S a ≠ none ∧ ∀ l, need S a = some l → ∀ x ∈ l, P x = none → Hit P a ρ w c x)
    (hb2 : ∀ ρ2, RR P ρ ρ2 → RR P (ρb ρ) (ρb ρ2)) :
    callN (S f) f (as.map (need S)) ≠ none ∧ ∀ l, callN (S f) f (as.map (need S)) = some l → ∀ x ∈ l, P x = none →
      (∃ w c, Ev P (.var x) ρ (some w) c ∧ c ≤ Tb) ∧ ∀ ρ2 s, RR P ρ ρ2 → Save P x ρ ρ2 s → ∃ T2, Ev P fd.body (ρb ρ2) (some v) T2 ∧ T2 + s ≤ Tb := by
  rcases hC f with ⟨h, _⟩ | ⟨fd', s, h1, h2, h3⟩
  · rw [hf] at h; cases h
  rw [hf] at h1; cases h1
  obtain ⟨hn, ihb⟩ := ihb
  obtain ⟨lb, hlb⟩ : ∃ lb, need S fd.body = some lb := by
    cases q : need S fd.body with
    | none => exact absurd q hn
    | some lb => exact ⟨lb, rfl⟩
  have hlen2 : ¬(as.map (need S)).length < s.flags.length := by rw [sig_len h3, List.length_map, hlen]; lia
  have hdiv := sig_div h3 hlb
  have step : ∀ i : Nat, s.flags[i]? = some true → ∃ a p w c, as[i]? = some a ∧ fd.ps[i]? = some p ∧ p ∈ lb ∧ P p = none ∧ Ev P a ρ (some w) c ∧ c < Tb := by
    intro i hi
    obtain ⟨p, hp, hpl⟩ := sig_flag h3 hlb hi
    obtain ⟨a, ha, he⟩ := hb1 ρ i p hp
    have hpn : P p = none := hN p ((hG f fd hf).2.1 p (List.mem_of_getElem? hp)).1
    obtain ⟨⟨w, c, hw, hc⟩, _⟩ := ihb lb hlb p hpl hpn
    replace hw := hw.valVar; induction hw with
    | varI k => rw [he] at k; cases k
    | @varT _ _ w _ k q => rw [he] at k; cases k; exact ⟨a, p, w, _, ha, hp, hpl, hpn, q, by exact by assumption⟩
  have two : ∀ (i : Nat) (k : Nd), s.flags[i]? = some true → (as.map (need S))[i]? = some k → k ≠ none ∧ ∀ l, k = some l → ∀ x ∈ l, P x = none → (∃ w c, Ev P (.var x) ρ (some w) c ∧ c ≤ Tb) ∧ ∀ ρ2 s, RR P ρ ρ2 → Save P x ρ ρ2 s → ∃ T2, Ev P fd.body (ρb ρ2) (some v) T2 ∧ T2 + s ≤ Tb := by
    intro i k hi hk
    obtain ⟨a, p, w, c, ha, hp, hpl, hpn, hw, hc⟩ := step i hi
    rw [List.getElem?_map, ha] at hk
    cases hk
    obtain ⟨ia, ib⟩ := iha a (List.mem_of_getElem? ha) w c hc hw
    refine ⟨ia, fun l hl x hx hxn => ?_⟩
    obtain ⟨⟨w', c', hw', hc'⟩, sv⟩ := ib l hl x hx hxn
    refine ⟨⟨w', c', hw', by lia⟩, fun ρ2 s hr hs => ?_⟩
    refine (ihb lb hlb p hpl hpn).2 (ρb ρ2) s (hb2 ρ2 hr) ?_
    obtain ⟨a1, ha1, he1⟩ := hb1 ρ i p hp
    obtain ⟨a2, ha2, he2⟩ := hb1 ρ2 i p hp
    rw [ha] at ha1 ha2; cases ha1; cases ha2
    refine save_th he1 he2 fun w1 c1 q => ?_
    obtain ⟨z, rfl⟩ := hw.det q
    cases z
    exact sv ρ2 s hr hs
  unfold callN
  rw [h2]
  dsimp only
  rw [if_neg hlen2, hdiv, if_neg (by decide)]
  constructor
  · intro z
    rcases zipN_none z with z | ⟨i, hi, hk⟩
    · cases z
    · exact (two i none hi hk).1 rfl
  · intro l hl x hx hxn
    obtain ⟨m, hm, q⟩ := zipN_some hl
    rcases q x hx with h | ⟨i, k, hi, hk, hxk⟩
    · obtain ⟨x1, y1, e1, e2, hxy⟩ := both_some hm
      cases e1; cases e2
      rcases (hxy x).mp h with h | h
      · simp at h; subst h; rw [hf] at hxn; cases hxn
      · obtain ⟨hx1, hx2⟩ := sig_free h3 hlb h
        obtain ⟨⟨w, c, hw, _⟩, _⟩ := ihb lb hlb x hx1 hxn
        have := hb0 ρ x fun i q => hx2 (List.mem_of_getElem? q)
        replace hw := hw.valVar; induction hw with
        | varI k => rw [this] at k; cases k
        | varT k _ => rw [this] at k; cases k
    · exact (two i _ hi hk).2 k rfl x hxk hxn
theorem need_ok : ∀ T e ρ v, Src e → Ev P e ρ (some v) T → need S e ≠ none ∧ ∀ l, need S e = some l → ∀ x ∈ l, P x = none → Hit P e ρ v T x := by
  intro T
  induction T using Nat.strongRecOn with
  | ind T ih =>
    intro e ρ v hs h
    cases e with
    | lit i =>
      replace h := h.valLit; induction h with
      | lit => exact ⟨by simp [need], fun l hl x hx => by simp [need] at hl; subst hl; cases hx⟩
    | var x =>
      replace h := h.valVar; induction h with
      | @varI i e =>
        refine ⟨by simp [need], fun l hl y hy hn => ?_⟩
        simp only [need, Option.some.injEq] at hl; subst hl; simp only [List.mem_singleton] at hy; subst hy
        exact ⟨⟨_, _, .varI e, Nat.le_refl _⟩, fun ρ2 s hr hv => hv _ _ (.varI e)⟩
      | @varT t1 ρ1 v c e k =>
        refine ⟨by simp [need], fun l hl y hy hn => ?_⟩
        simp only [need, Option.some.injEq] at hl; subst hl; simp only [List.mem_singleton] at hy; subst hy
        exact ⟨⟨_, _, .varT e k, Nat.le_refl _⟩, fun ρ2 s hr hv => hv _ _ (.varT e k)⟩
    | err => exact h.invS.elim
    | add a b =>
      replace h := h.valAdd; induction h with
      | @add i j c d ka kb =>
        obtain ⟨na, ia⟩ := ih c (by exact lt1) a ρ i hs.1 ka
        obtain ⟨nb, ib⟩ := ih d (by have := ka.pos; lia) b ρ j hs.2 kb
        rw [need]
        refine ⟨fun z => ?_, fun l hl x hx hn => ?_⟩
        · rcases both_none z with z | z
          · rcases both_none z with z | z
            · cases z
            · exact na z
          · exact nb z
        · obtain ⟨la, lb, ha, hb, hab⟩ := both_some hl
          obtain ⟨l0, la', h0, ha', hab'⟩ := both_some ha
          cases h0
          rcases (hab x).mp hx with hx | hx
          · rcases (hab' x).mp hx with hx | hx
            · cases hx
            obtain ⟨⟨w, c', hw, hc'⟩, sv⟩ := ia la' ha' x hx hn
            refine ⟨⟨w, c', hw, by exact ca1 (by assumption)⟩, fun ρ2 s hr hv => ?_⟩
            obtain ⟨T2, q, hT⟩ := sv ρ2 s hr hv
            obtain ⟨T3, hT3, q3⟩ := kb.ahead hr
            exact ⟨_, .add q q3, by exact ca5 (by assumption) (by assumption)⟩
          · obtain ⟨⟨w, c', hw, hc'⟩, sv⟩ := ib lb hb x hx hn
            refine ⟨⟨w, c', hw, by exact ca2 (by assumption)⟩, fun ρ2 s hr hv => ?_⟩
            obtain ⟨T2, q, hT⟩ := sv ρ2 s hr hv
            obtain ⟨T3, hT3, q3⟩ := ka.ahead hr
            exact ⟨_, .add q3 q, by exact ca6 (by assumption) (by assumption)⟩
    | case e y k a o =>
      replace h := h.valCase; induction h with
      | @caseA c d v kv ka =>
        obtain ⟨nv, iv⟩ := ih c (by exact lt1) e ρ k hs.1 kv
        obtain ⟨na, ia⟩ := ih d (by have := kv.pos; lia) a _ v hs.2.2.1 ka
        rw [need]
        refine ⟨fun z => ?_, fun l hl x hx hn => ?_⟩
        · rcases both_none z with z | z
          · exact nv z
          · exact na (without_none (either_none z).1)
        · obtain ⟨la, lb, ha, hb, hab⟩ := both_some hl
          rcases (hab x).mp hx with hx | hx
          · obtain ⟨⟨w, c', hw, hc'⟩, sv⟩ := iv la ha x hx hn
            refine ⟨⟨w, c', hw, by exact ca1 (by assumption)⟩, fun ρ2 s hr hv => ?_⟩
            obtain ⟨T2, q, hT⟩ := sv ρ2 s hr hv
            obtain ⟨T3, hT3, q3⟩ := ka.ahead (hr.set (x := y) .int)
            exact ⟨_, .caseA q q3, by exact ca5 (by assumption) (by assumption)⟩
          · obtain ⟨m, hm⟩ : ∃ m, need S a = some m := by
              cases q : need S a with
              | none => exact absurd q na
              | some m => exact ⟨m, rfl⟩
            have hx2 := (either_some hb hx).1 _ (by rw [hm]; rfl)
            simp at hx2
            obtain ⟨⟨w, c', hw, hc'⟩, sv⟩ := ia m hm x hx2.1 hn
            refine ⟨⟨w, c', var_congr (setR_ne hx2.2).symm hw, by exact ca2 (by assumption)⟩, fun ρ2 s hr hv => ?_⟩
            obtain ⟨T2, q, hT⟩ := sv _ s (hr.set (x := y) .int) (hv.set hx2.2)
            obtain ⟨T3, hT3, q3⟩ := kv.ahead hr
            exact ⟨_, .caseA q3 q, by exact ca6 (by assumption) (by assumption)⟩
      | @caseO i c d v kv hne ka =>
        obtain ⟨nv, iv⟩ := ih c (by exact lt1) e ρ i hs.1 kv
        obtain ⟨na, ia⟩ := ih d (by have := kv.pos; lia) o _ v hs.2.2.2 ka
        rw [need]
        refine ⟨fun z => ?_, fun l hl x hx hn => ?_⟩
        · rcases both_none z with z | z
          · exact nv z
          · exact na (without_none (either_none z).2)
        · obtain ⟨la, lb, ha, hb, hab⟩ := both_some hl
          rcases (hab x).mp hx with hx | hx
          · obtain ⟨⟨w, c', hw, hc'⟩, sv⟩ := iv la ha x hx hn
            refine ⟨⟨w, c', hw, by exact ca1 (by assumption)⟩, fun ρ2 s hr hv => ?_⟩
            obtain ⟨T2, q, hT⟩ := sv ρ2 s hr hv
            obtain ⟨T3, hT3, q3⟩ := ka.ahead (hr.set (x := y) .int)
            exact ⟨_, .caseO q hne q3, by exact ca5 (by assumption) (by assumption)⟩
          · obtain ⟨m, hm⟩ : ∃ m, need S o = some m := by
              cases q : need S o with
              | none => exact absurd q na
              | some m => exact ⟨m, rfl⟩
            have hx2 := (either_some hb hx).2 _ (by rw [hm]; rfl)
            simp at hx2
            obtain ⟨⟨w, c', hw, hc'⟩, sv⟩ := ia m hm x hx2.1 hn
            refine ⟨⟨w, c', var_congr (setR_ne hx2.2).symm hw, by exact ca2 (by assumption)⟩, fun ρ2 s hr hv => ?_⟩
            obtain ⟨T2, q, hT⟩ := sv _ s (hr.set (x := y) .int) (hv.set hx2.2)
            obtain ⟨T3, hT3, q3⟩ := kv.ahead hr
            exact ⟨_, .caseO q3 hne q, by exact ca6 (by assumption) (by assumption)⟩
    | seq _ _ _ =>
      replace h := h.valSeq; induction h with
      | seq _ _ => exact hs.elim
    | lt y e b =>
      replace h := h.valLt; induction h with
      | @lt c v kb =>
        obtain ⟨nb, ib⟩ := ih c (by exact Nat.lt_succ_self _) b _ v hs.2.2.2 kb
        obtain ⟨m, hm⟩ : ∃ m, need S b = some m := by
          cases q : need S b with
          | none => exact absurd q nb
          | some m => exact ⟨m, rfl⟩
        have hyn : P y = none := hN y hs.2.1
        have inner : ∀ hy : y ∈ m, ∃ w c', c' < c ∧ Ev P e ρ (some w) c' ∧ need S e ≠ none ∧ ∀ l, need S e = some l → ∀ x ∈ l, P x = none → Hit P e ρ w c' x := by
          intro hy
          obtain ⟨⟨w, c', hw, hc'⟩, _⟩ := ib m hm y hy hyn
          replace hw := hw.valVar; induction hw with
          | varI k => rw [setR_same] at k; cases k
          | @varT _ _ w _ k q =>
            rw [setR_same] at k; cases k
            exact ⟨w, _, by exact by assumption, q, ih _ (by exact Nat.le_succ_of_le (by assumption)) e ρ w hs.1 q⟩
        rw [need, hm]
        unfold letN
        dsimp only
        by_cases hy : y ∈ m
        · obtain ⟨w, c', hc', hw, hn1, hn2⟩ := inner hy
          rw [if_pos hy]
          refine ⟨fun z => ?_, fun l hl x hx hn => ?_⟩
          · rcases both_none (without_none z) with z | z
            · cases z
            · exact hn1 z
          · obtain ⟨m2, hm2, hh⟩ := without_some hl
            obtain ⟨hx, hxy⟩ := (hh x).mp hx
            simp at hxy
            obtain ⟨la, lb, ha, hb, hab⟩ := both_some hm2
            cases ha
            rcases (hab x).mp hx with hx | hx
            · obtain ⟨⟨w, c', hw, hc'⟩, sv⟩ := ib m hm x hx hn
              refine ⟨⟨w, c', var_congr (setR_ne hxy).symm hw, by exact Nat.le_succ_of_le (by assumption)⟩, fun ρ2 s hr hv => ?_⟩
              obtain ⟨T2, q, hT⟩ := sv _ s (hr.set (x := y) (.th hr)) (hv.set hxy)
              exact ⟨_, .lt q, by exact ca4 (by assumption)⟩
            · obtain ⟨⟨w2, c2, hw2, hc2⟩, sv2⟩ := hn2 lb hb x hx hn
              refine ⟨⟨w2, c2, hw2, by lia⟩, fun ρ2 s hr hv => ?_⟩
              obtain ⟨_, sv⟩ := ib m hm y hy hyn
              obtain ⟨T2, q, hT⟩ := sv (setR ρ2 y (.th e ρ2)) s (hr.set (x := y) (.th hr)) (save_th setR_same setR_same fun w1 c1 q => by
                obtain ⟨z, rfl⟩ := hw.det q
                cases z
                exact sv2 ρ2 s hr hv)
              exact ⟨_, .lt q, by exact ca4 (by assumption)⟩
        · rw [if_neg hy]
          refine ⟨by simp [without], fun l hl x hx hn => ?_⟩
          obtain ⟨m2, hm2, hh⟩ := without_some hl
          cases hm2
          obtain ⟨hx, hxy⟩ := (hh x).mp hx
          simp at hxy
          obtain ⟨⟨w, c', hw, hc'⟩, sv⟩ := ib m hm x hx hn
          refine ⟨⟨w, c', var_congr (setR_ne hxy).symm hw, by exact Nat.le_succ_of_le (by assumption)⟩, fun ρ2 s hr hv => ?_⟩
          obtain ⟨T2, q, hT⟩ := sv _ s (hr.set (x := y) (.th hr)) (hv.set hxy)
          exact ⟨_, .lt q, by exact ca4 (by assumption)⟩
    | ap1 f a =>
      replace h := h.valAp1; induction h with
      | @ap1 p b c v hf kb =>
        have hg := hG f _ hf
        obtain ⟨h1, h2⟩ := hit_call hC hG hN hf (as := [a]) (ρ := ρ) (ρb := fun ρ' => setR rho0 p (.th a ρ')) (v := v) (Tb := c) rfl (l := [])
          (fun ρ' x hx => by rw [setR_ne (fun z => hx 0 (by rw [z]; rfl))]; rfl)
          (fun ρ' i q hq => by
            match i, hq with
            | 0, hq => cases hq; exact ⟨a, rfl, setR_same⟩)
          (ih c (by exact Nat.lt_succ_self _) b _ v hg.2.2 kb)
          (fun a' ha w c' hc' k => by simp at ha; subst ha; exact ih c' (by exact Nat.le_succ_of_le (by assumption)) _ ρ w hs k)
          (fun ρ2 hr => RR.refl.set (.th hr))
        rw [need]
        refine ⟨h1, fun l hl x hx hn => ?_⟩
        obtain ⟨⟨w, c', hw, hc'⟩, sv⟩ := h2 l hl x hx hn
        refine ⟨⟨w, c', hw, by exact Nat.le_succ_of_le (by assumption)⟩, fun ρ2 s hr hv => ?_⟩
        obtain ⟨T2, q, hT⟩ := sv ρ2 s hr hv
        exact ⟨_, .ap1 hf q, by exact ca4 (by assumption)⟩
    | ap2 f a a' =>
      replace h := h.valAp2; induction h with
      | @ap2 p q b c v hf kb =>
        have hg := hG f _ hf
        have hpq : p ≠ q := by have := hg.1; simp at this; exact this
        obtain ⟨h1, h2⟩ := hit_call hC hG hN hf (as := [a, a']) (ρ := ρ) (ρb := fun ρ' => setR (setR rho0 p (.th a ρ')) q (.th a' ρ')) (v := v) (Tb := c) rfl (l := [])
          (fun ρ' x hx => by rw [setR_ne (fun z => hx 1 (by rw [z]; rfl)), setR_ne (fun z => hx 0 (by rw [z]; rfl))]; rfl)
          (fun ρ' i z hq => by
            match i, hq with
            | 0, hq => cases hq; exact ⟨a, rfl, by rw [setR_ne hpq, setR_same]⟩
            | 1, hq => cases hq; exact ⟨a', rfl, setR_same⟩)
          (ih c (by exact Nat.lt_succ_self _) b _ v hg.2.2 kb)
          (fun a'' ha w c' hc' k => by
            simp at ha
            rcases ha with rfl | rfl
            · exact ih c' (by exact Nat.le_succ_of_le (by assumption)) _ ρ w hs.1 k
            · exact ih c' (by exact Nat.le_succ_of_le (by assumption)) _ ρ w hs.2 k)
          (fun ρ2 hr => (RR.refl.set (.th hr)).set (.th hr))
        rw [need]
        refine ⟨h1, fun l hl x hx hn => ?_⟩
        obtain ⟨⟨w, c', hw, hc'⟩, sv⟩ := h2 l hl x hx hn
        refine ⟨⟨w, c', hw, by exact Nat.le_succ_of_le (by assumption)⟩, fun ρ2 s hr hv => ?_⟩
        obtain ⟨T2, q, hT⟩ := sv ρ2 s hr hv
        exact ⟨_, .ap2 hf q, by exact ca4 (by assumption)⟩
end
end Mine
end
section
open PySem PySem.W PyProof.Rows PySem.Calls
set_option maxRecDepth 100000
set_option maxHeartbeats 4000000
namespace Mine
/-- told as surely worked out -/
noncomputable def Flag (S : Sgs) (f : N) (i : Nat) : Prop := ∃ s, S f = some s ∧ s.div = false ∧ s.flags[i]? = some true
/-- t' is what forced may make of t -/
class inductive Fo (S : Sgs) : Tm → Tm → Prop
  | var {x} : Fo S (.var x) (.var x)
  | lit {i} : Fo S (.lit i) (.lit i)
  | err : Fo S .err .err
  | add {a a' b b'} : Fo S a a' → Fo S b b' → Fo S (.add a b) (.add a' b')
  | case {v v' x k a a' o o'} : Fo S v v' → Fo S a a' → Fo S o o' → Fo S (.case v x k a o) (.case v' x k a' o')
  | lt {x v v' b b'} : Fo S v v' → Fo S b b' → Fo S (.lt x v b) (.lt x v' b')
  | ltS {x v v' b b' l} : need S b = some l → x ∈ l → Fo S v v' → Fo S b b' → Fo S (.lt x v b) (.seq v' x b')
  | ap1 {f a a'} : Fo S a a' → Fo S (.ap1 f a) (.ap1 f a')
  | ap1S {f a a' n} : Flag S f 0 → NmA n → Fo S a a' → Fo S (.ap1 f a) (.seq a' n (.ap1 f (.var n)))
  | ap2 {f a a' b b'} : Fo S a a' → Fo S b b' → Fo S (.ap2 f a b) (.ap2 f a' b')
  | ap2L {f a a' b b' n} : Flag S f 0 → NmA n → Fo S a a' → Fo S b b' → Fo S (.ap2 f a b) (.seq a' n (.ap2 f (.var n) b'))
  | ap2R {f a a' b b' n} : Flag S f 1 → NmA n → Fo S a a' → Fo S b b' → Fo S (.ap2 f a b) (.seq b' n (.ap2 f a' (.var n)))
  | ap2B {f a a' b b' n n'} : Flag S f 0 → Flag S f 1 → NmA n → NmA n' → n ≠ n' → Fo S a a' → Fo S b b' → Fo S (.ap2 f a b) (.seq a' n (.seq b' n' (.ap2 f (.var n) (.var n'))))
inductive FoVar (S : Sgs) (x : N) : Tm → Prop
  | var : FoVar S x (.var x)
inductive FoLit (S : Sgs) (i : Int) : Tm → Prop
  | lit : FoLit S i (.lit i)
inductive FoErr (S : Sgs) : Tm → Prop
  | err : FoErr S .err
inductive FoAdd (S : Sgs) (a : Tm) (b : Tm) : Tm → Prop
  | add {a' b'} : Fo S a a' → Fo S b b' → FoAdd S a b (.add a' b')
inductive FoCase (S : Sgs) (v : Tm) (x : N) (k : Int) (a : Tm) (o : Tm) : Tm → Prop
  | case {v' a' o'} : Fo S v v' → Fo S a a' → Fo S o o' → FoCase S v x k a o (.case v' x k a' o')
inductive FoLt (S : Sgs) (x : N) (v : Tm) (b : Tm) : Tm → Prop
  | lt {v' b'} : Fo S v v' → Fo S b b' → FoLt S x v b (.lt x v' b')
  | ltS {v' b' l} : need S b = some l → x ∈ l → Fo S v v' → Fo S b b' → FoLt S x v b (.seq v' x b')
inductive FoAp1 (S : Sgs) (f : N) (a : Tm) : Tm → Prop
  | ap1 {a'} : Fo S a a' → FoAp1 S f a (.ap1 f a')
  | ap1S {a' n} : Flag S f 0 → NmA n → Fo S a a' → FoAp1 S f a (.seq a' n (.ap1 f (.var n)))
inductive FoAp2 (S : Sgs) (f : N) (a : Tm) (b : Tm) : Tm → Prop
  | ap2 {a' b'} : Fo S a a' → Fo S b b' → FoAp2 S f a b (.ap2 f a' b')
  | ap2L {a' b' n} : Flag S f 0 → NmA n → Fo S a a' → Fo S b b' → FoAp2 S f a b (.seq a' n (.ap2 f (.var n) b'))
  | ap2R {a' b' n} : Flag S f 1 → NmA n → Fo S a a' → Fo S b b' → FoAp2 S f a b (.seq b' n (.ap2 f a' (.var n)))
  | ap2B {a' b' n n'} : Flag S f 0 → Flag S f 1 → NmA n → NmA n' → n ≠ n' → Fo S a a' → Fo S b b' → FoAp2 S f a b (.seq a' n (.seq b' n' (.ap2 f (.var n) (.var n'))))
noncomputable def FoI (S : Sgs) : Tm → Tm → Prop
  | .var x => FoVar S x
  | .lit i => FoLit S i
  | .err => FoErr S
  | .add a b => FoAdd S a b
  | .case v x k a o => FoCase S v x k a o
  | .lt x v b => FoLt S x v b
  | .ap1 f a => FoAp1 S f a
  | .ap2 f a b => FoAp2 S f a b
  | _ => fun _ => False
theorem Fo.inv {S : Sgs} {t t'} (h : Fo S t t') : FoI S t t' := by
  induction h with
  | var => exact FoVar.var
  | lit => exact FoLit.lit
  | err => exact FoErr.err
  | add h0 h1 => exact FoAdd.add h0 h1
  | case h0 h1 h2 => exact FoCase.case h0 h1 h2
  | lt h0 h1 => exact FoLt.lt h0 h1
  | ltS h0 h1 h2 h3 => exact FoLt.ltS h0 h1 h2 h3
  | ap1 h0 => exact FoAp1.ap1 h0
  | ap1S h0 h1 h2 => exact FoAp1.ap1S h0 h1 h2
  | ap2 h0 h1 => exact FoAp2.ap2 h0 h1
  | ap2L h0 h1 h2 h3 => exact FoAp2.ap2L h0 h1 h2 h3
  | ap2R h0 h1 h2 h3 => exact FoAp2.ap2R h0 h1 h2 h3
  | ap2B h0 h1 h2 h3 h4 h5 h6 => exact FoAp2.ap2B h0 h1 h2 h3 h4 h5 h6
theorem Fo.invVar {S : Sgs} {x t'} (h : Fo S (.var x) t') : FoVar S x t' := h.inv
theorem Fo.invLit {S : Sgs} {i t'} (h : Fo S (.lit i) t') : FoLit S i t' := h.inv
theorem Fo.invAdd {S : Sgs} {a b t'} (h : Fo S (.add a b) t') : FoAdd S a b t' := h.inv
theorem Fo.invCase {S : Sgs} {v x k a o t'} (h : Fo S (.case v x k a o) t') : FoCase S v x k a o t' := h.inv
theorem Fo.invLt {S : Sgs} {x v b t'} (h : Fo S (.lt x v b) t') : FoLt S x v b t' := h.inv
theorem Fo.invAp1 {S : Sgs} {f a t'} (h : Fo S (.ap1 f a) t') : FoAp1 S f a t' := h.inv
theorem Fo.invAp2 {S : Sgs} {f a b t'} (h : Fo S (.ap2 f a b) t') : FoAp2 S f a b t' := h.inv
class inductive TE (S : Sgs) : Thing → Thing → Prop
  | no : TE S .no .no
  | int {i} : TE S (.int i) (.int i)
  | intv {i n ρ} : ρ n = .int i → TE S (.int i) (.th (.var n) ρ)
  | th {t t' ρ ρ'} : Fo S t t' → Src t → (∀ x, Nm x → TE S (ρ x) (ρ' x)) → TE S (.th t ρ) (.th t' ρ')
noncomputable def ER (S : Sgs) (ρ ρ' : Rho) : Prop := ∀ x, Nm x → TE S (ρ x) (ρ' x)
theorem ER.set {S : Sgs} {ρ ρ' : Rho} (h : ER S ρ ρ') {x : N} {θ θ' : Thing} (k : TE S θ θ') : ER S (setR ρ x θ) (setR ρ' x θ') := fun y hy => by
  by_cases e : y = x
  · subst e; rw [setR_same, setR_same]; exact k
  · rw [setR_ne e, setR_ne e]; exact h y hy
theorem ER.arg {S : Sgs} {ρ ρ' : Rho} (h : ER S ρ ρ') {n : N} (hn : NmA n) {θ : Thing} : ER S ρ (setR ρ' n θ) := fun y hy => by
  rw [setR_ne (fun z => hy.notA (by rw [z]; exact hn))]; exact h y hy
theorem ER.nil {S : Sgs} : ER S rho0 rho0 := fun _ _ => .no
/-- the two programs, def by def -/
structure PR (S : Sgs) (P P' : Tops) : Prop where
  to : ∀ f fd, P f = some fd → ∃ b', P' f = some ⟨fd.ps, b'⟩ ∧ Fo S fd.body b'
  back : ∀ f fd', P' f = some fd' → ∃ b, P f = some ⟨fd'.ps, b⟩ ∧ Fo S b fd'.body
section
variable {P P' : Tops} {S : Sgs} (hC : Cons P S) (hG : PGood P) (hN : PNames P) (hR : PR S P P')
include hC hG hN
theorem hit_flag {f : N} {fd : Fd} (hf : P f = some fd) {i : Nat} (h : Flag S f i) {ρ : Rho} {v : Int} {T : Nat} (k : Ev P fd.body ρ (some v) T) : ∃ p, fd.ps[i]? = some p ∧ Hit P fd.body ρ v T p := by
  obtain ⟨s, hs, hd, hfl⟩ := h
  rcases hC f with ⟨h, _⟩ | ⟨fd', s', h1, h2, h3⟩
  · rw [hf] at h; cases h
  rw [hf] at h1; cases h1
  rw [hs] at h2; cases h2
  have hg := hG f _ hf
  obtain ⟨h1, h2⟩ := need_ok hC hG hN T _ ρ v hg.2.2 k
  cases q : need S fd.body with
  | none => exact absurd q h1
  | some l =>
    obtain ⟨p, hp, hpl⟩ := sig_flag h3 q hfl
    exact ⟨p, hp, h2 l q p hpl (hN p (hg.2.1 p (List.mem_of_getElem? hp)).1)⟩
theorem hit_th {e : Tm} {ρ : Rho} {v : Int} {T : Nat} {x : N} (h : Hit P e ρ v T x) {t : Tm} {ρ1 : Rho} (ht : ρ x = .th t ρ1) : ∃ w c, Ev P t ρ1 (some w) c ∧ ∃ T2, Ev P e (setR ρ x (.int w)) (some v) T2 ∧ T2 + c ≤ T := by
  obtain ⟨⟨w, c, hw, _⟩, sv⟩ := h
  replace hw := hw.valVar; induction hw with
  | varI k => rw [ht] at k; cases k
  | @varT t' ρ2 w c k q =>
    rw [ht] at k; cases k
    refine ⟨w, c, q, sv _ c (fun y => ?_) fun w1 c1 z => ?_⟩
    · by_cases e : y = x
      · subst e; rw [setR_same, ht]; exact .val q
      · rw [setR_ne e]; exact .rfl
    · replace z := z.valVar; induction z with
      | varI k => rw [ht] at k; cases k
      | varT k z =>
        rw [ht] at k; cases k
        obtain ⟨e1, rfl⟩ := q.det z
        have e1 := Option.some.inj e1
        subst e1
        exact ⟨1, .varI setR_same, by lia⟩
omit hC hG hN in
theorem setR_set {ρ : Rho} {x : N} {θ θ' : Thing} : setR (setR ρ x θ) x θ' = setR ρ x θ' := by
  funext y; unfold setR; split <;> simp_all
omit hC hG hN in
theorem setR_comm {ρ : Rho} {x y : N} {θ θ' : Thing} (h : x ≠ y) : setR (setR ρ x θ) y θ' = setR (setR ρ y θ') x θ := by
  funext z; unfold setR; split <;> split <;> simp_all
include hR
theorem forth : ∀ T t ρ v t' ρ', Src t → Ev P t ρ (some v) T → Fo S t t' → ER S ρ ρ' → ∃ T', Ev P' t' ρ' (some v) T' ∧ T' + 1 ≤ 3 * T := by
  intro T
  induction T using Nat.strongRecOn with
  | ind T ih =>
    intro t ρ v t' ρ' hs h hf he
    cases t with
    | lit i =>
      replace h := h.valLit; induction h with
      | lit => replace hf := hf.invLit; induction hf; exact ⟨1, .lit, by exact Nat.le_of_ble_eq_true rfl⟩
    | var x =>
      replace h := h.valVar; induction h with
      | @varI i e =>
        replace hf := hf.invVar; induction hf
        have := he x hs
        rw [e] at this
        generalize q : ρ' x = θ at this
        cases this with
        | int => exact ⟨1, .varI q, by exact Nat.le_of_ble_eq_true rfl⟩
        | intv k => exact ⟨2, .varT q (.varI k), by exact Nat.le_of_ble_eq_true rfl⟩
      | @varT t1 ρ1 r c e k =>
        replace hf := hf.invVar; induction hf
        have := he x hs
        rw [e] at this
        generalize q : ρ' x = θ at this
        cases this with
        | th f1 s1 r1 =>
          obtain ⟨T', k', l⟩ := ih _ (by exact Nat.lt_succ_self _) _ _ _ _ _ s1 k f1 r1
          exact ⟨_, .varT q k', by lia⟩
    | err => exact h.invS.elim
    | add a b =>
      replace h := h.valAdd; induction h with
      | add ka kb =>
        replace hf := hf.invAdd; induction hf with
        | add fa fb =>
          have := ka.pos; have := kb.pos
          obtain ⟨T1, k1, l1⟩ := ih _ (by exact lt1) _ _ _ _ _ hs.1 ka fa he
          obtain ⟨T2, k2, l2⟩ := ih _ (by exact lt2) _ _ _ _ _ hs.2 kb fb he
          exact ⟨_, .add k1 k2, by lia⟩
    | case v y k a o =>
      replace h := h.valCase; induction h with
      | caseA kv ka =>
        replace hf := hf.invCase; induction hf with
        | case fv fa fo =>
          have := kv.pos; have := ka.pos
          obtain ⟨T1, k1, l1⟩ := ih _ (by exact lt1) _ _ _ _ _ hs.1 kv fv he
          obtain ⟨T2, k2, l2⟩ := ih _ (by exact lt2) _ _ _ _ _ hs.2.2.1 ka fa (he.set .int)
          exact ⟨_, .caseA k1 k2, by lia⟩
      | caseO kv n ka =>
        replace hf := hf.invCase; induction hf with
        | case fv fa fo =>
          have := kv.pos; have := ka.pos
          obtain ⟨T1, k1, l1⟩ := ih _ (by exact lt1) _ _ _ _ _ hs.1 kv fv he
          obtain ⟨T2, k2, l2⟩ := ih _ (by exact lt2) _ _ _ _ _ hs.2.2.2 ka fo (he.set .int)
          exact ⟨_, .caseO k1 n k2, by lia⟩
    | seq _ _ _ =>
      replace h := h.valSeq; induction h with
      | seq _ _ => exact hs.elim
    | lt x e b =>
      replace h := h.valLt; induction h with
      | @lt c r kb =>
        replace hf := hf.invLt; induction hf with
        | lt fv fb =>
          obtain ⟨T2, k2, l2⟩ := ih _ (by exact Nat.lt_succ_self _) _ _ _ _ _ hs.2.2.2 kb fb (he.set (x := x) (.th fv hs.1 he))
          exact ⟨_, .lt k2, by lia⟩
        | ltS hl hx fv fb =>
          obtain ⟨w, cw, hw, T2, k2, l2⟩ := hit_th hC hG hN ((need_ok hC hG hN _ _ _ _ hs.2.2.2 kb).2 _ hl x hx (hN x hs.2.1)) setR_same
          rw [setR_set] at k2
          have := hw.pos; have := k2.pos
          obtain ⟨T3, k3, l3⟩ := ih cw (by exact ca8 (by assumption)) _ _ _ _ _ hs.1 hw fv he
          obtain ⟨T4, k4, l4⟩ := ih T2 (by exact ca9 (by assumption)) _ _ _ _ _ hs.2.2.2 k2 fb (he.set .int)
          exact ⟨_, .seq k3 k4, by lia⟩
    | ap1 f a =>
      replace h := h.valAp1; induction h with
      | @ap1 p b c r hp kb =>
        obtain ⟨b', hp', fb⟩ := hR.to _ _ hp
        have hg := hG f _ hp
        replace hf := hf.invAp1; induction hf with
        | ap1 fa =>
          obtain ⟨T2, k2, l2⟩ := ih _ (by exact Nat.lt_succ_self _) _ _ _ _ _ hg.2.2 kb fb (ER.nil.set (x := p) (.th fa hs he))
          exact ⟨_, .ap1 hp' k2, by lia⟩
        | ap1S fl hn fa =>
          obtain ⟨q, hq, hit⟩ := hit_flag hC hG hN hp fl kb
          cases hq
          obtain ⟨w, cw, hw, T2, k2, l2⟩ := hit_th hC hG hN hit setR_same
          rw [setR_set] at k2
          have := hw.pos; have := k2.pos
          obtain ⟨T3, k3, l3⟩ := ih cw (by exact ca8 (by assumption)) a _ _ _ _ hs hw fa he
          obtain ⟨T4, k4, l4⟩ := ih T2 (by exact ca9 (by assumption)) _ _ _ _ _ hg.2.2 k2 fb (ER.nil.set (x := p) (.intv (n := _) setR_same))
          exact ⟨_, .seq k3 (.ap1 hp' k4), by lia⟩
    | ap2 f a a2 =>
      replace h := h.valAp2; induction h with
      | @ap2 p q b c r hp kb =>
        obtain ⟨b', hp', fb⟩ := hR.to _ _ hp
        have hg := hG f _ hp
        have hpq : p ≠ q := by have := hg.1; simp at this; exact this
        replace hf := hf.invAp2; induction hf with
        | ap2 fa fa2 =>
          obtain ⟨T2, k2, l2⟩ := ih _ (by exact Nat.lt_succ_self _) _ _ _ _ _ hg.2.2 kb fb ((ER.nil.set (x := p) (.th fa hs.1 he)).set (x := q) (.th fa2 hs.2 he))
          exact ⟨_, .ap2 hp' k2, by lia⟩
        | ap2L fl hn fa fa2 =>
          obtain ⟨z, hz, hit⟩ := hit_flag hC hG hN hp fl kb
          cases hz
          obtain ⟨w, cw, hw, T2, k2, l2⟩ := hit_th hC hG hN hit (by rw [setR_ne hpq, setR_same])
          rw [setR_comm (Ne.symm hpq), setR_set] at k2
          have := hw.pos; have := k2.pos
          obtain ⟨T3, k3, l3⟩ := ih cw (by exact ca8 (by assumption)) _ _ _ _ _ hs.1 hw fa he
          obtain ⟨T4, k4, l4⟩ := ih T2 (by exact ca9 (by assumption)) _ _ _ _ _ hg.2.2 k2 fb ((ER.nil.set (x := p) (.intv (n := _) setR_same)).set (x := q) (.th fa2 hs.2 (he.arg hn)))
          exact ⟨_, .seq k3 (.ap2 hp' k4), by lia⟩
        | ap2R fl hn fa fa2 =>
          obtain ⟨z, hz, hit⟩ := hit_flag hC hG hN hp fl kb
          cases hz
          obtain ⟨w, cw, hw, T2, k2, l2⟩ := hit_th hC hG hN hit setR_same
          rw [setR_set] at k2
          have := hw.pos; have := k2.pos
          obtain ⟨T3, k3, l3⟩ := ih cw (by exact ca8 (by assumption)) _ _ _ _ _ hs.2 hw fa2 he
          obtain ⟨T4, k4, l4⟩ := ih T2 (by exact ca9 (by assumption)) _ _ _ _ _ hg.2.2 k2 fb ((ER.nil.set (x := p) (.th fa hs.1 (he.arg hn))).set (x := q) (.intv (n := _) setR_same))
          exact ⟨_, .seq k3 (.ap2 hp' k4), by lia⟩
        | @ap2B _ _ n n' fl fl2 hn hn' hnn fa fa2 =>
          obtain ⟨z, hz, hit⟩ := hit_flag hC hG hN hp fl kb
          cases hz
          obtain ⟨w, cw, hw, T2, k2, l2⟩ := hit_th hC hG hN hit (by rw [setR_ne hpq, setR_same])
          obtain ⟨z, hz, hit2⟩ := hit_flag hC hG hN hp fl2 k2
          cases hz
          obtain ⟨w2, cw2, hw2, T3, k3, l3⟩ := hit_th hC hG hN hit2 (by rw [setR_ne (Ne.symm hpq), setR_same])
          rw [setR_comm (Ne.symm hpq), setR_set, setR_set] at k3
          have := hw.pos; have := hw2.pos; have := k3.pos
          obtain ⟨T4, k4, l4⟩ := ih cw (by exact ca8 (by assumption)) _ _ _ _ _ hs.1 hw fa he
          obtain ⟨T5, k5, l5⟩ := ih cw2 (by lia) _ _ _ _ _ hs.2 hw2 fa2 (he.arg (n := n) (θ := .int w) hn)
          obtain ⟨T6, k6, l6⟩ := ih T3 (by lia) _ _ _ _ _ hg.2.2 k3 fb ((ER.nil.set (x := p) (.intv (n := n) (ρ := setR (setR ρ' n (.int w)) n' (.int w2)) (by rw [setR_ne hnn, setR_same]))).set (x := q) (.intv (n := n') setR_same))
          exact ⟨_, .seq k4 (.seq k5 (.ap2 hp' k6)), by lia⟩
end
class inductive BE (P : Tops) (S : Sgs) : Thing → Thing → Prop
  | no : BE P S .no .no
  | int {i} : BE P S (.int i) (.int i)
  | th {t t' ρ ρ'} : Fo S t t' → Src t → (∀ x, Nm x → BE P S (ρ x) (ρ' x)) → BE P S (.th t ρ) (.th t' ρ')
  | val {t ρ w c} : Ev P t ρ (some w) c → BE P S (.th t ρ) (.int w)
  | vala {t ρ w c n ρn} : Ev P t ρ (some w) c → ρn n = .int w → BE P S (.th t ρ) (.th (.var n) ρn)
noncomputable def BR (P : Tops) (S : Sgs) (ρ ρ' : Rho) : Prop := ∀ x, Nm x → BE P S (ρ x) (ρ' x)
theorem BR.set {P : Tops} {S : Sgs} {ρ ρ' : Rho} (h : BR P S ρ ρ') {x : N} {θ θ' : Thing} (k : BE P S θ θ') : BR P S (setR ρ x θ) (setR ρ' x θ') := fun y hy => by
  by_cases e : y = x
  · subst e; rw [setR_same, setR_same]; exact k
  · rw [setR_ne e, setR_ne e]; exact h y hy
theorem BR.arg {P : Tops} {S : Sgs} {ρ ρ' : Rho} (h : BR P S ρ ρ') {n : N} (hn : NmA n) {θ : Thing} : BR P S ρ (setR ρ' n θ) := fun y hy => by
  rw [setR_ne (fun z => hy.notA (by rw [z]; exact hn))]; exact h y hy
theorem BR.nil {P : Tops} {S : Sgs} : BR P S rho0 rho0 := fun _ _ => .no
/-- what is known of the shorter ways -/
noncomputable def BackH (P P' : Tops) (S : Sgs) (T' : Nat) : Prop := ∀ {m t' ρ' v}, m < T' → Ev P' t' ρ' (some v) m → ∀ {t ρ}, Src t → Fo S t t' → BR P S ρ ρ' → ∃ T, Ev P t ρ (some v) T
theorem back {P P' : Tops} {S : Sgs} (hG : PGood P) (hR : PR S P P') : ∀ {t' ρ' r T'}, Ev P' t' ρ' r T' → ∀ {t ρ v}, r = some v → Src t → Fo S t t' → BR P S ρ ρ' → ∃ T, Ev P t ρ (some v) T := by
  intro t' ρ' r T' h
  induction T' using Nat.strongRecOn generalizing t' ρ' r with
  | ind T' ih =>
    intro t ρ v hr hs hf he
    subst hr
    replace ih : BackH P P' S T' := fun {m t' ρ' v} hm k {t ρ} a b c => ih _ hm k rfl a b c
    have body : ∀ {f fd'}, P' f = some fd' → ∃ b, P f = some ⟨fd'.ps, b⟩ ∧ Fo S b fd'.body ∧ Src b := fun h => by
      obtain ⟨b, hb, hfb⟩ := hR.back _ _ h
      exact ⟨b, hb, hfb, (hG _ _ hb).2.2⟩
    induction hf with
    | lit => replace h := h.invS; cases h; exact ⟨1, .lit⟩
    | err => exact h.invS.elim
    | @var x =>
      have := he x hs
      replace h := h.valVar; induction h with
      | varI e =>
        rw [e] at this
        generalize q : ρ x = θ at this
        cases this with
        | int => exact ⟨_, .varI q⟩
        | val k => exact ⟨_, .varT q k⟩
      | varT e k =>
        rw [e] at this
        generalize q : ρ x = θ at this
        cases this with
        | th f1 s1 r1 => obtain ⟨T, k⟩ := ih (by exact Nat.lt_succ_self _) k s1 f1 r1; exact ⟨_, .varT q k⟩
        | vala k1 e1 =>
          replace k := k.valVar; induction k with
          | varI e2 => rw [e1] at e2; cases e2; exact ⟨_, .varT q k1⟩
          | varT e2 _ => rw [e1] at e2; cases e2
    | add fa fb =>
      replace h := h.valAdd; induction h with
      | add ka kb =>
        have := ka.pos; have := kb.pos
        obtain ⟨T1, k1⟩ := ih (by exact lt1) ka hs.1 fa he
        obtain ⟨T2, k2⟩ := ih (by exact lt2) kb hs.2 fb he
        exact ⟨_, .add k1 k2⟩
    | case fv fa fo =>
      replace h := h.valCase; induction h with
      | caseA kv ka =>
        have := kv.pos; have := ka.pos
        obtain ⟨T1, k1⟩ := ih (by exact lt1) kv hs.1 fv he
        obtain ⟨T2, k2⟩ := ih (by exact lt2) ka hs.2.2.1 fa (he.set .int)
        exact ⟨_, .caseA k1 k2⟩
      | caseO kv n ka =>
        have := kv.pos; have := ka.pos
        obtain ⟨T1, k1⟩ := ih (by exact lt1) kv hs.1 fv he
        obtain ⟨T2, k2⟩ := ih (by exact lt2) ka hs.2.2.2 fo (he.set .int)
        exact ⟨_, .caseO k1 n k2⟩
    | lt fv fb =>
      replace h := h.valLt; induction h with
      | lt kb => obtain ⟨T2, k2⟩ := ih (by exact Nat.lt_succ_self _) kb hs.2.2.2 fb (he.set (.th fv hs.1 he)); exact ⟨_, .lt k2⟩
    | ltS hl hx fv fb =>
      replace h := h.valSeq; induction h with
      | seq kv kb =>
        have := kv.pos; have := kb.pos
        obtain ⟨T1, k1⟩ := ih (by exact lt1) kv hs.1 fv he
        obtain ⟨T2, k2⟩ := ih (by exact lt2) kb hs.2.2.2 fb (he.set (.val k1))
        exact ⟨_, .lt k2⟩
    | ap1 fa =>
      replace h := h.valAp1; induction h with
      | ap1 hp kb =>
        obtain ⟨b, hb, hfb, hsb⟩ := body hp
        obtain ⟨T2, k2⟩ := ih (by exact Nat.lt_succ_self _) kb hsb hfb (BR.nil.set (.th fa hs he))
        exact ⟨_, .ap1 hb k2⟩
    | ap1S fl hn fa =>
      replace h := h.valSeq; induction h with
      | seq kv kc =>
        replace kc := kc.valAp1; induction kc with
        | ap1 hp kb =>
          obtain ⟨b, hb, hfb, hsb⟩ := body hp
          have := kv.pos; have := kb.pos
          obtain ⟨T1, k1⟩ := ih (by exact lt1) kv (by exact hs) fa he
          obtain ⟨T2, k2⟩ := ih (by lia) kb hsb hfb (BR.nil.set (.vala k1 setR_same))
          exact ⟨_, .ap1 hb k2⟩
    | ap2 fa fa2 =>
      replace h := h.valAp2; induction h with
      | ap2 hp kb =>
        obtain ⟨b, hb, hfb, hsb⟩ := body hp
        obtain ⟨T2, k2⟩ := ih (by exact Nat.lt_succ_self _) kb hsb hfb ((BR.nil.set (.th fa hs.1 he)).set (.th fa2 hs.2 he))
        exact ⟨_, .ap2 hb k2⟩
    | ap2L fl hn fa fa2 =>
      replace h := h.valSeq; induction h with
      | seq kv kc =>
        replace kc := kc.valAp2; induction kc with
        | ap2 hp kb =>
          obtain ⟨b, hb, hfb, hsb⟩ := body hp
          have := kv.pos; have := kb.pos
          obtain ⟨T1, k1⟩ := ih (by exact lt1) kv hs.1 fa he
          obtain ⟨T2, k2⟩ := ih (by lia) kb hsb hfb ((BR.nil.set (.vala k1 setR_same)).set (.th fa2 hs.2 (he.arg hn)))
          exact ⟨_, .ap2 hb k2⟩
    | ap2R fl hn fa fa2 =>
      replace h := h.valSeq; induction h with
      | seq kv kc =>
        replace kc := kc.valAp2; induction kc with
        | ap2 hp kb =>
          obtain ⟨b, hb, hfb, hsb⟩ := body hp
          have := kv.pos; have := kb.pos
          obtain ⟨T1, k1⟩ := ih (by exact lt1) kv hs.2 fa2 he
          obtain ⟨T2, k2⟩ := ih (by lia) kb hsb hfb ((BR.nil.set (.th fa hs.1 (he.arg hn))).set (.vala k1 setR_same))
          exact ⟨_, .ap2 hb k2⟩
    | ap2B fl fl2 hn hn' hnn fa fa2 =>
      replace h := h.valSeq; induction h with
      | seq kv kc =>
        replace kc := kc.valSeq; induction kc with
        | seq kv2 kc =>
          replace kc := kc.valAp2; induction kc with
          | ap2 hp kb =>
            obtain ⟨b, hb, hfb, hsb⟩ := body hp
            have := kv.pos; have := kb.pos; have := kv2.pos
            obtain ⟨T1, k1⟩ := ih (by exact lt1) kv hs.1 fa he
            obtain ⟨T3, k3⟩ := ih (by lia) kv2 hs.2 fa2 (he.arg hn)
            obtain ⟨T2, k2⟩ := ih (by lia) kb hsb hfb ((BR.nil.set (.vala k1 (by rw [setR_ne hnn, setR_same]))).set (.vala k3 setR_same))
            exact ⟨_, .ap2 hb k2⟩
/-! what forced makes stays well scoped -/
theorem Fo.ws {S : Sgs} {P P' : Tops} (hR : PR S P P') {t t' : Tm} (h : Fo S t t') : ∀ {d : N → Prop}, WS P t d → WS P' t' d := by
  have one : ∀ {f : N}, (∃ p b, P f = some ⟨[p], b⟩) → ∃ p b, P' f = some ⟨[p], b⟩ := fun ⟨p, b, h⟩ => by
    obtain ⟨b', h', _⟩ := hR.to _ _ h; exact ⟨p, b', h'⟩
  have two : ∀ {f : N}, (∃ p q b, P f = some ⟨[p, q], b⟩) → ∃ p q b, P' f = some ⟨[p, q], b⟩ := fun ⟨p, q, b, h⟩ => by
    obtain ⟨b', h', _⟩ := hR.to _ _ h; exact ⟨p, q, b', h'⟩
  induction h with
  | var => exact id
  | lit => exact id
  | err => exact id
  | add _ _ ih ih2 => exact fun w => ⟨ih w.1, ih2 w.2⟩
  | case _ _ _ ih ih2 ih3 => exact fun w => ⟨ih w.1, ih2 w.2.1, ih3 w.2.2⟩
  | lt _ _ ih ih2 => exact fun w => ⟨ih w.1, ih2 w.2⟩
  | ltS _ _ _ _ ih ih2 => exact fun w => ⟨ih w.1, ih2 w.2⟩
  | ap1 _ ih => exact fun w => ⟨one w.1, ih w.2⟩
  | ap1S _ _ _ ih => exact fun w => ⟨ih w.2, one w.1, .inl rfl⟩
  | ap2 _ _ ih ih2 => exact fun w => ⟨two w.1, ih w.2.1, ih2 w.2.2⟩
  | ap2L _ _ _ _ ih ih2 => exact fun w => ⟨ih w.2.1, two w.1, .inl rfl, (ih2 w.2.2).mono fun _ q => .inr q⟩
  | ap2R _ _ _ _ ih ih2 => exact fun w => ⟨ih2 w.2.2, two w.1, (ih w.2.1).mono fun _ q => .inr q, .inl rfl⟩
  | ap2B _ _ _ _ _ _ _ ih ih2 => exact fun w => ⟨ih w.2.1, (ih2 w.2.2).mono fun _ q => .inr q, two w.1, .inr (.inl rfl), .inl rfl⟩
/-! the law's own plain look -/
noncomputable def plainly : Tm → List N
  | .var x => [x]
  | .add a b => plainly a ++ plainly b
  | .case v _ _ _ _ => plainly v
  | .lt _ _ b => plainly b
  | _ => []
theorem plainly_need {S : Sgs} {x : N} (hx : ¬NmL x) : ∀ {t : Tm}, Src t → x ∈ plainly t → ∀ l, need S t = some l → x ∈ l
  | .var y, _, h, l, hl => by simp [need] at hl; subst hl; exact h
  | .add a b, hs, h, l, hl => by
    obtain ⟨la, lb, ha, hb, hab⟩ := both_some hl
    obtain ⟨l0, la', h0, ha', hab'⟩ := both_some ha
    rcases List.mem_append.mp h with h | h
    · exact (hab x).mpr (.inl ((hab' x).mpr (.inr (plainly_need hx hs.1 h _ ha'))))
    · exact (hab x).mpr (.inr (plainly_need hx hs.2 h _ hb))
  | .case v _ _ _ _, hs, h, l, hl => by
    obtain ⟨la, lb, ha, hb, hab⟩ := both_some hl
    exact (hab x).mpr (.inl (plainly_need hx hs.1 h _ ha))
  | .lt y v b, hs, h, l, hl => by
    have n : x ≠ y := fun z => hx (z ▸ hs.2.2.1)
    rw [need] at hl; unfold letN at hl
    obtain ⟨m, hm, q⟩ := without_some hl
    refine (q x).mpr ⟨?_, by simpa using n⟩
    cases hb : need S b with
    | none => rw [hb] at hm; cases hm
    | some lb =>
      rw [hb] at hm
      have hx' := plainly_need hx hs.2.2.2 h _ hb
      dsimp only at hm
      split at hm
      · obtain ⟨la, lb', ha, hb', hab⟩ := both_some hm
        cases ha
        exact (hab x).mpr (.inl hx')
      · cases hm; exact hx'
  | .lit _, _, h, _, _ => nomatch h
  | .err, _, h, _, _ => nomatch h
  | .seq .., _, h, _, _ => nomatch h
  | .ap1 .., _, h, _, _ => nomatch h
  | .ap2 .., _, h, _, _ => nomatch h
theorem plainly_flag {P : Tops} {S : Sgs} (hC : Cons P S) (hG : PGood P) {f : N} {fd : Fd} {s : Sg} (hf : P f = some fd) (hs : S f = some s) {i : Nat} {p : N} (hp : fd.ps[i]? = some p) (hx : p ∈ plainly fd.body) : s.flags[i]? = some true := by
  rcases hC f with ⟨h, _⟩ | ⟨fd', s', h1, h2, h3⟩
  · rw [hf] at h; cases h
  rw [hf] at h1; cases h1
  rw [hs] at h2; cases h2
  have hg := hG f _ hf
  rw [h3.1]
  unfold sigOf
  cases q : need S fd.body with
  | none => simp [hp]
  | some l => simpa [hp] using plainly_need (hg.2.1 p (List.mem_of_getElem? hp)).2 hg.2.2 hx l q
/-- a parameter that is told so never lets the call come to a value when an error is put in its place -/
theorem told_no {P : Tops} {S : Sgs} (hC : Cons P S) (hG : PGood P) (hN : PNames P) {f : N} {fd : Fd} {s : Sg} (hf : P f = some fd) (hs : S f = some s) {i : Nat} {p : N} (hp : fd.ps[i]? = some p) (hi : s.flags[i]? = some true) {ρ : Rho} {ρ1 : Rho} (he : ρ p = .th .err ρ1) {v : Int} {T : Nat} (k : Ev P fd.body ρ (some v) T) : False := by
  rcases hC f with ⟨h, _⟩ | ⟨fd', s', h1, h2, h3⟩
  · rw [hf] at h; cases h
  rw [hf] at h1; cases h1
  rw [hs] at h2; cases h2
  have hg := hG f _ hf
  obtain ⟨h1, h2⟩ := need_ok hC hG hN T _ ρ v hg.2.2 k
  cases q : need S fd.body with
  | none => exact h1 q
  | some l =>
    obtain ⟨p', hp', hpl⟩ := sig_flag h3 q hi
    rw [hp] at hp'; cases hp'
    obtain ⟨⟨w, c, hw, _⟩, _⟩ := h2 l q p hpl (hN p (hg.2.1 p (List.mem_of_getElem? hp)).1)
    replace hw := hw.valVar; induction hw with
    | varI k => rw [he] at k; cases k
    | varT k q => rw [he] at k; cases k; cases q
end Mine
end
section
open PySem PySem.W PyProof.Rows PySem.Calls
set_option maxRecDepth 100000
set_option maxHeartbeats 4000000
namespace Mine
/-! terms in the heap -/
abbrev sS (s : String) : Str := Str.ofString s
inductive Tvar (G : PM) (v : Value) (x : N) : Prop
  | mk : ∀ a t, (v = .ref a) → (InA G a 59 [(sS "name", .str x t)]) → Tvar G v x
inductive Tlit (G : PM) (v : Value) (i : Int) : Prop
  | mk : ∀ a t t', (v = .ref a) → (InA G a 101 [(sS "kind", .str (sS "int") t), (sS "value", .int i t')]) → Tlit G v i
inductive Terr (G : PM) (v : Value) : Prop
  | mk : ∀ a t l w b t' t'', (v = .ref a) → (InA G a 362 [(sS "op", .str (sS "error") t), (sS "args", .ref l)]) → (LsA G l [w]) → (w = .ref b) → (InA G b 101 [(sS "kind", .str (sS "int") t'), (sS "value", .int 0 t'')]) → Terr G v 
inductive Tadd (G : PM) (v : Value) (p : Value → Prop) (q : Value → Prop) : Prop
  | mk : ∀ a t l w w', (v = .ref a) → (InA G a 362 [(sS "op", .str (sS "intAdd") t), (sS "args", .ref l)]) → (LsA G l [w, w']) → p w → q w' → Tadd G v p q
inductive Tcase (G : PM) (v : Value) (e : Value → Prop) (y : N) (k : Int) (p : Value → Prop) (o : Value → Prop) : Prop
  | mk : ∀ a ve t la al kt ln va vo t1 t2 t3, (v = .ref a) → (InA G a 282 [(sS "value", ve), (sS "name", .str y t), (sS "alts", .ref la), (sS "other", vo)]) → (LsA G la [.ref al]) → (InA G al 242 [(sS "key", .ref kt), (sS "names", .ref ln), (sS "body", va)]) → (TpA G kt [.str (sS "lit") t1, .str (sS "int") t2, .int k t3]) → (LsA G ln []) → e ve → p va → o vo → Tcase G v e y k p o
inductive Tseq (G : PM) (v : Value) (e : Value → Prop) (y : N) (o : Value → Prop) : Prop
  | mk : ∀ a ve t la vo, (v = .ref a) → (InA G a 282 [(sS "value", ve), (sS "name", .str y t), (sS "alts", .ref la), (sS "other", vo)]) → (LsA G la []) → e ve → o vo → Tseq G v e y o
inductive Tlt (G : PM) (v : Value) (y : N) (e : Value → Prop) (b : Value → Prop) : Prop
  | mk : ∀ a lb tp t ve vb, (v = .ref a) → (InA G a 221 [(sS "binds", .ref lb), (sS "body", vb), (sS "is_rec", .bool false)]) → (LzA G lb [.ref tp]) → (TpA G tp [.str y t, ve]) → e ve → b vb → Tlt G v y e b
inductive Tap1 (G : PM) (v : Value) (f : N) (p : Value → Prop) : Prop
  | mk : ∀ a vf t l w, (v = .ref a) → (InA G a 141 [(sS "fun", .ref vf), (sS "args", .ref l)]) → (InA G vf 59 [(sS "name", .str f t)]) → (LsA G l [w]) → p w → Tap1 G v f p
inductive Tap2 (G : PM) (v : Value) (f : N) (p : Value → Prop) (q : Value → Prop) : Prop
  | mk : ∀ a vf t l w w', (v = .ref a) → (InA G a 141 [(sS "fun", .ref vf), (sS "args", .ref l)]) → (InA G vf 59 [(sS "name", .str f t)]) → (LsA G l [w, w']) → p w → q w' → Tap2 G v f p q
noncomputable def TmA (G : PM) : Value → Tm → Prop
  | v, .var x => Tvar G v x
  | v, .lit i => Tlit G v i
  | v, .err => Terr G v
  | v, .add p q => Tadd G v (fun w => TmA G w p) (fun w => TmA G w q)
  | v, .case e y k p o => Tcase G v (fun w => TmA G w e) y k (fun w => TmA G w p) (fun w => TmA G w o)
  | v, .seq e y o => Tseq G v (fun w => TmA G w e) y (fun w => TmA G w o)
  | v, .lt y e b => Tlt G v y (fun w => TmA G w e) (fun w => TmA G w b)
  | v, .ap1 f p => Tap1 G v f (fun w => TmA G w p)
  | v, .ap2 f p q => Tap2 G v f (fun w => TmA G w p) (fun w => TmA G w q)
theorem Tvar.up {G G' : PM} (g : GLe G G') {v : Value} {x : N} (h : Tvar G v x) : Tvar G' v x := by
  obtain ⟨a_, t_, h2, h3⟩ := h
  exact ⟨a_, t_, h2, h3.up g⟩
theorem Tvar.ref {G : PM} {v : Value} {x : N} (h : Tvar G v x) : ∃ a, v = .ref a := by
  obtain ⟨a, t_, h2, h3⟩ := h
  exact ⟨a, h2⟩
theorem Tlit.up {G G' : PM} (g : GLe G G') {v : Value} {i : Int} (h : Tlit G v i) : Tlit G' v i := by
  obtain ⟨a_, t_, t'_, h3, h4⟩ := h
  exact ⟨a_, t_, t'_, h3, h4.up g⟩
theorem Tlit.ref {G : PM} {v : Value} {i : Int} (h : Tlit G v i) : ∃ a, v = .ref a := by
  obtain ⟨a, t_, t'_, h3, h4⟩ := h
  exact ⟨a, h3⟩
theorem Terr.up {G G' : PM} (g : GLe G G') {v : Value} (h : Terr G v ) : Terr G' v  := by
  obtain ⟨a_, t_, l_, w_, b_, t'_, t''_, h7, h8, h9, h10, h11⟩ := h
  exact ⟨a_, t_, l_, w_, b_, t'_, t''_, h7, h8.up g, h9.up g, h10, h11.up g⟩
theorem Terr.ref {G : PM} {v : Value} (h : Terr G v ) : ∃ a, v = .ref a := by
  obtain ⟨a, t_, l_, w_, b_, t'_, t''_, h7, h8, h9, h10, h11⟩ := h
  exact ⟨a, h7⟩
theorem Tadd.up {G G' : PM} (g : GLe G G') {v : Value} {p p' : Value → Prop} {q q' : Value → Prop} (h : Tadd G v p q) (up : ∀ w, p w → p' w) (uq : ∀ w, q w → q' w) : Tadd G' v p' q' := by
  obtain ⟨a_, t_, l_, w_, w'_, h5, h6, h7, h8, h9⟩ := h
  exact ⟨a_, t_, l_, w_, w'_, h5, h6.up g, h7.up g, up _ h8, uq _ h9⟩
theorem Tadd.ref {G : PM} {v : Value} {p : Value → Prop} {q : Value → Prop} (h : Tadd G v p q) : ∃ a, v = .ref a := by
  obtain ⟨a, t_, l_, w_, w'_, h5, h6, h7, h8, h9⟩ := h
  exact ⟨a, h5⟩
theorem Tcase.up {G G' : PM} (g : GLe G G') {v : Value} {e e' : Value → Prop} {y : N} {k : Int} {p p' : Value → Prop} {o o' : Value → Prop} (h : Tcase G v e y k p o) (ue : ∀ w, e w → e' w) (up : ∀ w, p w → p' w) (uo : ∀ w, o w → o' w) : Tcase G' v e' y k p' o' := by
  obtain ⟨a_, ve_, t_, la_, al_, kt_, ln_, va_, vo_, t1_, t2_, t3_, h12, h13, h14, h15, h16, h17, h18, h19, h20⟩ := h
  exact ⟨a_, ve_, t_, la_, al_, kt_, ln_, va_, vo_, t1_, t2_, t3_, h12, h13.up g, h14.up g, h15.up g, h16.up g, h17.up g, ue _ h18, up _ h19, uo _ h20⟩
theorem Tcase.ref {G : PM} {v : Value} {e : Value → Prop} {y : N} {k : Int} {p : Value → Prop} {o : Value → Prop} (h : Tcase G v e y k p o) : ∃ a, v = .ref a := by
  obtain ⟨a, ve_, t_, la_, al_, kt_, ln_, va_, vo_, t1_, t2_, t3_, h12, h13, h14, h15, h16, h17, h18, h19, h20⟩ := h
  exact ⟨a, h12⟩
theorem Tseq.up {G G' : PM} (g : GLe G G') {v : Value} {e e' : Value → Prop} {y : N} {o o' : Value → Prop} (h : Tseq G v e y o) (ue : ∀ w, e w → e' w) (uo : ∀ w, o w → o' w) : Tseq G' v e' y o' := by
  obtain ⟨a_, ve_, t_, la_, vo_, h5, h6, h7, h8, h9⟩ := h
  exact ⟨a_, ve_, t_, la_, vo_, h5, h6.up g, h7.up g, ue _ h8, uo _ h9⟩
theorem Tseq.ref {G : PM} {v : Value} {e : Value → Prop} {y : N} {o : Value → Prop} (h : Tseq G v e y o) : ∃ a, v = .ref a := by
  obtain ⟨a, ve_, t_, la_, vo_, h5, h6, h7, h8, h9⟩ := h
  exact ⟨a, h5⟩
theorem Tlt.up {G G' : PM} (g : GLe G G') {v : Value} {y : N} {e e' : Value → Prop} {b b' : Value → Prop} (h : Tlt G v y e b) (ue : ∀ w, e w → e' w) (ub : ∀ w, b w → b' w) : Tlt G' v y e' b' := by
  obtain ⟨a_, lb_, tp_, t_, ve_, vb_, h6, h7, h8, h9, h10, h11⟩ := h
  exact ⟨a_, lb_, tp_, t_, ve_, vb_, h6, h7.up g, h8.up g, h9.up g, ue _ h10, ub _ h11⟩
theorem Tlt.ref {G : PM} {v : Value} {y : N} {e : Value → Prop} {b : Value → Prop} (h : Tlt G v y e b) : ∃ a, v = .ref a := by
  obtain ⟨a, lb_, tp_, t_, ve_, vb_, h6, h7, h8, h9, h10, h11⟩ := h
  exact ⟨a, h6⟩
theorem Tap1.up {G G' : PM} (g : GLe G G') {v : Value} {f : N} {p p' : Value → Prop} (h : Tap1 G v f p) (up : ∀ w, p w → p' w) : Tap1 G' v f p' := by
  obtain ⟨a_, vf_, t_, l_, w_, h5, h6, h7, h8, h9⟩ := h
  exact ⟨a_, vf_, t_, l_, w_, h5, h6.up g, h7.up g, h8.up g, up _ h9⟩
theorem Tap1.ref {G : PM} {v : Value} {f : N} {p : Value → Prop} (h : Tap1 G v f p) : ∃ a, v = .ref a := by
  obtain ⟨a, vf_, t_, l_, w_, h5, h6, h7, h8, h9⟩ := h
  exact ⟨a, h5⟩
theorem Tap2.up {G G' : PM} (g : GLe G G') {v : Value} {f : N} {p p' : Value → Prop} {q q' : Value → Prop} (h : Tap2 G v f p q) (up : ∀ w, p w → p' w) (uq : ∀ w, q w → q' w) : Tap2 G' v f p' q' := by
  obtain ⟨a_, vf_, t_, l_, w_, w'_, h6, h7, h8, h9, h10, h11⟩ := h
  exact ⟨a_, vf_, t_, l_, w_, w'_, h6, h7.up g, h8.up g, h9.up g, up _ h10, uq _ h11⟩
theorem Tap2.ref {G : PM} {v : Value} {f : N} {p : Value → Prop} {q : Value → Prop} (h : Tap2 G v f p q) : ∃ a, v = .ref a := by
  obtain ⟨a, vf_, t_, l_, w_, w'_, h6, h7, h8, h9, h10, h11⟩ := h
  exact ⟨a, h6⟩
theorem TmA.up {G G' : PM} (g : GLe G G') {v : Value} {t : Tm} : TmA G v t → TmA G' v t := by
  induction t generalizing v with
  | var x  => exact fun h => Tvar.up g h
  | lit i  => exact fun h => Tlit.up g h
  | err   => exact fun h => Terr.up g h
  | add p q ip iq => exact fun h => Tadd.up g h (fun _ => ip) (fun _ => iq)
  | case e y k p o ie ip io => exact fun h => Tcase.up g h (fun _ => ie) (fun _ => ip) (fun _ => io)
  | seq e y o ie io => exact fun h => Tseq.up g h (fun _ => ie) (fun _ => io)
  | lt y e b ie ib => exact fun h => Tlt.up g h (fun _ => ie) (fun _ => ib)
  | ap1 f p ip => exact fun h => Tap1.up g h (fun _ => ip)
  | ap2 f p q ip iq => exact fun h => Tap2.up g h (fun _ => ip) (fun _ => iq)
theorem TmA.ref {G : PM} {v : Value} {t : Tm} (h : TmA G v t) : ∃ a, v = .ref a := by
  cases t with
  | var x => exact Tvar.ref h
  | lit i => exact Tlit.ref h
  | err  => exact Terr.ref h
  | add p q => exact Tadd.ref h
  | case e y k p o => exact Tcase.ref h
  | seq e y o => exact Tseq.ref h
  | lt y e b => exact Tlt.ref h
  | ap1 f p => exact Tap1.ref h
  | ap2 f p q => exact Tap2.ref h
noncomputable def ht : Tm → Nat
  | .var _ => 0
  | .lit _ => 0
  | .err => 1
  | .add a b => max (ht a) (ht b) + 1
  | .case v _ _ a o => max (ht v) (max (ht a) (ht o)) + 1
  | .seq v _ o => max (ht v) (ht o) + 1
  | .lt _ v b => max (ht v) (ht b) + 1
  | .ap1 _ a => ht a + 1
  | .ap2 _ a b => max (ht a) (ht b) + 1
noncomputable def WSc (cs : List (N × Nat)) : Tm → List N → Prop
  | .var x, d => x ∈ d
  | .lit _, _ => True
  | .err, _ => True
  | .add a b, d => WSc cs a d ∧ WSc cs b d
  | .case v x _ a o, d => WSc cs v d ∧ WSc cs a (d ++ [x]) ∧ WSc cs o (d ++ [x])
  | .seq _ _ _, _ => False
  | .lt x v b, d => WSc cs v d ∧ WSc cs b (d ++ [x])
  | .ap1 f a, d => (f, 1) ∈ cs ∧ WSc cs a d
  | .ap2 f a b, d => (f, 2) ∈ cs ∧ WSc cs a d ∧ WSc cs b d
noncomputable def nm (b : String) (n : Nat) : Str := sS b ++ sS "." ++ Str.ofString (toString (n : Int))
noncomputable def okName (b : String) (c : Nat) (n : Nat) : Bool := (nm b n).cps[1]? == some 46 && PySem.PyData.strOk (nm b n) && (nm b n).cps[0]? == some c
theorem names_ok : ∀ n, n < 64 → (okName "p" 112 n && okName "c" 99 n && okName "l" 108 n && okName "n" 110 n && okName "a" 97 n && decide (nm "p" n ≠ nm "p" (n + 1)) && decide ((sS "c").length + 1 ≤ 10)) = true := by decide +kernel
end Mine
end
section
open PySem PySem.W PyProof.Rows PySem.Calls
set_option maxRecDepth 100000
set_option maxHeartbeats 4000000
namespace Mine
/-! what the walk's lines name -/
noncomputable def CallsA (G : PM) (l : Addr) (cs : List (N × Nat)) : Prop := ∃ vs, LsA G l vs ∧ PySem.Paired (fun (v : Value) (c : N × Nat) => ∃ a t t', v = .ref a ∧ TpA G a [.str c.1 t, .int (c.2 : Int) t']) vs cs
inductive NamesA (G : PM) (l : Addr) (xs : List N) : Prop
  | mk : ∀ vs, (LsA G l vs) → (StrsAre vs xs) → NamesA G l xs
theorem Paired.imp {α β : Type} {R S : α → β → Prop} (h : ∀ a b, R a b → S a b) : ∀ {l : List α} {k : List β}, PySem.Paired R l k → PySem.Paired S l k
  | _, _, .nil => .nil
  | _, _, .cons a b => .cons (h _ _ a) (Paired.imp h b)
theorem CallsA.up {G G' : PM} {l : Addr} {cs : List (N × Nat)} (g : GLe G G') (k : CallsA G l cs) : CallsA G' l cs := let ⟨vs, a, b⟩ := k; ⟨vs, a.up g, Paired.imp (fun _ _ ⟨a, t, t', e, r⟩ => ⟨a, t, t', e, r.up g⟩) b⟩
theorem NamesA.up {G G' : PM} {l : Addr} {xs : List N} (g : GLe G G') (k : NamesA G l xs) : NamesA G' l xs := let ⟨vs, a, b⟩ := k; ⟨vs, a.up g, b⟩
inductive LamA (G : PM) (a : Addr) (ps : List N) (b : Tm) : Prop
  | mk : ∀ lp vb, (InA G a 183 [(sS "params", .ref lp), (sS "body", vb)]) → (NamesA G lp ps) → (TmA G vb b) → LamA G a ps b
theorem LamA.up {G G' : PM} {a : Addr} {ps : List N} {b : Tm} (g : GLe G G') (k : LamA G a ps b) : LamA G' a ps b := let ⟨lp, vb, i, j, t⟩ := k; ⟨lp, vb, i.up g, j.up g, t.up g⟩
noncomputable def tt (l : List N) : List (N × Value) := l.map fun x => (x, Value.bool true)
noncomputable def NdA (D : Wd) (G : PM) (v : Value) : Nd → Prop
  | none => v = .none
  | some l => ∃ a, v = .ref a ∧ DcA D G a (tt l)
theorem NdA.up {D : Wd} {G G' : PM} {v : Value} {n : Nd} (g : GLe G G') (k : NdA D G v n) : NdA D G' v n := by
  cases n with
  | none => exact k
  | some l => obtain ⟨a, e, h⟩ := k; exact ⟨a, e, h.up g⟩
theorem upS_ne {m : LM} {a b : Str} {v w : Value} (h : (b == a) = false) (k : m b = some w) : upS m a v b = some w := by
  unfold upS; rw [if_neg (fun z => by rw [z] at h; simp at h)]; exact k
section
variable {D : Wd} {G G' : PM}
inductive SigA (D : Wd) (G : PM) (v : Value) (s : Sg) : Prop
  | mk : ∀ a lf df, (v = .ref a) → (InA G a 411 [(sS "flags", .ref lf), (sS "free", .ref df), (sS "diverges", .bool s.div)]) → (LsA G lf (s.flags.map .bool)) → (DcA D G df (tt s.free)) → SigA D G v s
theorem SigA.up {v : Value} {s : Sg} (g : GLe G G') (k : SigA D G v s) : SigA D G' v s := let ⟨a, lf, df, e, i, l, d⟩ := k; ⟨a, lf, df, e, i.up g, l.up g, d.up g⟩
noncomputable def SigsA (D : Wd) (G : PM) (kvs : List (Str × Value)) (S : Sgs) : Prop := ∀ x, (S x = none ∧ valueAt kvs x = none) ∨ Ex2 fun s v => And3 (S x = some s) (valueAt kvs x = some v) (SigA D G v s)
inductive EnvA (D : Wd) (G : PM) (ea : Addr) (S : Sgs) : Prop
  | mk : ∀ kvs, (DcA D G ea kvs) → (kvs.length ≤ 20) → (SigsA D G kvs S) → EnvA D G ea S
theorem SigsA.up {kvs : List (Str × Value)} {S : Sgs} (g : GLe G G') (k : SigsA D G kvs S) : SigsA D G' kvs S := fun x => (k x).imp id fun ⟨s, v, e, f, r⟩ => ⟨s, v, e, f, r.up g⟩
theorem EnvA.up {ea : Addr} {S : Sgs} (g : GLe G G') (k : EnvA D G ea S) : EnvA D G' ea S := let ⟨kvs, d, l, r⟩ := k; ⟨kvs, d.up g, l, r.up g⟩
end
/-! the walk's lines -/
local macro_rules | `(tactic| walk_at "mine.g") => `(tactic| first | assumption | exact GLe.rfl | (refine GLe.trans ?_ (by assumption); walk_at "mine.g") | fail "no way")
local macro_rules | `(tactic| walk_at "mine.at") => `(tactic| first | assumption | ((with_reducible first | refine NamesA.up (G := ?m) ?g ?h | refine CallsA.up (G := ?m) ?g ?h | refine LamA.up (G := ?m) ?g ?h | refine NdA.up (G := ?m) ?g ?h | refine SigA.up (G := ?m) ?g ?h | refine EnvA.up (G := ?m) ?g ?h | refine InA.up (G := ?m) ?g ?h | refine LsA.up (G := ?m) ?g ?h | refine LzA.up (G := ?m) ?g ?h | refine TpA.up (G := ?m) ?g ?h | refine DcA.up (G := ?m) ?g ?h | refine ClA.up (G := ?m) ?g ?h | refine TmA.up (G := ?m) ?g ?h | refine RgA.up (G := ?m) ?g ?h); (case h => assumption); (case g => walk_at "mine.g")) | fail "no fact")
local macro_rules | `(tactic| walk_at "mine.rd") => `(tactic| first | (apply Or.inl; walk_at "mine.at") | (apply Or.inr; assumption))
local macro_rules | `(tactic| walk_at "mine.glob") => `(tactic| with_reducible first | exact glb59 | exact glb101 | exact glb141 | exact glb183 | exact glb221 | exact glb242 | exact glb282 | exact glb322 | exact glb362 | exact glb383 | exact glb411 | exact glb422 | exact glb429 | exact glb434 | exact glb439 | exact glb446 | exact glb453 | exact glb460 | exact glb467 | exact glb474 | exact glb479 | exact glb484 | exact glb489 | exact glb494 | exact glb499 | exact glb506 | exact glb513 | exact glb518 | exact glb525 | exact glb562 | exact glb571 | exact glb578 | exact glb611 | exact glb622 | exact glb629 | exact glb636 | exact glb643 | exact glb648 | exact glb653 | exact glb658 | exact glb665 | exact glb672 | exact glb677 | fail "no such name")
local macro_rules | `(tactic| walk_at "mine.nm") => `(tactic| first | exact rfl | assumption | (refine upS_ne ?uh ?uk; (case uh => exact no'); (case uk => walk_at "mine.nm")) | fail "no name")
local macro_rules | `(tactic| walk_at "mine.sv") => `(tactic| first
  | ((with_reducible refine Sv.name ?h ?s); (case s => exact yes); (case h => walk_at "mine.nm"))
  | ((with_reducible refine Sv.cell (c := ?c) ?h ?g ?s); (case s => exact yes); (case h => exact rfl); (case g => walk_at "mine.rd"))
  | ((with_reducible refine Sv.glob ?h ?s); (case s => exact yes); (case h => walk_at "mine.glob"))
  | ((with_reducible refine Sv.built ?h ?g ?s); (case s => exact yes); (case h => kernel_rfl); (case g => boot_fast))
  | with_reducible exact Sv.none
  | with_reducible exact Sv.bool
  | ((with_reducible refine Sv.attr (x := ?x) (c := ?c) (fs := ?f) ?h ?g ?k ?s ?b); (case h => walk_at "mine.sv"); (case g => walk_at "mine.rd"); (case k => exact rfl); (case s => exact yes); (case b => exact yes))
  | fail "no plain word")
local macro_rules | `(tactic| walk_at "mine.svs") => `(tactic| first
  | with_reducible exact Svs.nil
  | ((with_reducible refine Svs.cons (v := ?x) (vs := ?y) ?e ?t); (case e => walk_at "mine.sv"); (case t => walk_at "mine.svs"))
  | fail "no plain words")
local macro_rules | `(tactic| tb_start) => `(tactic| first
  | with_reducible refine B.cons ?_
  | ((with_reducible refine B.callSv (f := ?f) (vs := ?v) ?w ?e ?s ?a ?k ?_); (case s => exact yes); (case e => walk_at "mine.sv"); (case k => exact yes); (case a => walk_at "mine.svs"); (case w => exact rfl))
  | ((with_reducible first | refine B.withSv0 (vs := ?v) ?w ?s ?a ?k ?_ | refine B.withSv1 (vs := ?v) ?w ?s ?a ?k ?_); (case s => exact yes); (case k => exact yes); (case a => walk_at "mine.svs"); (case w => exact rfl))
  | ((with_reducible refine B.svs (vs := ?v) ?w ?s ?a ?_); (case s => exact yes); (case a => walk_at "mine.svs"); (case w => exact rfl))
  | ((with_reducible refine B.sv (v := ?v) ?w ?e ?_); (case e => walk_at "mine.sv"); (case w => exact rfl))
  | ((with_reducible first | refine B.method (pl := ?p) ?_ ?z | refine B.call ?_ ?z | refine B.args ?_ ?z | refine B.tCompare ?_ ?z | refine B.compare ?_ ?z | refine B.attribute ?_ ?z | refine B.assign ?_ ?z | refine B.assignSub ?_ ?z | refine B.assignAttr ?_ ?z); case z => exact rfl)
  | with_reducible first | refine B.args0 ?_ | refine B.withB0 ?_ | refine B.eT ?_ | refine B.eF ?_ | refine B.sT ?_ | refine B.sF ?_ | refine condT ?_ | refine condF ?_ | refine condNT ?_ | refine condNF ?_ | refine B.iff ?_ | refine B.ifExp ?_ | refine B.tNot ?_ | refine B.tAnd ?_ | refine B.tOr ?_ | refine B.tAnd0 ?_ | refine B.tOr0 ?_ | refine B.subscript ?_ | refine B.gt ?_ | refine B.lt ?_ | refine B.ge ?_ | refine B.eqInt ?_ | refine B.neInt ?_ | refine B.eqStr ?_ | refine B.trueBool ?_ | refine B.binOp ?_ | refine B.unary ?_ | refine B.intInt ?_ | refine Then.next ?_ | refine Then.ret ?_ | refine B.ret ?_ | refine B.nil ?_ | refine B.asgName ?_ | refine B.bindName ?_
  | ((with_reducible first | refine B.cInt ?_ | refine B.cStr ?_ | refine B.add ?_ | refine B.sub ?_); intro _)
  | ((with_reducible first | refine B.withT ?_ ?z ?y | refine B.withBF ?_ ?z ?y | refine B.withBM ?_ ?z ?y | refine B.exprSt ?_ ?z ?y); (case z => exact rfl); (case y => exact rfl))
  | ((with_reducible first | refine B.withF ?k ?_ ?z ?y | refine B.withM ?k ?_ ?z ?y); (case k => kernel_rfl); (case z => exact rfl); (case y => exact rfl))
  | ((with_reducible first | refine B.withF0 ?k ?_ | refine B.withM0 ?k ?_); (case k => kernel_rfl))
  | ((with_reducible refine B.store ?_ ?a ?b ?c); (case a => exact rfl); (case b => exact rfl); (case c => exact rfl))
  | ((with_reducible refine B.getAttrT (c := ?c) (fs := ?f) (v := ?v) ?x ?h ?g ?i ?_); (case x => walk_at "mine.rd"); (case h => exact rfl); (case g => exact yes); (case i => exact yes))
  | ((with_reducible refine B.tPlain ?_ ?z); case z => exact rfl)
  | (with_reducible refine Opq.at (by assumption) ?_)
  | fail "no line")
local macro_rules | `(tactic| walk_at "mine.no") => `(tactic| ((refine B.isiC (b := false) (d := ?d) (fs := ?f) ?e ?k ?_); (case e => walk_at "mine.at"); (case k => exact yes)))
local macro_rules | `(tactic| walk_at "mine.yes") => `(tactic| ((refine B.isiC (b := true) (d := ?d) (fs := ?f) ?e ?k ?_); (case e => walk_at "mine.at"); (case k => exact yes)))
local macro_rules | `(tactic| walk_at "mine.tno") => `(tactic| ((refine B.isiTC (b := false) (d := ?d) (fs := ?f) (cs := ?c) ?e ?t ?k ?n ?_); (case t => assumption); (case e => walk_at "mine.at"); (case k => exact yes); (case n => kernel_rfl)))
local macro_rules | `(tactic| walk_at "mine.tyes") => `(tactic| ((refine B.isiTC (b := true) (d := ?d) (fs := ?f) (cs := ?c) ?e ?t ?k ?n ?_); (case t => assumption); (case e => walk_at "mine.at"); (case k => exact yes); (case n => kernel_rfl)))
local macro_rules | `(tactic| walk_at "mine.size") => `(tactic| exact Nat.le_of_ble_eq_true rfl)
local macro_rules | `(tactic| walk_at "mine.me") => `(tactic| ((refine B.meT (f := ?f) (fs := ?s) ?x ?l ?m ?_); (case x => walk_at "mine.rd"); (case l => exact rfl); (case m => exact rfl)))
theorem look629 (P : Params) : (K P).lookup 629 = some (k629 P) := by kernel_rfl
inductive SrcO (o : Obj) : Prop
  | mk : ∀ x y tx ty, (LsO o [.int x tx, .int y ty]) → (0 ≤ x) → (0 ≤ y) → (y < 2147483647) → SrcO o
section
variable {D : Wd} {A : Around} {F : Fn} {G C : PM} {m : LM}
theorem take_ok {src : Addr} {top : Int} {t : Tok} {o : Obj} (R : Room A 1) (hs : C src = some o) (ho : SrcO o) (h0 : 0 < top) (h1 : top < 100) :
    CodeOk D A (.ref 629) [.ref src, .int top t] G C (fun r G' C' => G' = G ∧ Ex3 fun k t o' => And6 (r = .int k t) (0 ≤ k) (k < top) (SrcO o') (C' src = some o') (CK C C' [src])) := by
  obtain ⟨x, y, tx, ty, hl, hx, hy, hy2⟩ := ho
  refine codeOk_def (binds := [(Str.ofString "source", .ref src), (Str.ofString "top", .int top t)]) (look629 _) (by kernel_rfl) R.lt (fun s X => BindsTo.of_eq rfl) (locs rfl) ?_ (by decide)
  intro F hG hC env₀ A₀ m₀ Q₀ q₀
  refine B.cons ?_
  repeat tb_start
  refine B.itemL (.inr ⟨o, hs, hl⟩) (by decide) (by decide) rfl ?_
  repeat tb_start
  refine B.ifS (fun hc => ?_) (fun hc => ?_)
  · repeat tb_start
    refine B.itemL (.inr ⟨o, hs, hl⟩) (by decide) (by decide) rfl ?_
    repeat tb_start
    refine B.mod (by lia) (fun _ => ?_)
    repeat tb_start
    refine B.itemL (.inr ⟨o, hs, hl⟩) (by decide) (by decide) rfl ?_
    repeat tb_start
    refine B.fdiv (by lia) (PyProof.noPylong_small (by lia)) (fun _ => ?_)
    repeat tb_start
    refine B.setL hs hl (by decide) (by decide) (by simp) (fun o' ho' => ?_)
    repeat tb_start
    exact ⟨rfl, _, _, o', rfl, Int.fmod_nonneg_of_pos _ h0, Int.fmod_lt_of_pos _ h0, ⟨_, _, _, _, ho', Int.fdiv_nonneg hx (Int.le_of_lt h0), hy, hy2⟩, up_self, CK.refl.up (.head _)⟩
  · repeat tb_start
    refine B.itemL (.inr ⟨o, hs, hl⟩) (by decide) (by decide) rfl ?_
    repeat tb_start
    refine B.mul (mul_ok (by lia)) (fun _ => ?_)
    repeat tb_start
    refine B.mod (by decide) (fun _ => ?_)
    repeat tb_start
    refine B.setL hs hl (by decide) (by decide) (by simp) (fun o' ho' => ?_)
    have hy' : 0 ≤ (y * 39373 + 7).fmod 2147483647 := Int.fmod_nonneg_of_pos _ (by decide)
    have hy2' : (y * 39373 + 7).fmod 2147483647 < 2147483647 := Int.fmod_lt_of_pos _ (by decide)
    generalize (y * 39373 + 7).fmod 2147483647 = y' at *
    repeat tb_start
    refine B.itemL (.inr ⟨o', up_self, ho'⟩) (by decide) (by decide) rfl ?_
    repeat tb_start
    refine B.itemL (.inr ⟨o', up_self, ho'⟩) (by decide) (by decide) rfl ?_
    refine B.mul (mul_ok (by lia)) (fun _ => ?_)
    repeat tb_start
    refine B.mod (by decide) (fun _ => ?_)
    repeat tb_start
    refine B.fdiv (by decide) (PyProof.noPylong_small (by decide)) (fun _ => ?_)
    repeat tb_start
    refine B.mod (by lia) (fun _ => ?_)
    repeat tb_start
    exact ⟨rfl, _, _, o', rfl, Int.fmod_nonneg_of_pos _ h0, Int.fmod_lt_of_pos _ h0, ⟨_, _, _, _, ho', hx, hy', hy2'⟩, up_self, CK.refl.up (.head _)⟩
end
theorem look643' : True := trivial
noncomputable def BoxO (D : Wd) (o : Obj) (n : Nat) : Prop := ∃ t, o.IsDictOf (PySem.strKind Pw D.w) [(sS "many", .int n t)]
section
variable {D : Wd} {A : Around} {F : Fn} {G C G' C' : PM} {m : LM} {h : Heap} {env : Env} {pos : Pos}
theorem B.maxInt {a b : Int} {t u : Tok} {Q : Value → PM → PM → LM → Prop} (hh : A.handled = none) (q : ∀ t, Q (.int (if b > a then b else a) t) G C m) : B D F A (PySem.call (.builtin "max") [.int a t, .int b u]) Q G C m := fun h c tk =>
  max_two_ints (s := St D h tk) hh fun h' tk' hk => ⟨h', tk', rfl, G, C, m, c.after (c.ok.grow hk) (.grow hk), by
    split
    · rename_i z; have := q u; rw [if_pos z] at this; exact this
    · rename_i z; have := q t; rw [if_neg z] at this; exact this⟩
theorem B.powInt {a n : Int} {t u : Tok} {Q : Value → PM → PM → LM → Prop} (hn : 0 ≤ n) (hn2 : n ≤ 1000000) (ha : a.natAbs < 2 ^ 64) (q : ∀ t, Q (.int (a ^ n.toNat) t) G C m) : B D F A (binaryOp .Pow (.int a t) (.int n u)) Q G C m :=
  B.val (fun v => ∃ t, v = .int (a ^ n.toNat) t) (fun h c Q E tk j => pow_int_small hn hn2 ha (j _ _ ⟨_, rfl⟩)) fun v ⟨t, e⟩ => e ▸ q t
theorem B.negInt {a : Int} {t : Tok} {Q : Value → PM → PM → LM → Prop} (q : ∀ t, Q (.int (-a) t) G C m) : B D F A (unaryOp .USub (.int a t)) Q G C m :=
  B.val (fun v => ∃ t, v = .int (-a) t) (fun h c Q E tk j => neg_int (j _ _ ⟨_, rfl⟩)) fun v ⟨t, e⟩ => e ▸ q t
theorem mul_okR {a b : Int} (h : b.natAbs < 2 ^ 64) : IntMulOk a b := .of_right (by
  unfold Builtin.Int.intBits
  by_cases z : b = 0
  · subst z; decide
  · have n : b.natAbs ≠ 0 := by lia
    have := (Nat.log2_lt n).mpr h
    rw [if_neg (by simpa using z)]
    lia)
theorem one_ok {src l : Addr} {vs : List Value} {o : Obj} (R : Room A 2) (hs : C src = some o) (ho : SrcO o) (hl : LsA G l vs) (h0 : 0 < vs.length) (h1 : vs.length < 100) :
    CodeOk D A (.ref 636) [.ref src, .ref l] G C (fun r G' C' => G' = G ∧ r ∈ vs ∧ ∃ o', SrcO o' ∧ C' src = some o' ∧ CK C C' [src]) := by
  refine codeOk_def (binds := [(sS "source", .ref src), (sS "things", .ref l)]) (look636 _) (by kernel_rfl) R.lt (fun s X => BindsTo.of_eq rfl) (locs rfl) ?_ (by decide)
  intro F hG hC env₀ A₀ m₀ Q₀ q₀
  refine B.cons ?_
  repeat tb_start
  refine B.lenL (.inl hl) (by exact ca2 (by assumption)) (fun _ => ?_)
  repeat tb_start
  refine B.callOk (take_ok R.deeper hs ho (by lia) (by lia)).call (fun r G' C' g p => ?_)
  obtain ⟨rfl, k, t, o', rfl, hk0, hk1, ho', hs', ck⟩ := p
  have hlt : k.toNat < vs.length := by lia
  refine B.itemL (.inl hl) hk0 (by lia) (List.getElem?_eq_getElem hlt) ?_
  repeat tb_start
  exact ⟨rfl, List.getElem_mem hlt, o', ho', hs', ck⟩
theorem new_ok {bx : Addr} {b : String} {t : Tok} {o : Obj} {n : Nat} (R : Room A 1) (hb : (sS b).length < 10) (hs : C bx = some o) (ho : BoxO D o n) (hn : n < 60) (hz : (bx == sysModules) = false) :
    CodeOk D A (.ref 643) [.ref bx, .str (sS b) t] G C (fun r G' C' => G' = G ∧ (∃ t, r = .str (nm b (n + 1)) t) ∧ ∃ o', BoxO D o' (n + 1) ∧ C' bx = some o' ∧ CK C C' [bx]) := by
  obtain ⟨tn, hd⟩ := ho
  refine codeOk_def (binds := [(sS "box", .ref bx), (sS "base", .str (sS b) t)]) (look643 _) (by kernel_rfl) R.lt (fun s X => BindsTo.of_eq rfl) (locs rfl) ?_ (by decide)
  intro F hG hC env₀ A₀ m₀ Q₀ q₀
  refine B.cons ?_
  repeat tb_start
  refine B.itemD (.inr ⟨hz, o, hs, hd⟩) rfl ?_
  repeat tb_start
  refine B.setD hs hd (show 1 ≤ 2 ^ 24 by decide) (fun o' hd' => ?_)
  repeat tb_start
  refine B.addStr (by show (sS b).length + (sS ".").length ≤ 2 ^ 24; have : (sS ".").length = 1 := (by decide); lia) (fun _ => ?_)
  repeat tb_start
  refine B.itemD (kvs := [(sS "many", .int (n + 1) _)]) (.inr ⟨hz, o', up_self, hd'⟩) rfl ?_
  repeat tb_start
  have hlog : ((n : Int) + 1).natAbs.log2 < 1920 := by
    refine (Nat.log2_lt (by lia)).mpr ?_
    have : ((n : Int) + 1).natAbs ≤ 2 ^ 6 := by exact ca2 (by assumption)
    exact Nat.lt_of_le_of_lt this (Nat.pow_lt_pow_right (by decide) (by decide))
  refine B.strInt hlog (fun _ => ?_)
  have hn1 : ((n : Int) + 1) = ((n + 1 : Nat) : Int) := by lia
  have hlen : ∀ k : Nat, k < 64 → (Str.ofString (toString (k : Int))).length ≤ 10 := by
    have : ∀ k : Nat, k < 64 → (decide ((Str.ofString (toString ((k : Nat) : Int))).length ≤ 10)) = true := by decide +kernel
    exact fun k h => of_decide_eq_true (this k h)
  refine B.addStr (by
    have e1 := hlen (n + 1) (by exact Nat.lt_of_le_of_lt (by assumption) (Nat.le_of_ble_eq_true rfl))
    rw [hn1]
    show (sS b ++ sS ".").length + _ ≤ 2 ^ 24
    have : (sS b ++ sS ".").length = (sS b).length + 1 := by show (_ ++ _ : Array Nat).size = _; rw [Array.size_append]; rfl
    lia) (fun _ => ?_)
  repeat tb_start
  refine ⟨rfl, ⟨_, by rw [hn1]; rfl⟩, o', ⟨_, by rw [hn1] at hd'; exact hd'⟩, up_self, CK.refl.up (.head _)⟩
end
section
variable {D : Wd} {A : Around} {F : Fn} {G C G' C' : PM} {m : LM} {h : Heap} {env : Env} {pos : Pos}
theorem Cells.pA {cl : List (Str × Addr)} {cm : Str → Option Value} {G C G₁ C₁ : PM} (k : Cells cl cm G C G₁ C₁) (n : Str) {c : Addr} {v : Value} (h1 : cl.lookup n = some c) (h2 : cm n = some v) : ClA G₁ c v := let ⟨o, a, b⟩ := k.p n c v h1 h2; ⟨o, a, b⟩
/-- the generator's state -/
structure GS (D : Wd) (C : PM) (src bx : Addr) (n : Nat) : Prop where
  s : ∃ o, C src = some o ∧ SrcO o
  b : ∃ o, C bx = some o ∧ BoxO D o n
  z : (bx == sysModules) = false
  ne : src ≠ bx
variable {src bx : Addr} {n : Nat}
theorem GS.ck (g : GS D C src bx n) {o : Obj} (ho : SrcO o) (hs : C' src = some o) (k : CK C C' [src]) : GS D C' src bx n :=
  ⟨⟨o, hs, ho⟩, let ⟨b, e, r⟩ := g.b; ⟨b, k _ _ e (by simpa using Ne.symm g.ne), r⟩, g.z, g.ne⟩
theorem CK.mono {C C' : PM} {as bs : List Addr} (k : CK C C' as) (h : ∀ a ∈ as, a ∈ bs) : CK C C' bs := fun a o e n => k a o e fun z => n (h a z)
theorem take_gs {top : Int} {t : Tok} (R : Room A 1) (g : GS D C src bx n) (h0 : 0 < top) (h1 : top < 100) :
    CodeOk D A (.ref 629) [.ref src, .int top t] G C (fun r G' C' => G' = G ∧ Ex2 fun k t => r = .int k t ∧ And4 (0 ≤ k) (k < top) (GS D C' src bx n) (CK C C' [src, bx])) := by
  obtain ⟨o, hs, ho⟩ := g.s
  refine (take_ok R hs ho h0 h1).mono fun v G' C' _ p => ?_
  obtain ⟨e, k, t, o', rfl, hk0, hk1, ho', hs', ck⟩ := p
  exact ⟨e, k, t, rfl, hk0, hk1, g.ck ho' hs' ck, ck.mono (by simp)⟩
theorem one_gs {l : Addr} {vs : List Value} (R : Room A 2) (g : GS D C src bx n) (hl : LsA G l vs) (h0 : 0 < vs.length) (h1 : vs.length < 100) :
    CodeOk D A (.ref 636) [.ref src, .ref l] G C (fun r G' C' => G' = G ∧ r ∈ vs ∧ GS D C' src bx n ∧ CK C C' [src, bx]) := by
  obtain ⟨o, hs, ho⟩ := g.s
  refine (one_ok R hs ho hl h0 h1).mono fun v G' C' _ p => ?_
  obtain ⟨e, hr, o', ho', hs', ck⟩ := p
  exact ⟨e, hr, g.ck ho' hs' ck, ck.mono (by simp)⟩
theorem new_gs {b : String} {t : Tok} (R : Room A 1) (hb : (sS b).length < 10) (g : GS D C src bx n) (hn : n < 60) :
    CodeOk D A (.ref 643) [.ref bx, .str (sS b) t] G C (fun r G' C' => G' = G ∧ (∃ t, r = .str (nm b (n + 1)) t) ∧ GS D C' src bx (n + 1) ∧ CK C C' [src, bx]) := by
  obtain ⟨o, hs, ho⟩ := g.b
  refine (new_ok R hb hs ho hn g.z).mono fun v G' C' _ p => ?_
  obtain ⟨e, hr, o', ho', hs', ck⟩ := p
  refine ⟨e, hr, ⟨?_, ⟨o', hs', ho'⟩, g.z, g.ne⟩, ck.mono (by simp)⟩
  obtain ⟨s, e, r⟩ := g.s
  exact ⟨s, ck _ _ e (by simpa using g.ne), r⟩
end
noncomputable def bnd : Nat → Nat
  | 0 => 0
  | d + 1 => 3 * bnd d + 1
theorem strsAre_len : ∀ {vs : List Value} {ss : List Str}, StrsAre vs ss → vs.length = ss.length
  | _, _, .nil => rfl
  | _, _, .cons _ _ h => congrArg (· + 1) (strsAre_len h)
theorem rd_strs {G : PM} : ∀ {vs : List Value} {ss : List Str}, StrsAre vs ss → RdGs G vs (ss.map .str)
  | _, _, .nil => .nil
  | _, _, .cons _ _ h => .cons .str (rd_strs h)
theorem rd_calls {G : PM} : ∀ {vs : List Value} {cs : List (N × Nat)}, PySem.Paired (fun (v : Value) (c : N × Nat) => ∃ a t t', v = .ref a ∧ TpA G a [.str c.1 t, .int (c.2 : Int) t']) vs cs → RdGs G vs (cs.map fun c => .tuple [.str c.1, .int (c.2 : Int)])
  | _, _, .nil => .nil
  | _, _, .cons ⟨a, t, t', e, r⟩ h => .cons (e ▸ .tuple r (.cons .str (.cons .int .nil))) (rd_calls h)
theorem shaped_strs {ss : List Str} (h : ∀ x ∈ ss, PyData.strOk x = true) : PySem.SeqAt.shaped (.list (ss.map .str)) = true := by
  have h1 : PyData.canLayAll0 (ss.map .str) = true := by
    induction ss with
    | nil => simp [PyData.canLayAll0]
    | cons x r ih => simp only [List.map_cons, PyData.canLayAll0, PyData.canLay0, h x (by simp), ih fun y hy => h y (by simp [hy]), Bool.and_self]
  have h2 : ∀ ss : List Str, PyData.depthAll (ss.map PyData.str) = 0 := by
    intro ss
    induction ss with
    | nil => simp [PyData.depthAll]
    | cons x r ih => simp [PyData.depthAll, PyData.depth, ih]
  unfold PySem.SeqAt.shaped
  simp [PyData.canLay0, h1, PyData.depth, h2]
theorem shaped_calls {cs : List (N × Nat)} (h : ∀ x ∈ cs, PyData.strOk x.1 = true) : PySem.SeqAt.shaped (.list (cs.map fun c => .tuple [.str c.1, .int (c.2 : Int)])) = true := by
  have h1 : PyData.canLayAll0 (cs.map fun c => .tuple [.str c.1, .int (c.2 : Int)]) = true := by
    induction cs with
    | nil => simp [PyData.canLayAll0]
    | cons x r ih => simp only [List.map_cons, PyData.canLayAll0, PyData.canLay0, h x (by simp), ih fun y hy => h y (by simp [hy]), Bool.and_self]
  have h2 : ∀ cs : List (N × Nat), PyData.depthAll (cs.map fun c => PyData.tuple [.str c.1, .int (c.2 : Int)]) ≤ 1 := by
    intro cs
    induction cs with
    | nil => simp [PyData.depthAll]
    | cons x r ih => simp [PyData.depthAll, PyData.depth] at ih ⊢; lia
  unfold PySem.SeqAt.shaped
  have := h2 cs
  simp [PyData.canLay0, h1, PyData.depth]; lia
theorem eqv_nil (ds : List PyData) : PyData.eqv (.list ds) (.list []) = ds.isEmpty := by cases ds <;> simp [PyData.eqv, PyData.eqvAll]
theorem Paired.nth {α β : Type} {R : α → β → Prop} : ∀ {l : List α} {k : List β}, PySem.Paired R l k → ∀ x ∈ l, ∃ y ∈ k, R x y
  | _, _, .cons a b, x, hx => by
    rcases List.mem_cons.mp hx with rfl | hx
    · exact ⟨_, by simp, a⟩
    · obtain ⟨y, hy, r⟩ := Paired.nth b x hx; exact ⟨y, by simp [hy], r⟩
theorem paired_len {α β : Type} {R : α → β → Prop} {l : List α} {k : List β} (h : PySem.Paired R l k) : l.length = k.length := h.length
section
variable {D : Wd} {A : Around} {F : Fn} {G C : PM} {m : LM}
noncomputable def GoodT (cs : List (N × Nat)) (xs : List N) (d : Nat) (t : Tm) : Prop := Src t ∧ WSc cs t xs ∧ ht t ≤ d + 1
inductive XPost (D : Wd) (src bx : Addr) (cs : List (N × Nat)) (xs : List N) (d n : Nat) (C : PM) (r : Value) (G' C' : PM) : Prop
  | mk : ∀ t n', (TmA G' r t) → (GoodT cs xs d t) → (GS D C' src bx n') → (n ≤ n') → (n' ≤ n + bnd d) → (CK C C' [src, bx]) → XPost D src bx cs xs d n C r G' C'
inductive XInv (D : Wd) (src bx : Addr) (cs : List (N × Nat)) (xs : List N) (d n : Nat) (C : PM) (i : Nat) (ys : List Value) (G' C' : PM) : Prop
  | mk : ∀ ts n', (PySem.Paired (TmA G') ys ts) → (ts.length = i) → ((∀ t ∈ ts, GoodT cs xs d t)) → (GS D C' src bx n') → (n ≤ n') → (n' ≤ n + i * bnd d) → (CK C C' [src, bx]) → XInv D src bx cs xs d n C i ys G' C'
theorem Cells.ck {cl : List (Str × Addr)} {cm : Str → Option Value} {G C G₁ C₁ : PM} (k : Cells cl cm G C G₁ C₁) (as : List Addr) : CK C C₁ as := fun a o e _ => k.c a o e
theorem GS.cl {cl : List (Str × Addr)} {cm : Str → Option Value} {G C G₁ C₁ : PM} {src bx : Addr} {n : Nat} (g : GS D C src bx n) (k : Cells cl cm G C G₁ C₁) : GS D C₁ src bx n :=
  ⟨let ⟨o, e, r⟩ := g.s; ⟨o, k.c _ _ e, r⟩, let ⟨o, e, r⟩ := g.b; ⟨o, k.c _ _ e, r⟩, g.z, g.ne⟩
theorem lit_is {a : Addr} {t t' : Tok} {i : Int} {cs : List (N × Nat)} {xs : List N} {d : Nat} (h : InA G a 101 [(Str.ofString "kind", .str (Str.ofString "int") t), (Str.ofString "value", .int i t')]) : TmA G (.ref a) (.lit i) ∧ GoodT cs xs d (.lit i) :=
  ⟨⟨a, t, t', rfl, h⟩, trivial, trivial, Nat.zero_le _⟩
noncomputable def ExprIH (D : Wd) (d : Nat) : Prop := ∀ {A : Around} {G C : PM} {src bx ln lc : Addr} {t : Tok} {n : Nat} {xs : List N} {cs : List (N × Nat)} (R : Room A (10 * d + 10)) (g : GS D C src bx n) (hn : n + bnd d < 60) (hl : NamesA G ln xs) (hx : ∀ x ∈ xs, Nm x) (hc : CallsA G lc cs)
    (hcs : ∀ c ∈ cs, PyData.strOk c.1 = true ∧ (c.2 = 1 ∨ c.2 = 2)) (hlen : xs.length + d < 20) (hclen : cs.length < 20), CodeOk D A (.ref 648) [.ref src, .ref bx, .ref ln, .ref lc, .int (d : Int) t] G C (XPost D src bx cs xs d n C)
theorem XInv.next {src bx : Addr} {cs : List (N × Nat)} {xs : List N} {d n n' i : Nat} {G G' C₀ C' : PM} {ys : List Value} {r : Value} {t : Tm} {ts : List Tm} {n'' : Nat} (hp : PySem.Paired (TmA G) ys ts) (hl : ts.length = i) (hgt : ∀ t ∈ ts, GoodT cs xs d t) (h1 : n ≤ n') (h2 : n' ≤ n + i * bnd d) (ck : CK C₀ C [src, bx])
    (g : GLe G G') (tm : TmA G' r t) (gt : GoodT cs xs d t) (gs : GS D C' src bx n'') (h3 : n' ≤ n'') (h4 : n'' ≤ n' + bnd d) (ck' : CK C C' [src, bx]) : XInv D src bx cs xs d n C₀ (i + 1) (ys ++ [r]) G' C' :=
  ⟨ts ++ [t], n'', (Paired.imp (fun _ _ h => h.up g) hp).snoc tm, by simp [hl], fun u hu => by
    rcases List.mem_append.mp hu with hu | hu
    · exact hgt u hu
    · simp at hu; subst hu; exact gt, gs, by exact Nat.le_trans (by assumption) (by assumption), by rw [Nat.add_mul, Nat.one_mul]; lia, ck.trans ck'⟩
theorem paired_two {α β : Type} {R : α → β → Prop} {l : List α} {k : List β} (h : PySem.Paired R l k) (hk : k.length = 2) : ∃ a b c d, l = [a, b] ∧ k = [c, d] ∧ R a c ∧ R b d := by
  cases h with
  | nil => cases hk
  | cons p h =>
    cases h with
    | nil => cases hk
    | cons q h =>
      cases h with
      | nil => exact ⟨_, _, _, _, rfl, rfl, p, q⟩
      | cons _ _ => cases hk
theorem paired_one {α β : Type} {R : α → β → Prop} {l : List α} {k : List β} (h : PySem.Paired R l k) (hk : k.length = 1) : ∃ a c, l = [a] ∧ k = [c] ∧ R a c := by
  cases h with
  | nil => cases hk
  | cons p h =>
    cases h with
    | nil => exact ⟨_, _, rfl, rfl, p⟩
    | cons _ _ => cases hk
theorem okName_of {b : String} {c n : Nat} (h : okName b c n = true) : Nm (nm b n) ∧ (nm b n).cps[0]? = some c := by
  unfold okName at h
  simp only [Bool.and_eq_true, beq_iff_eq] at h
  exact ⟨⟨h.1.1, h.1.2⟩, h.2⟩
theorem nm_c {n : Nat} (h : n < 64) : Nm (nm "c" n) := by
  have := names_ok n h
  simp only [Bool.and_eq_true] at this
  exact (okName_of this.1.1.1.1.1.2).1
theorem nm_l {n : Nat} (h : n < 64) : Nm (nm "l" n) ∧ NmL (nm "l" n) := by
  have := names_ok n h
  simp only [Bool.and_eq_true] at this
  exact okName_of this.1.1.1.1.2
theorem nm_p {n : Nat} (h : n < 64) : Nm (nm "p" n) ∧ (nm "p" n).cps[0]? = some 112 := by
  have := names_ok n h
  simp only [Bool.and_eq_true] at this
  exact okName_of this.1.1.1.1.1.1
theorem nm_n {n : Nat} (h : n < 64) : Nm (nm "n" n) ∧ (nm "n" n).cps[0]? = some 110 := by
  have := names_ok n h
  simp only [Bool.and_eq_true] at this
  exact okName_of this.1.1.1.2
theorem nm_a {n : Nat} (h : n < 64) : Nm (nm "a" n) ∧ (nm "a" n).cps[0]? = some 97 := by
  have := names_ok n h
  simp only [Bool.and_eq_true] at this
  exact okName_of this.1.1.2
theorem nm_pp {n : Nat} (h : n < 64) : nm "p" n ≠ nm "p" (n + 1) := by
  have := names_ok n h
  simp only [Bool.and_eq_true] at this
  exact of_decide_eq_true this.1.2
theorem strs_snoc : ∀ {vs : List Value} {xs : List Str} {x : Str} {t : Tok}, StrsAre vs xs → StrsAre (vs ++ [.str x t]) (xs ++ [x])
  | _, _, x, t, .nil => .cons x t .nil
  | _, _, _, _, .cons y u h => .cons y u (strs_snoc h)
theorem expr_step (d : Nat) (ih : ∀ d', d = d' + 1 → ExprIH D d') : ExprIH D d := by
  intro A G C src bx ln lc t n xs cs R g hn hl hx hc hcs hlen hclen
  refine codeOk_cellsB (binds := [(sS "source", .ref src), (sS "box", .ref bx), (sS "names", .ref ln), (sS "calls", .ref lc), (sS "deep", .int (d : Int) t)]) (look648 _) (by kernel_rfl) (R.le (by exact Nat.le_of_ble_eq_true rfl : 1 ≤ _)).lt rfl (by kernel_rfl) ?_
  intro F hG hC G₁ C₁ cs₀ env₀ A₀ m₀ cl Q₀ q₀
  have k1 := cl.pA (sS "source") rfl rfl
  have k2 := cl.pA (sS "box") rfl rfl
  have k3 := cl.pA (sS "names") rfl rfl
  have k4 := cl.pA (sS "calls") rfl rfl
  have k5 := cl.pA (sS "deep") rfl rfl
  have g0 := cl.g
  have g1 := g.cl cl
  have ck0 := cl.ck (as := [src, bx])
  have hl1 := hl.up g0
  have hc1 := hc.up g0
  have R1 : Room A₀ 9 := (R.le (by exact Nat.le_of_ble_eq_true rfl : 9 + 1 ≤ _)).deeper
  have Rd : ∀ d', d = d' + 1 → Room A₀ (10 * d' + 10) := fun d' e => ((R.le (by lia : (10 * d' + 10) + 1 ≤ _)).deeper)
  generalize m₀ = m0
  refine B.cons (B.mono (Q := fun fl G' C' m' => And3 (fl = .next) (G' = G₁) (Ex2 fun w tw => And5 (m' = upS m0 (sS "way") (.int w tw)) (0 ≤ w) (d = 0 → w < 2) (GS D C' src bx n) (CK C C' [src, bx]))) ?first ?rest)
  case first =>
    repeat tb_start
    refine B.ifE (fun hd => ?_) (fun hd => ?_)
    · repeat tb_start
      refine B.callI (take_gs (R1.le (by exact Nat.le_of_ble_eq_true rfl)) g1 (by decide) (by decide)) (fun k t' C' p => ?_)
      obtain ⟨hk0, hk1, g2, ck⟩ := p
      repeat tb_start
      exact ⟨rfl, rfl, k, t', rfl, hk0, fun z => by subst z; simp at hd, g2, ck0.trans ck⟩
    · repeat tb_start
      exact ⟨rfl, rfl, _, _, rfl, by decide, fun _ => by decide, g1, ck0⟩
  case rest =>
    intro fl G' C' m' hp
    obtain ⟨rfl, rfl, w, tw, rfl, hw0, hwd, g2, ck⟩ := hp
    have lit4 : ∀ {G₂ C₂ : PM} {m₂ : LM} {F₂ : Fn} {Q : Value → PM → PM → LM → Prop} {e : Str} {k : Nat} {p : Pos}, True := fun {_ _ _ _ _ _ _ _} => trivial
    refine Then.next (B.cons ?_)
    repeat tb_start
    refine B.ifS (fun hw => ?_) (fun hw => ?_)
    · repeat tb_start
      refine B.list ?_
      repeat tb_start
      refine ⟨Nat.le_of_ble_eq_true rfl, fun ea Ge ge le => ?_⟩
      obtain ⟨vs, hvs, hst⟩ := hl1
      refine B.neData (RdG.list (hvs.up ge) (rd_strs hst)) (RdG.list le .nil) (shaped_strs fun x h => (hx x h).2) (by decide) (by have := R.u; show A.units + 3 + 64 < 9900; lia) ?_
      repeat tb_start
      rw [eqv_nil, List.isEmpty_map]
      cases hxe : xs.isEmpty
      · repeat tb_start
        refine B.callI (take_gs (R1.le (by exact Nat.le_of_ble_eq_true rfl)) g2 (by decide) (by decide)) (fun k t' C' p => ?_)
        obtain ⟨hk0, hk1, g3, ck3⟩ := p
        repeat tb_start
        cases hk : decide (k > 0)
        · repeat tb_start
          refine B.callI (take_gs (R1.le (by exact Nat.le_of_ble_eq_true rfl)) g3 (by decide) (by decide)) (fun k t' C' p => ?_)
          obtain ⟨hk0, hk1, g4, ck4⟩ := p
          repeat tb_start
          refine B.callX (mk_Lit (R1.le (by exact Nat.le_of_ble_eq_true rfl)) _ _) (fun x G' g hi => ?_)
          repeat tb_start
          exact ⟨_, n, (lit_is (xs := xs) (cs := cs) (d := d) hi).1, (lit_is hi).2, g4, Nat.le_refl _, Nat.le_add_right _ _, (ck.trans ck3).trans ck4⟩
        · repeat tb_start
          have hlv : vs.length = xs.length := strsAre_len hst
          have hx0 : 0 < vs.length := by
            rw [hlv]; cases xs with
            | nil => cases hxe
            | cons _ _ => exact Nat.succ_pos _
          refine B.callS (one_gs (R1.le (by exact Nat.le_of_ble_eq_true rfl)) g3 (hvs.up ge) hx0 (by lia)) (fun r C' p => ?_)
          obtain ⟨hr, g4, ck4⟩ := p
          obtain ⟨x, t', rfl⟩ := hst.all _ hr
          have hxx : x ∈ xs := by
            have := List.mem_map_of_mem (f := strOf) hr
            rw [hst.strs] at this; exact this
          repeat tb_start
          refine B.callX (mk_Var (R1.le (by exact Nat.le_of_ble_eq_true rfl)) _) (fun y G' g hi => ?_)
          repeat tb_start
          exact ⟨.var x, n, ⟨y, t', rfl, hi⟩, ⟨hx x hxx, hxx, Nat.zero_le _⟩, g4, Nat.le_refl _, Nat.le_add_right _ _, (ck.trans ck3).trans ck4⟩
      · repeat tb_start
        refine B.callI (take_gs (R1.le (by exact Nat.le_of_ble_eq_true rfl)) g2 (by decide) (by decide)) (fun k t' C' p => ?_)
        obtain ⟨hk0, hk1, g4, ck4⟩ := p
        repeat tb_start
        refine B.callX (mk_Lit (R1.le (by exact Nat.le_of_ble_eq_true rfl)) _ _) (fun x G' g hi => ?_)
        repeat tb_start
        exact ⟨_, n, (lit_is (xs := xs) (cs := cs) (d := d) hi).1, (lit_is hi).2, g4, Nat.le_refl _, Nat.le_add_right _ _, ck.trans ck4⟩
    · have hw2 : 2 ≤ w := by simpa using hw
      obtain ⟨d', rfl⟩ : ∃ d', d = d' + 1 := by
        cases d with
        | zero => have := hwd rfl; lia
        | succ d' => exact ⟨d', rfl⟩
      have IH : ExprIH D d' := ih d' rfl
      have R2 := Rd d' rfl
      have hb : bnd (d' + 1) = 3 * bnd d' + 1 := rfl
      have e1 : ((d' + 1 : Nat) : Int) - 1 = (d' : Int) := by lia
      have hh : A₀.handled = none := R.h
      repeat tb_start
      refine B.ifS (fun hw => ?_) (fun hw => ?_)
      · repeat tb_start
        refine B.listComp (cl := ?cl) ?x ?h1 ?h2 rfl ?h4 ?h5
        case h1 => exact rfl
        case h2 => decide
        case h4 => decide
        case h5 => exact fun _ => rfl
        repeat tb_start
        refine B.range (fun ra Gr gr hr => ?_)
        refine ⟨2, _, XInv D src bx cs xs d' n C, iter_range hh (by decide) hr, by decide, ⟨[], n, .nil, rfl, by simp, g2, Nat.le_refl _, by exact Nat.le_add_right _ _, ck⟩, ?_, ?_⟩
        · intro i v ys Gi Ci mi Fi hi hFG hFC hg inv hP
          refine B.opq fun Q₁ q₁ => ?_
          obtain ⟨ts, n', hp, hlt, hgt, gi, hn1, hn2, cki⟩ := inv
          have hi2 : i * bnd d' ≤ 1 * bnd d' := Nat.mul_le_mul_right _ (by exact Nat.le_of_succ_le_succ (by assumption))
          repeat tb_start
          rw [e1]
          refine B.callOk (IH R2 gi (by lia) (by walk_at "mine.at") hx (by walk_at "mine.at") hcs (by exact Nat.le_of_succ_le (by assumption)) hclen).call (fun r G' C' g p => ?_)
          obtain ⟨t, n'', tm, gt, gs, h3, h4, ck'⟩ := p
          exact XInv.next hp hlt hgt hn1 hn2 cki g tm gt gs h3 h4 ck'
        · intro ys Gi Ci a G2 hg inv hg2 hla
          obtain ⟨ts, n', hp, hlt, hgt, gi, hn1, hn2, cki⟩ := inv
          repeat tb_start
          refine B.callX (mk_Prim (R1.le (by exact Nat.le_of_ble_eq_true rfl)) _ _) (fun x G' g hi => ?_)
          repeat tb_start
          obtain ⟨y1, y2, t1, t2, rfl, rfl, p1, p2⟩ := paired_two hp hlt
          have q1 := hgt t1 (by simp)
          have q2 := hgt t2 (by simp)
          exact ⟨.add t1 t2, n', ⟨x, _, a, y1, y2, rfl, hi, hla.up g, (p1.up hg2).up g, (p2.up hg2).up g⟩, ⟨⟨q1.1, q2.1⟩, ⟨q1.2.1, q2.2.1⟩, Nat.succ_le_succ (Nat.max_le.mpr ⟨q1.2.2, q2.2.2⟩)⟩, gi, hn1, by lia, cki⟩
      · repeat tb_start
        refine B.ifS (fun hw => ?_) (fun hw => ?_)
        · repeat tb_start
          refine B.asgTupleW (names := [sS "value", sS "name"]) hh ?_ rfl rfl
          refine B.tuple ?_
          repeat tb_start
          rw [e1]
          refine B.callOk (IH R2 g2 (by lia) (by walk_at "mine.at") hx (by walk_at "mine.at") hcs (by exact Nat.le_of_succ_le (by assumption)) hclen).call (fun rv Gv Cv gv pv => ?_)
          obtain ⟨tv, nv, tmv, gtv, gsv, hv1, hv2, ckv⟩ := pv
          repeat tb_start
          refine B.callN (new_gs (b := "c") (R1.le (by exact Nat.le_of_ble_eq_true rfl)) (by decide) gsv (by lia)) (fun tn C' p => ?_)
          obtain ⟨gsn, ckn⟩ := p
          repeat tb_start
          refine ⟨Nat.le_of_ble_eq_true rfl, fun ta Gt gt htp => ?_⟩
          refine ⟨ta, _, rfl, htp, rfl, ?_⟩
          refine B.inOrder ?_
          repeat tb_start
          refine B.inOrder ?_
          repeat tb_start
          refine B.inOrder0 ?_
          repeat tb_start
          -- alt = Alt(..)
          refine B.tuple ?_
          repeat tb_start
          refine B.callI (take_gs (R1.le (by exact Nat.le_of_ble_eq_true rfl)) gsn (by decide) (by decide)) (fun k tk C' p => ?_)
          obtain ⟨hk0, hk1, gs3, ck3⟩ := p
          repeat tb_start
          refine ⟨Nat.le_of_ble_eq_true rfl, fun kt Gk gk hkt => ?_⟩
          repeat tb_start
          refine B.list ?_
          repeat tb_start
          refine ⟨Nat.le_of_ble_eq_true rfl, fun ln0 Gl gl hln => ?_⟩
          repeat tb_start
          refine B.list ?_
          repeat tb_start
          refine ⟨Nat.le_of_ble_eq_true rfl, fun n1 Gm gm hn1' => ?_⟩
          have hlm : NamesA Gm ln xs := by walk_at "mine.at"
          obtain ⟨vsn, hvn, hsn⟩ := hlm
          have hvl := strsAre_len hsn
          refine B.addLists (.inl hvn) (.inl hn1') (by show _ + 1 ≤ 2 ^ 24; lia) (fun n2 Gn2 gn2 hn2' => ?_)
          have hln2 : NamesA Gn2 n2 (xs ++ [nm "c" (nv + 1)]) := ⟨_, hn2', strs_snoc hsn⟩
          have hx2 : ∀ x ∈ xs ++ [nm "c" (nv + 1)], Nm x := fun x hm => by
            rcases List.mem_append.mp hm with hm | hm
            · exact hx x hm
            · simp at hm; subst hm; exact nm_c (by lia)
          have hlen2 : (xs ++ [nm "c" (nv + 1)]).length + d' < 20 := by simp; lia
          repeat tb_start
          rw [e1]
          refine B.callOk (IH R2 gs3 (by lia) hln2 hx2 (by walk_at "mine.at") hcs hlen2 hclen).call (fun ra Ga Ca ga pa => ?_)
          obtain ⟨tba, na, tma, gta, gsa, ha1, ha2, cka⟩ := pa
          repeat tb_start
          refine B.callX (mk_Alt (R1.le (by exact Nat.le_of_ble_eq_true rfl)) _ _ _) (fun al G' g hal => ?_)
          repeat tb_start
          refine B.list ?_
          repeat tb_start
          refine ⟨Nat.le_of_ble_eq_true rfl, fun la Gla gla hla => ?_⟩
          repeat tb_start
          refine B.list ?_
          repeat tb_start
          refine ⟨Nat.le_of_ble_eq_true rfl, fun n3 Gn3 gn3 hn3' => ?_⟩
          have hlm3 : NamesA Gn3 ln xs := by walk_at "mine.at"
          obtain ⟨vsn3, hvn3, hsn3⟩ := hlm3
          have hvl3 := strsAre_len hsn3
          refine B.addLists (.inl hvn3) (.inl hn3') (by show _ + 1 ≤ 2 ^ 24; lia) (fun n4 Gn4 gn4 hn4' => ?_)
          have hln4 : NamesA Gn4 n4 (xs ++ [nm "c" (nv + 1)]) := ⟨_, hn4', strs_snoc hsn3⟩
          repeat tb_start
          rw [e1]
          refine B.callOk (IH R2 gsa (by lia) hln4 hx2 (by walk_at "mine.at") hcs hlen2 hclen).call (fun ro Go Co go po => ?_)
          obtain ⟨tbo, no, tmo, gto, gso, ho1, ho2, cko⟩ := po
          repeat tb_start
          refine B.callX (mk_Case (R1.le (by exact Nat.le_of_ble_eq_true rfl)) _ _ _ _) (fun x G' g hi => ?_)
          repeat tb_start
          have f1 : LsA G' la _ := hla.up (by walk_at "mine.g")
          have f2 : InA G' al 242 _ := hal.up (by walk_at "mine.g")
          have f3 : TpA G' kt _ := hkt.up (by walk_at "mine.g")
          have f4 : LsA G' ln0 _ := hln.up (by walk_at "mine.g")
          have f5 : TmA G' rv tv := tmv.up (by walk_at "mine.g")
          have f6 : TmA G' ra tba := tma.up (by walk_at "mine.g")
          have f7 : TmA G' ro tbo := tmo.up (by walk_at "mine.g")
          exact ⟨.case tv (nm "c" (nv + 1)) k tba tbo, no, ⟨x, _, tn, la, al, kt, ln0, _, _, _, _, _, rfl, hi, f1, f2, f3, f4, f5, f6, f7⟩, ⟨⟨gtv.1, nm_c (by lia), gta.1, gto.1⟩, ⟨gtv.2.1, gta.2.1, gto.2.1⟩, Nat.succ_le_succ (Nat.max_le.mpr ⟨gtv.2.2, Nat.max_le.mpr ⟨gta.2.2, gto.2.2⟩⟩)⟩, gso, by lia, by lia, (((((ck.trans ckv).trans ckn).trans ck3).trans cka).trans cko)⟩
        · repeat tb_start
          refine B.ifS (fun hw => ?_) (fun hw => ?_)
          · repeat tb_start
            refine B.asgTupleW (names := [sS "held_one", sS "name"]) hh ?_ rfl rfl
            refine B.tuple ?_
            repeat tb_start
            rw [e1]
            refine B.callOk (IH R2 g2 (by lia) (by walk_at "mine.at") hx (by walk_at "mine.at") hcs (by exact Nat.le_of_succ_le (by assumption)) hclen).call (fun rv Gv Cv gv pv => ?_)
            obtain ⟨tv, nv, tmv, gtv, gsv, hv1, hv2, ckv⟩ := pv
            repeat tb_start
            refine B.callN (new_gs (b := "l") (R1.le (by exact Nat.le_of_ble_eq_true rfl)) (by decide) gsv (by lia)) (fun tn C' p => ?_)
            obtain ⟨gsn, ckn⟩ := p
            repeat tb_start
            refine ⟨Nat.le_of_ble_eq_true rfl, fun ta Gt gt htp => ?_⟩
            refine ⟨ta, _, rfl, htp, rfl, ?_⟩
            refine B.inOrder ?_
            repeat tb_start
            refine B.inOrder ?_
            repeat tb_start
            refine B.inOrder0 ?_
            repeat tb_start
            refine B.listZ ?_
            repeat tb_start
            refine B.tuple ?_
            repeat tb_start
            refine ⟨Nat.le_of_ble_eq_true rfl, fun tp Gtp gtp htp2 => ?_⟩
            repeat tb_start
            refine ⟨Nat.le_of_ble_eq_true rfl, fun lb Glb glb hlb => ?_⟩
            repeat tb_start
            refine B.list ?_
            repeat tb_start
            refine ⟨Nat.le_of_ble_eq_true rfl, fun n1 Gm gm hn1' => ?_⟩
            have hlm : NamesA Gm ln xs := by walk_at "mine.at"
            obtain ⟨vsn, hvn, hsn⟩ := hlm
            have hvl := strsAre_len hsn
            refine B.addLists (.inl hvn) (.inl hn1') (by show _ + 1 ≤ 2 ^ 24; lia) (fun n2 Gn2 gn2 hn2' => ?_)
            have hln2 : NamesA Gn2 n2 (xs ++ [nm "l" (nv + 1)]) := ⟨_, hn2', strs_snoc hsn⟩
            have hx2 : ∀ x ∈ xs ++ [nm "l" (nv + 1)], Nm x := fun x hm => by
              rcases List.mem_append.mp hm with hm | hm
              · exact hx x hm
              · simp at hm; subst hm; exact (nm_l (by lia)).1
            have hlen2 : (xs ++ [nm "l" (nv + 1)]).length + d' < 20 := by simp; lia
            repeat tb_start
            rw [e1]
            refine B.callOk (IH R2 gsn (by lia) hln2 hx2 (by walk_at "mine.at") hcs hlen2 hclen).call (fun ra Ga Ca ga pa => ?_)
            obtain ⟨tba, na, tma, gta, gsa, ha1, ha2, cka⟩ := pa
            repeat tb_start
            refine B.callX (mk_Let (R1.le (by exact Nat.le_of_ble_eq_true rfl)) _ _ _) (fun x G' g hi => ?_)
            repeat tb_start
            have f1 : LzA G' lb _ := hlb.up (by walk_at "mine.g")
            have f2 : TpA G' tp _ := htp2.up (by walk_at "mine.g")
            have f5 : TmA G' rv tv := tmv.up (by walk_at "mine.g")
            have f6 : TmA G' ra tba := tma.up (by walk_at "mine.g")
            exact ⟨.lt (nm "l" (nv + 1)) tv tba, na, ⟨x, lb, tp, tn, rv, ra, rfl, hi, f1, f2, f5, f6⟩, ⟨⟨gtv.1, (nm_l (by lia)).1, (nm_l (by lia)).2, gta.1⟩, ⟨gtv.2.1, gta.2.1⟩, Nat.succ_le_succ (Nat.max_le.mpr ⟨gtv.2.2, gta.2.2⟩)⟩, gsa, by lia, by lia, ((ck.trans ckv).trans ckn).trans cka⟩
          · refine B.nil (Then.next (B.cons (B.iff (B.mono (Q := fun b G₂ C₂ m₂ => And4 (C₂ = C') (m₂ = upS m0 (sS "way") (.int w tw)) (GLe G' G₂) (b = true → cs ≠ [])) ?_ ?_))))
            · repeat tb_start
              cases hw6 : decide (w = 6)
              · repeat tb_start
                exact ⟨rfl, rfl, .rfl, nofun⟩
              · repeat tb_start
                refine B.list ?_
                repeat tb_start
                refine ⟨Nat.le_of_ble_eq_true rfl, fun ea Ge ge le => ?_⟩
                have hcm : CallsA Ge lc cs := by walk_at "mine.at"
                obtain ⟨vc, hvc, hpc⟩ := hcm
                refine B.neData (RdG.list hvc (rd_calls hpc)) (RdG.list le .nil) (shaped_calls fun x h => (hcs x h).1) (by decide) (by have := R.u; show A.units + 3 + 64 < 9900; lia) ?_
                repeat tb_start
                rw [eqv_nil, List.isEmpty_map]
                cases hce : cs.isEmpty
                · repeat tb_start
                  exact ⟨rfl, rfl, ge, fun _ z => by rw [z] at hce; cases hce⟩
                · repeat tb_start
                  exact ⟨rfl, rfl, ge, nofun⟩
            · intro b G₂ C₂ m₂ hp
              obtain ⟨rfl, rfl, hg2, hne⟩ := hp
              refine B.ifS (fun hb => ?_) (fun hb => ?_)
              · have hne := hne hb
                have hcm : CallsA G₂ lc cs := by walk_at "mine.at"
                obtain ⟨vc, hvc, hpc⟩ := hcm
                have hvl := paired_len hpc
                have hcl0 : 0 < vc.length := by
                  rw [hvl]; cases cs with
                  | nil => exact absurd rfl hne
                  | cons _ _ => exact Nat.succ_pos _
                refine B.cons (B.asgTupleS ?_ rfl rfl)
                repeat tb_start
                refine B.callS (one_gs (R1.le (by exact Nat.le_of_ble_eq_true rfl)) g2 hvc hcl0 (by lia)) (fun r C' p => ?_)
                obtain ⟨hr, gs3, ck3⟩ := p
                obtain ⟨⟨f, many⟩, hmem, ta, t1, t2, rfl, hta⟩ := Paired.nth hpc r hr
                refine B.asgTuple hh hta rfl rfl ?_
                refine B.inOrder ?_
                repeat tb_start
                refine B.inOrder ?_
                repeat tb_start
                refine B.inOrder0 ?_
                repeat tb_start
                refine B.callX (mk_Var (R1.le (by exact Nat.le_of_ble_eq_true rfl)) _) (fun vf Gf gf hvf => ?_)
                repeat tb_start
                refine B.listComp (cl := ?cl2) ?x2 ?h12 ?h22 rfl ?h42 ?h52
                case h12 => exact rfl
                case h22 => decide
                case h42 => decide
                case h52 => exact fun _ => rfl
                repeat tb_start
                refine B.range (fun ra Gr gr hr => ?_)
                have hm12 := (hcs _ hmem).2
                have hmb : many * bnd d' ≤ 2 * bnd d' := Nat.mul_le_mul_right _ (by lia)
                refine ⟨many, _, XInv D src bx cs xs d' n C, iter_range hh (by lia) hr, by show many ≤ 2 ^ 24; lia, ⟨[], n, .nil, rfl, by simp, gs3, Nat.le_refl _, by exact Nat.le_add_right _ _, ck.trans ck3⟩, ?_, ?_⟩
                · intro i v ys Gi Ci mi Fi hi hFG hFC hg inv hP
                  refine B.opq fun Q₁ q₁ => ?_
                  obtain ⟨ts, n', hp, hlt, hgt, gi, hn1, hn2, cki⟩ := inv
                  have hi2 : i * bnd d' ≤ 1 * bnd d' := Nat.mul_le_mul_right _ (by lia)
                  repeat tb_start
                  rw [e1]
                  refine B.callOk (IH R2 gi (by lia) (by walk_at "mine.at") hx (by walk_at "mine.at") hcs (by exact Nat.le_of_succ_le (by assumption)) hclen).call (fun r G' C' g p => ?_)
                  obtain ⟨t, n'', tm, gt, gs, h3, h4, ck'⟩ := p
                  exact XInv.next hp hlt hgt hn1 hn2 cki g tm gt gs h3 h4 ck'
                · intro ys Gi Ci a G2 hg inv hg2 hla
                  obtain ⟨ts, n', hp, hlt, hgt, gi, hn1, hn2, cki⟩ := inv
                  repeat tb_start
                  refine B.callX (mk_App (R1.le (by exact Nat.le_of_ble_eq_true rfl)) _ _) (fun x G' g hi => ?_)
                  repeat tb_start
                  have f1 : InA G' vf 59 _ := hvf.up (by walk_at "mine.g")
                  rcases hm12 with rfl | rfl
                  · obtain ⟨y1, t1, rfl, rfl, p1⟩ := paired_one hp hlt
                    have q1 := hgt t1 (by simp)
                    exact ⟨.ap1 f t1, n', ⟨x, vf, _, a, y1, rfl, hi, f1, hla.up g, (p1.up hg2).up g⟩, ⟨q1.1, ⟨hmem, q1.2.1⟩, Nat.succ_le_succ q1.2.2⟩, gi, hn1, by lia, cki⟩
                  · obtain ⟨y1, y2, t1, t2, rfl, rfl, p1, p2⟩ := paired_two hp hlt
                    have q1 := hgt t1 (by simp)
                    have q2 := hgt t2 (by simp)
                    exact ⟨.ap2 f t1 t2, n', ⟨x, vf, _, a, y1, y2, rfl, hi, f1, hla.up g, (p1.up hg2).up g, (p2.up hg2).up g⟩, ⟨⟨q1.1, q2.1⟩, ⟨hmem, q1.2.1, q2.2.1⟩, Nat.succ_le_succ (Nat.max_le.mpr ⟨q1.2.2, q2.2.2⟩)⟩, gi, hn1, by lia, cki⟩
              · repeat tb_start
                refine B.callI (take_gs (R1.le (by exact Nat.le_of_ble_eq_true rfl)) g2 (by decide) (by decide)) (fun k t' C' p => ?_)
                obtain ⟨hk0, hk1, g3, ck3⟩ := p
                repeat tb_start
                refine B.ifS (fun hk => ?_) (fun hk => ?_)
                · repeat tb_start
                  refine B.list ?_
                  repeat tb_start
                  refine B.callX (mk_Lit (R1.le (by exact Nat.le_of_ble_eq_true rfl)) _ _) (fun x G' g hi => ?_)
                  repeat tb_start
                  refine ⟨Nat.le_of_ble_eq_true rfl, fun l Gl gl hl => ?_⟩
                  repeat tb_start
                  refine B.callX (mk_Prim (R1.le (by exact Nat.le_of_ble_eq_true rfl)) _ _) (fun y G' g hj => ?_)
                  repeat tb_start
                  have f1 : InA G' x 101 _ := hi.up (by walk_at "mine.g")
                  exact ⟨.err, n, ⟨y, _, l, _, x, _, _, rfl, hj, hl.up g, rfl, f1⟩, ⟨trivial, trivial, Nat.le_add_left 1 _⟩, g3, Nat.le_refl _, Nat.le_add_right _ _, ck.trans ck3⟩
                · repeat tb_start
                  refine B.callI (take_gs (R1.le (by exact Nat.le_of_ble_eq_true rfl)) g3 (by decide) (by decide)) (fun k t' C' p => ?_)
                  obtain ⟨hk0, hk1, g4, ck4⟩ := p
                  repeat tb_start
                  refine B.callX (mk_Lit (R1.le (by exact Nat.le_of_ble_eq_true rfl)) _ _) (fun x G' g hi => ?_)
                  repeat tb_start
                  exact ⟨_, n, (lit_is (xs := xs) (cs := cs) (d := d' + 1) hi).1, (lit_is hi).2, g4, Nat.le_refl _, Nat.le_add_right _ _, (ck.trans ck3).trans ck4⟩
theorem expr_ok : ∀ d, ExprIH D d
  | 0 => expr_step 0 (fun d' e => by cases e)
  | d + 1 => expr_step (d + 1) (fun d' e => by obtain rfl : d = d' := by lia
                                               exact expr_ok d)
end
section
variable {D : Wd} {A : Around} {F : Fn} {G C : PM} {m : LM}
structure PgL where
  fps : List N
  fb : Tm
  gps : List N
  gb : Tm
  hps : List N
  hb : Tm
  m : Tm
  k : Tm
noncomputable def PgL.tops (p : PgL) : Tops := fun x => if x = sS "f" then some ⟨p.fps, p.fb⟩ else if x = sS "g" then some ⟨p.gps, p.gb⟩ else if x = sS "h" then some ⟨p.hps, p.hb⟩ else none
structure PgA (G : PM) (lb : Addr) (p : PgL) : Prop where
  of : Ex15 fun t1 t2 t3 t4 t5 lf lg lh vm vk k1 k2 k3 k4 k5 => And11 (LzA G lb [.ref t1, .ref t2, .ref t3, .ref t4, .ref t5]) (TpA G t1 [.str (sS "f") k1, .ref lf]) (TpA G t2 [.str (sS "g") k2, .ref lg]) (TpA G t3 [.str (sS "h") k3, .ref lh]) (TpA G t4 [.str (sS "m") k4, vm]) (TpA G t5 [.str (sS "k") k5, vk]) (LamA G lf p.fps p.fb) (LamA G lg p.gps p.gb) (LamA G lh p.hps p.hb) (TmA G vm p.m) (TmA G vk p.k)
structure PgL.Good (p : PgL) : Prop where
  f1 : p.fps.length = 1 ∨ p.fps.length = 2
  g2 : p.gps.length = 2
  h2 : p.hps.length = 2
  ps : ∀ f fd, p.tops f = some fd → fd.ps.Nodup ∧ (∀ x ∈ fd.ps, Nm x ∧ ¬NmL x) ∧ Src fd.body ∧ WS p.tops fd.body (· ∈ fd.ps) ∧ ht fd.body ≤ 6
  m : Src p.m ∧ WS p.tops p.m (fun _ => False) ∧ ht p.m ≤ 6
  k : Src p.k ∧ WS p.tops p.k (fun _ => False) ∧ ht p.k ≤ 6
theorem WSc.ws {P : Tops} {cs : List (N × Nat)} (hc : ∀ c ∈ cs, (c.2 = 1 → ∃ p b, P c.1 = some ⟨[p], b⟩) ∧ (c.2 = 2 → ∃ p q b, P c.1 = some ⟨[p, q], b⟩)) : ∀ {t : Tm} {xs : List N} {d : N → Prop}, WSc cs t xs → (∀ x ∈ xs, d x) → WS P t d
  | .var _, _, _, h, k => k _ h
  | .lit _, _, _, _, _ => trivial
  | .err, _, _, _, _ => trivial
  | .add _ _, _, _, h, k => ⟨WSc.ws hc h.1 k, WSc.ws hc h.2 k⟩
  | .case _ x _ _ _, xs, d, h, k =>
    have k' : ∀ y ∈ xs ++ [x], y = x ∨ d y := fun y hy => by
      rcases List.mem_append.mp hy with hy | hy
      · exact .inr (k y hy)
      · simp at hy; exact .inl hy
    ⟨WSc.ws hc h.1 k, WSc.ws hc h.2.1 k', WSc.ws hc h.2.2 k'⟩
  | .lt x _ _, xs, d, h, k =>
    have k' : ∀ y ∈ xs ++ [x], y = x ∨ d y := fun y hy => by
      rcases List.mem_append.mp hy with hy | hy
      · exact .inr (k y hy)
      · simp at hy; exact .inl hy
    ⟨WSc.ws hc h.1 k, WSc.ws hc h.2 k'⟩
  | .ap1 _ _, _, _, h, k => ⟨(hc _ h.1).1 rfl, WSc.ws hc h.2 k⟩
  | .ap2 _ _ _, _, _, h, k => ⟨(hc _ h.1).2 rfl, WSc.ws hc h.2.1 k, WSc.ws hc h.2.2 k⟩
theorem nmL_no {x : N} {c : Nat} (h : x.cps[0]? = some c) (hc : c ≠ 108) : ¬NmL x := fun k => by
  unfold NmL at k; rw [h] at k; exact hc (Option.some.inj k)
theorem pool_ok {l : Addr} {t : Tok} {vs : List Value} {ns : List Int} (R : Room A 2) (hl : LsA G l vs) (hi : IntsAre vs ns) (hz : vs.length < 2 ^ 62) :
    CodeOk D A (.ref 622) [.ref l, .int 0 t] G C (fun r G' C' => Ex2 fun a o => And6 (r = .ref a) (G' = G) (G a = none) (C a = none) (C' = up C a o) (SrcO o)) := by
  refine codeOk_def (binds := [(sS "script", .ref l), (sS "k", .int 0 t)]) (look622 _) (by kernel_rfl) (R.le (by exact Nat.le_of_ble_eq_true rfl : 1 ≤ 2)).lt (fun s X => BindsTo.of_eq rfl) (locs rfl) ?_ (by decide)
  intro F hG hC env₀ A₀ m₀ Q₀ q₀
  have hh : A₀.handled = none := R.h
  refine B.cons (B.assign (B.cInt (fun t0 => B.store (Then.next (B.cons ?_)) rfl rfl rfl)) rfl)
  refine B.mono (Q := fun fl G' C' m' => And5 (fl = .next) (G' = G) (C' = C) (m' (sS "k") = some (.int 0 t)) (Ex2 fun c tc => m' (sS "cell") = some (.int c tc))) ?_ ?_
  · refine B.iff ?_
    repeat tb_start
    refine B.lenL (.inl hl) (by exact ca2 (by assumption)) (fun _ => ?_)
    repeat tb_start
    refine B.ifS (fun hc => ?_) (fun hc => ?_)
    · have hc : (0 : Int) < (vs.length : Int) := by simpa using hc
      cases hi with
      | nil => simp at hc
      | cons i ti _ =>
        repeat tb_start
        refine B.itemL (.inl hl) (by decide) (by decide) rfl ?_
        repeat tb_start
        exact ⟨rfl, rfl, rfl, rfl, i, ti, rfl⟩
    · repeat tb_start
      exact ⟨rfl, rfl, rfl, rfl, 0, _, rfl⟩
  · intro fl G' C' m' hp
    obtain ⟨rfl, rfl, rfl, hk, c, tc, hcell⟩ := hp
    refine Then.next (B.cons ?_)
    repeat tb_start
    refine B.negInt (fun _ => ?_)
    repeat tb_start
    refine B.maxInt hh (fun _ => ?_)
    repeat tb_start
    have hb0 : 0 ≤ (if -1 - c > c then -1 - c else c) := by split <;> lia
    generalize (if -1 - c > c then -1 - c else c) = big at hb0 ⊢
    refine B.mod (by decide) (fun _ => ?_)
    repeat tb_start
    refine B.mul (mul_ok (by decide)) (fun _ => ?_)
    repeat tb_start
    refine B.mul (mul_ok (by decide)) (fun _ => ?_)
    repeat tb_start
    refine B.mul (mul_ok (by decide)) (fun _ => ?_)
    repeat tb_start
    have h1 := Int.fmod_lt_of_pos big (show (0 : Int) < 2147483629 by decide)
    have h2 := Int.fmod_nonneg_of_pos big (show (0 : Int) < 2147483629 by decide)
    refine B.mul (mul_ok (by lia)) (fun _ => ?_)
    repeat tb_start
    refine B.mod (by decide) (fun _ => ?_)
    repeat tb_start
    have h3 := Int.fmod_lt_of_pos ((big.fmod 2147483629 + 7919 * 0 * 0 + 31 * 0 + 17) * 48271) (show (0 : Int) < 2147483647 by decide)
    have h4 := Int.fmod_nonneg_of_pos ((big.fmod 2147483629 + 7919 * 0 * 0 + 31 * 0 + 17) * 48271) (show (0 : Int) < 2147483647 by decide)
    refine B.listC ?_
    repeat tb_start
    refine B.powInt (by decide) (by decide) (by decide) (fun _ => ?_)
    repeat tb_start
    refine B.intBool (fun _ => ?_)
    refine B.mul (mul_okR (by split <;> decide)) (fun _ => ?_)
    repeat tb_start
    refine ⟨Nat.le_of_ble_eq_true rfl, fun a o ga ca fa hpl => ?_⟩
    repeat tb_start
    refine ⟨a, o, rfl, rfl, ga, ca, rfl, _, _, _, _, hpl.ls, Int.mul_nonneg hb0 (by split <;> decide), h4, h3⟩
theorem GS.upN {src bx a : Addr} {n : Nat} {o : Obj} (g : GS D C src bx n) (h : C a = none) : GS D (up C a o) src bx n := by
  obtain ⟨⟨s, es, hs⟩, ⟨b, eb, hb⟩, z, ne⟩ := g
  exact ⟨⟨s, by rw [up_ne (fun z => by rw [z, h] at es; cases es)]; exact es, hs⟩, ⟨b, by rw [up_ne (fun z => by rw [z, h] at eb; cases eb)]; exact eb, hb⟩, z, ne⟩
theorem CK.upN {C₀ C : PM} {a : Addr} {o : Obj} {as : List Addr} (k : CK C₀ C as) (h : C a = none) : CK C₀ (Mine.up C a o) as := fun b q e n => by
  have := k b q e n
  rw [up_ne (fun z => by rw [z, h] at this; cases this)]; exact this
theorem GS.upS {src bx a : Addr} {n : Nat} {o : Obj} (g : GS D C src bx n) (h1 : a ≠ src) (h2 : a ≠ bx) : GS D (up C a o) src bx n := by
  obtain ⟨⟨s, es, hs⟩, ⟨b, eb, hb⟩, z, ne⟩ := g
  exact ⟨⟨s, by rw [up_ne (Ne.symm h1)]; exact es, hs⟩, ⟨b, by rw [up_ne (Ne.symm h2)]; exact eb, hb⟩, z, ne⟩
theorem CK.upD {C₀ C : PM} {a : Addr} {o : Obj} {as : List Addr} (k : CK C₀ C as) (h : C₀ a = none) : CK C₀ (Mine.up C a o) as := fun b q e n => by
  have := k b q e n
  rw [up_ne (fun z => by rw [z, h] at e; cases e)]; exact this
inductive PInv (D : Wd) (src bx : Addr) (n : Nat) (C : PM) (i : Nat) (ys : List Value) (G' C' : PM) : Prop
  | mk : (StrsAre ys ((List.range i).map fun j => nm "p" (n + 1 + j))) → (GS D C' src bx (n + i)) → (CK C C' [src, bx]) → PInv D src bx n C i ys G' C'
theorem good_mk {fps : List N} {tf tg te td tm1 tk : Tm} {p1 p2 n a c : N} {km : Int} (h1 : fps.length = 1 ∨ fps.length = 2) (fx : ∀ x ∈ fps, Nm x ∧ ¬NmL x) (fnd : fps.Nodup) (gx : ∀ x ∈ [p1, p2], Nm x ∧ ¬NmL x) (gnd : [p1, p2].Nodup) (hx : ∀ x ∈ [n, a], Nm x ∧ ¬NmL x) (hnd : [n, a].Nodup) (hc : Nm c)
    (Gf : GoodT [] fps 2 tf) (Gg : GoodT [(sS "f", fps.length)] [p1, p2] 2 tg) (Ge : GoodT [(sS "f", fps.length)] [n, a] 1 te) (Gd : GoodT [(sS "f", fps.length)] [a] 1 td) (Gm : GoodT [(sS "f", fps.length), (sS "g", 2)] [] 1 tm1) (Gk : GoodT [(sS "f", fps.length), (sS "g", 2)] [] 2 tk) :
    (⟨fps, tf, [p1, p2], tg, [n, a], .case (.var n) c 0 td (.ap2 (sS "h") (.add (.var n) (.lit (-1))) te), .ap2 (sS "h") (.lit km) tm1, tk⟩ : PgL).Good := by
  generalize ehb : Tm.case (.var n) c 0 td (.ap2 (sS "h") (.add (.var n) (.lit (-1))) te) = hb
  generalize ehm : Tm.ap2 (sS "h") (.lit km) tm1 = mm
  have hP : ∀ P : Tops, P = (⟨fps, tf, [p1, p2], tg, [n, a], hb, mm, tk⟩ : PgL).tops → P (sS "f") = some ⟨fps, tf⟩ ∧ P (sS "g") = some ⟨[p1, p2], tg⟩ ∧ P (sS "h") = some ⟨[n, a], hb⟩ ∧ ∀ f fd, P f = some fd → fd = ⟨fps, tf⟩ ∨ fd = ⟨[p1, p2], tg⟩ ∨ fd = ⟨[n, a], hb⟩ := by
    rintro P rfl
    refine ⟨if_pos rfl, ?_, ?_, fun f fd h => ?_⟩
    · unfold PgL.tops; rw [if_neg (by decide), if_pos rfl]
    · unfold PgL.tops; rw [if_neg (by decide), if_neg (by decide), if_pos rfl]
    · unfold PgL.tops at h
      split at h
      · exact .inl (Option.some.inj h).symm
      · split at h
        · exact .inr (.inl (Option.some.inj h).symm)
        · split at h
          · exact .inr (.inr (Option.some.inj h).symm)
          · cases h
  generalize hPe : (⟨fps, tf, [p1, p2], tg, [n, a], hb, mm, tk⟩ : PgL).tops = P
  obtain ⟨Pf, Pg, Ph, Pall⟩ := hP P hPe.symm
  have af : (fps.length = 1 → ∃ p b, P (sS "f") = some ⟨[p], b⟩) ∧ (fps.length = 2 → ∃ p q b, P (sS "f") = some ⟨[p, q], b⟩) := by
    refine ⟨fun e => ?_, fun e => ?_⟩
    · match fps, e with
      | [p], _ => exact ⟨p, tf, Pf⟩
    · match fps, e with
      | [p, q], _ => exact ⟨p, q, tf, Pf⟩
  have c1 : ∀ c ∈ [(sS "f", fps.length)], (c.2 = 1 → ∃ p b, P c.1 = some ⟨[p], b⟩) ∧ (c.2 = 2 → ∃ p q b, P c.1 = some ⟨[p, q], b⟩) := fun c hc => by
    simp at hc; subst hc; exact af
  have c2 : ∀ c ∈ [(sS "f", fps.length), (sS "g", 2)], (c.2 = 1 → ∃ p b, P c.1 = some ⟨[p], b⟩) ∧ (c.2 = 2 → ∃ p q b, P c.1 = some ⟨[p, q], b⟩) := fun c hc => by
    simp at hc
    rcases hc with rfl | rfl
    · exact af
    · exact ⟨(fun e => by cases e), fun _ => ⟨p1, p2, tg, Pg⟩⟩
  have wh : ∃ p q b, P (sS "h") = some ⟨[p, q], b⟩ := ⟨n, a, hb, Ph⟩
  refine ⟨h1, rfl, rfl, ?_, ?_, ?_⟩
  · rw [hPe]
    intro f fd h
    rcases Pall f fd h with rfl | rfl | rfl
    · exact ⟨fnd, fx, Gf.1, WSc.ws (by simp) Gf.2.1 fun x h => h, Nat.le_trans Gf.2.2 (Nat.le_of_ble_eq_true rfl)⟩
    · exact ⟨gnd, gx, Gg.1, WSc.ws c1 Gg.2.1 fun x h => h, Nat.le_trans Gg.2.2 (Nat.le_of_ble_eq_true rfl)⟩
    · refine ⟨hnd, hx, ?_, ?_, ?_⟩
      · rw [← ehb]; exact ⟨(hx n (by simp)).1, hc, Gd.1, ⟨(hx n (by simp)).1, trivial⟩, Ge.1⟩
      · rw [← ehb]
        refine ⟨(List.mem_cons_self : n ∈ [n, a]), WSc.ws c1 Gd.2.1 (fun x h => by simp at h; subst h; exact .inr (by simp)), wh, ⟨.inr (by simp), trivial⟩, WSc.ws c1 Ge.2.1 fun x h => .inr h⟩
      · rw [← ehb]; exact Nat.succ_le_succ (Nat.max_le.mpr ⟨Nat.zero_le _, Nat.max_le.mpr ⟨Nat.le_trans Gd.2.2 (Nat.le_of_ble_eq_true rfl), Nat.succ_le_succ (Nat.max_le.mpr ⟨Nat.le_of_ble_eq_true rfl, Nat.le_trans Ge.2.2 (Nat.le_of_ble_eq_true rfl)⟩)⟩⟩)
  · rw [hPe, ← ehm]
    exact ⟨⟨trivial, Gm.1⟩, ⟨wh, trivial, WSc.ws c2 Gm.2.1 (by simp)⟩, Nat.succ_le_succ (Nat.max_le.mpr ⟨Nat.zero_le _, Nat.le_trans Gm.2.2 (Nat.le_of_ble_eq_true rfl)⟩)⟩
  · rw [hPe]
    exact ⟨Gk.1, WSc.ws c2 Gk.2.1 (by simp), Nat.le_trans Gk.2.2 (Nat.le_of_ble_eq_true rfl)⟩
theorem program_ok {src bx : Addr} (R : Room A 40) (g : GS D C src bx 0) : CodeOk D A (.ref 653) [.ref src, .ref bx] G C (fun r G' C' => Ex3 fun lb pg n' => And5 (r = .ref lb) (PgA G' lb pg) pg.Good (GS D C' src bx n') (CK C C' [src, bx])) := by
  refine codeOk_cellsB (binds := [(sS "source", .ref src), (sS "box", .ref bx)]) (look653 _) (by kernel_rfl) (R.le (by exact Nat.le_of_ble_eq_true rfl : 1 ≤ _)).lt rfl (by kernel_rfl) ?_
  intro F hG hC G₁ C₁ cs₀ env₀ A₀ m₀ cl Q₀ q₀
  have k2 := cl.pA (sS "box") rfl rfl
  have g0 := cl.g
  have g1 := g.cl cl
  have ck0 := cl.ck (as := [src, bx])
  have R1 : Room A₀ 39 := (R.le (by exact Nat.le_of_ble_eq_true rfl : 39 + 1 ≤ _)).deeper
  have hh : A₀.handled = none := R.h
  -- first
  refine B.cons (B.asgListComp (cl := ?cl1) ?x1 ?h11 ?h12 rfl ?h14 rfl rfl rfl rfl ?h15)
  case h11 => exact rfl
  case h12 => decide
  case h14 => decide
  case h15 => exact fun _ => rfl
  repeat tb_start
  refine B.callI (take_gs (R1.le (by exact Nat.le_of_ble_eq_true rfl)) g1 (by decide) (by decide)) (fun k tk C' p => ?_)
  obtain ⟨hk0, hk1, g2, ck2⟩ := p
  repeat tb_start
  refine B.range (fun ra Gr gr hr => ?_)
  obtain ⟨many, hmany, hm2⟩ : ∃ many : Nat, 1 + k = (many : Int) ∧ (many = 1 ∨ many = 2) := ⟨(1 + k).toNat, by lia, by lia⟩
  rw [hmany] at hr
  refine ⟨many, _, PInv D src bx 0 C, iter_range hh (by lia) hr, by show many ≤ 2 ^ 24; lia, ⟨.nil, g2, ck0.trans ck2⟩, ?_, ?_⟩
  · intro i v ys Gi Ci mi Fi hi hFG hFC hg inv hP
    refine B.opq fun Q₁ q₁ => ?_
    obtain ⟨hst, gi, cki⟩ := inv
    repeat tb_start
    refine B.callN (new_gs (b := "p") (R1.le (by exact Nat.le_of_ble_eq_true rfl)) (by decide) gi (by lia)) (fun tn C' p => ?_)
    obtain ⟨gsn, ckn⟩ := p
    refine ⟨?_, gsn, cki.trans ckn⟩
    rw [List.range_succ, List.map_append]
    have := strs_snoc (x := nm "p" (0 + i + 1)) (t := tn) hst
    rw [show 0 + i + 1 = 0 + 1 + i by lia] at this ⊢
    exact this
  · intro ys Gi Ci lf Gf hg inv hgf hlf
    obtain ⟨hst, gi, cki⟩ := inv
    have hnf : NamesA Gf lf ((List.range many).map fun j => nm "p" (0 + 1 + j)) := ⟨ys, hlf, hst⟩
    generalize hfps : (List.range many).map (fun j => nm "p" (0 + 1 + j)) = fps at hnf
    have fl12 : fps.length = 1 ∨ fps.length = 2 := by rw [← hfps]; simp; exact hm2
    have fx : ∀ x ∈ fps, Nm x ∧ ¬NmL x := fun x hx => by
      rw [← hfps] at hx
      obtain ⟨j, hj, rfl⟩ := List.mem_map.mp hx
      have := nm_p (n := 0 + 1 + j) (by have := List.mem_range.mp hj; lia)
      exact ⟨this.1, nmL_no this.2 (by decide)⟩
    have fnd : fps.Nodup := by
      rw [← hfps]
      rcases hm2 with rfl | rfl
      · simp [List.range_succ]
      · have := nm_pp (n := 1) (by decide)
        simpa [List.range_succ] using this
    refine Then.next (B.cons (B.assign (B.listC ?_) rfl))
    refine B.args (B.tuple ?_) rfl
    repeat tb_start
    refine B.list ?_
    repeat tb_start
    refine ⟨Nat.le_of_ble_eq_true rfl, fun lc0 G3 g3 hlc0 => ?_⟩
    repeat tb_start
    have hnf3 : NamesA G3 lf fps := by walk_at "mine.at"
    refine B.callOk (expr_ok 2 (R1.le (by exact Nat.le_of_ble_eq_true rfl)) gi (by show _ + 4 < 60; lia) hnf3 (fun x h => (fx x h).1) ⟨[], hlc0, .nil⟩ (by simp) (by lia) (by decide)).call (fun rf G4 C4 g4 pf => ?_)
    obtain ⟨tf, nf, tmf, gtf, gs4, hf1, hf2, ck4⟩ := pf
    have hf2 : nf ≤ 0 + many + 4 := hf2
    repeat tb_start
    refine B.callX (mk_Lam (R1.le (by exact Nat.le_of_ble_eq_true rfl)) _ _) (fun lf5 G5 g5 hlf5 => ?_)
    repeat tb_start
    refine ⟨Nat.le_of_ble_eq_true rfl, fun t1 G6 g6 ht1 => ?_⟩
    repeat tb_start
    refine ⟨Nat.le_of_ble_eq_true rfl, fun lb ob glb clb flb hpl => ?_⟩
    have gs6 := gs4.upN (o := ob) clb
    have ck6 := (cki.trans ck4).upN (o := ob) clb
    have hlam1 : LamA G6 lf5 fps tf := ⟨lf, rf, by walk_at "mine.at", by walk_at "mine.at", by walk_at "mine.at"⟩
    have hlb6 : up C4 lb ob lb = some ob := up_self
    have nlb : lb ∉ [src, bx] := by
      simp only [List.mem_cons, List.not_mem_nil, or_false]
      rintro (rfl | rfl)
      · obtain ⟨_, e, _⟩ := gs4.s; rw [clb] at e; cases e
      · obtain ⟨_, e, _⟩ := gs4.b; rw [clb] at e; cases e
    generalize up C4 lb ob = C6 at gs6 ck6 hlb6 ⊢
    -- second, calls
    repeat tb_start
    refine B.asgTupleW (names := [sS "second", sS "calls"]) hh ?_ rfl rfl
    refine B.tuple ?_
    refine B.args (B.list ?_) rfl
    repeat tb_start
    refine B.callN (new_gs (b := "p") (R1.le (by exact Nat.le_of_ble_eq_true rfl)) (by decide) gs6 (by lia)) (fun tn1 C' p => ?_)
    obtain ⟨gs7, ck7⟩ := p
    repeat tb_start
    refine B.callN (new_gs (b := "p") (R1.le (by exact Nat.le_of_ble_eq_true rfl)) (by decide) gs7 (by lia)) (fun tn2 C' p => ?_)
    obtain ⟨gs8, ck8⟩ := p
    repeat tb_start
    refine ⟨Nat.le_of_ble_eq_true rfl, fun ls G7 g7 hls => ?_⟩
    refine B.args (B.list ?_) rfl
    refine B.args (B.tuple ?_) rfl
    repeat tb_start
    refine B.lenL (.inl (by walk_at "mine.at" : LsA G7 lf ys)) (by have := strsAre_len hst; simp at this; lia) (fun _ => ?_)
    repeat tb_start
    refine ⟨Nat.le_of_ble_eq_true rfl, fun tc1 G8 g8 htc1 => ?_⟩
    repeat tb_start
    refine ⟨Nat.le_of_ble_eq_true rfl, fun lcs G9 g9 hlcs => ?_⟩
    repeat tb_start
    refine ⟨Nat.le_of_ble_eq_true rfl, fun tsc G10 g10 htsc => ?_⟩
    refine ⟨tsc, _, rfl, htsc, rfl, ?_⟩
    refine B.inOrder ?_
    repeat tb_start
    refine B.inOrder ?_
    repeat tb_start
    refine B.inOrder0 ?_
    have hyl : (ys.length : Int) = (fps.length : Int) := by have := strsAre_len hst; rw [← hfps]; simp [this]
    have hcalls : CallsA G10 lcs [(sS "f", fps.length)] := ⟨_, hlcs.up (by walk_at "mine.g"), .cons ⟨tc1, _, _, rfl, by rw [← hyl]; exact htc1.up (by walk_at "mine.g")⟩ .nil⟩
    have hcok : ∀ c ∈ [(sS "f", fps.length)], PyData.strOk c.1 = true ∧ (c.2 = 1 ∨ c.2 = 2) := fun c hc => by
      simp at hc; subst hc; exact ⟨(show PyData.strOk (sS "f") = true by decide +kernel), fl12⟩
    have hns : NamesA G10 ls [nm "p" (nf + 1), nm "p" (nf + 1 + 1)] := ⟨_, hls.up (by walk_at "mine.g"), .cons _ _ (.cons _ _ .nil)⟩
    have gx : ∀ x ∈ [nm "p" (nf + 1), nm "p" (nf + 1 + 1)], Nm x ∧ ¬NmL x := fun x hx => by
      simp at hx
      rcases hx with rfl | rfl
      · have := nm_p (n := nf + 1) (by lia); exact ⟨this.1, nmL_no this.2 (by decide)⟩
      · have := nm_p (n := nf + 1 + 1) (by lia); exact ⟨this.1, nmL_no this.2 (by decide)⟩
    have gnd : [nm "p" (nf + 1), nm "p" (nf + 1 + 1)].Nodup := by simpa using nm_pp (n := nf + 1) (by lia)
    -- binds.append(('g', ..))
    have ck8' := (ck6.trans ck7).trans ck8
    have hob8 : _ := ck8 lb ob (ck7 lb ob hlb6 nlb) nlb
    repeat tb_start
    refine B.methAppend hob8 hpl ?_
    refine B.withBM ?_ rfl rfl
    refine B.args (B.tuple ?_) rfl
    repeat tb_start
    refine B.callOk (expr_ok 2 (R1.le (by exact Nat.le_of_ble_eq_true rfl)) gs8 (by show _ + 4 < 60; lia) hns (fun x h => (gx x h).1) hcalls hcok (show 2 + 2 < 20 by decide) (show 1 < 20 by decide)).call (fun rg G11 C11 g11 pg => ?_)
    obtain ⟨tg, ng, tmg, gtg, gs11, hg1, hg2, ck11⟩ := pg
    have hg2 : ng ≤ nf + 1 + 1 + 4 := hg2
    repeat tb_start
    refine B.callX (mk_Lam (R1.le (by exact Nat.le_of_ble_eq_true rfl)) _ _) (fun lg12 G12 g12 hlg12 => ?_)
    repeat tb_start
    refine ⟨Nat.le_of_ble_eq_true rfl, fun t2 G13 g13 ht2 => ?_⟩
    repeat tb_start
    have hob11 := ck11 lb ob hob8 nlb
    refine B.append hob11 hpl (Nat.le_of_ble_eq_true rfl) (fun ob2 hpl2 => ?_)
    have hlam2 : LamA G13 lg12 [nm "p" (nf + 1), nm "p" (nf + 1 + 1)] tg := ⟨ls, rg, by walk_at "mine.at", by walk_at "mine.at", by walk_at "mine.at"⟩
    have nls : lb ≠ src := by simp only [List.mem_cons, List.not_mem_nil, or_false, not_or] at nlb; exact nlb.1
    have nlx : lb ≠ bx := by simp only [List.mem_cons, List.not_mem_nil, or_false, not_or] at nlb; exact nlb.2
    have gs13 := gs11.upS (o := ob2) nls nlx
    have clb0 : C lb = none := by
      cases q : C lb with
      | none => rfl
      | some o => rw [cki.trans ck4 |> fun k => k lb o q nlb] at clb; cases clb
    have ck13 := (ck8'.trans ck11).upD (o := ob2) clb0
    have hlb13 : Mine.up C11 lb ob2 lb = some ob2 := up_self
    generalize Mine.up C11 lb ob2 = C13 at gs13 ck13 hlb13 ⊢
    repeat tb_start
    -- count, held, name
    refine B.asgTupleW (names := [sS "count", sS "held", sS "name"]) hh ?_ rfl rfl
    refine B.tuple ?_
    repeat tb_start
    refine B.callN (new_gs (b := "n") (R1.le (by exact Nat.le_of_ble_eq_true rfl)) (by decide) gs13 (by lia)) (fun tk1 C' p => ?_)
    obtain ⟨gs14, ck14⟩ := p
    repeat tb_start
    refine B.callN (new_gs (b := "a") (R1.le (by exact Nat.le_of_ble_eq_true rfl)) (by decide) gs14 (by lia)) (fun tk2 C' p => ?_)
    obtain ⟨gs15, ck15⟩ := p
    repeat tb_start
    refine B.callN (new_gs (b := "c") (R1.le (by exact Nat.le_of_ble_eq_true rfl)) (by decide) gs15 (by lia)) (fun tk3 C' p => ?_)
    obtain ⟨gs16, ck16⟩ := p
    repeat tb_start
    refine ⟨Nat.le_of_ble_eq_true rfl, fun t3 G14 g14 ht3 => ?_⟩
    refine ⟨t3, _, rfl, ht3, rfl, ?_⟩
    refine B.inOrder ?_
    repeat tb_start
    refine B.inOrder ?_
    repeat tb_start
    refine B.inOrder ?_
    repeat tb_start
    refine B.inOrder0 ?_
    have hob16 := ck16 lb ob2 (ck15 lb ob2 (ck14 lb ob2 hlb13 nlb) nlb) nlb
    have ck16' := ((ck13.trans ck14).trans ck15).trans ck16
    -- less
    repeat tb_start
    refine B.list ?_
    repeat tb_start
    refine B.callX (mk_Var (R1.le (by exact Nat.le_of_ble_eq_true rfl)) _) (fun vc G15 g15 hvc => ?_)
    repeat tb_start
    refine B.negInt (fun _ => ?_)
    repeat tb_start
    refine B.callX (mk_Lit (R1.le (by exact Nat.le_of_ble_eq_true rfl)) _ _) (fun vl G16 g16 hvl => ?_)
    repeat tb_start
    refine ⟨Nat.le_of_ble_eq_true rfl, fun ll G17 g17 hll => ?_⟩
    repeat tb_start
    refine B.callX (mk_Prim (R1.le (by exact Nat.le_of_ble_eq_true rfl)) _ _) (fun vless G18 g18 hless => ?_)
    have tmless : TmA G18 (.ref vless) (.add (.var (nm "n" (ng + 1))) (.lit (-1))) := ⟨vless, _, ll, _, _, rfl, hless, hll.up g18, ⟨vc, _, rfl, hvc.up (by walk_at "mine.g")⟩, ⟨vl, _, _, rfl, hvl.up (by walk_at "mine.g")⟩⟩
    -- again
    repeat tb_start
    refine B.callX (mk_Var (R1.le (by exact Nat.le_of_ble_eq_true rfl)) _) (fun vh G19 g19 hvh => ?_)
    repeat tb_start
    refine B.list ?_
    repeat tb_start
    refine B.list ?_
    repeat tb_start
    refine ⟨Nat.le_of_ble_eq_true rfl, fun lch G20 g20 hlch => ?_⟩
    repeat tb_start
    have hnch : NamesA G20 lch [nm "n" (ng + 1), nm "a" (ng + 1 + 1)] := ⟨_, hlch, .cons _ _ (.cons _ _ .nil)⟩
    have hx1 := nm_n (n := ng + 1) (by lia)
    have hx2 := nm_a (n := ng + 1 + 1) (by lia)
    have hxs : ∀ x ∈ [nm "n" (ng + 1), nm "a" (ng + 1 + 1)], Nm x ∧ ¬NmL x := fun x hx => by
      simp at hx
      rcases hx with rfl | rfl
      · exact ⟨hx1.1, nmL_no hx1.2 (by decide)⟩
      · exact ⟨hx2.1, nmL_no hx2.2 (by decide)⟩
    have hnd2 : [nm "n" (ng + 1), nm "a" (ng + 1 + 1)].Nodup := by
      simp only [List.nodup_cons, List.mem_cons, List.not_mem_nil, or_false, not_false_eq_true, List.nodup_nil, and_true]
      intro z
      have h1 := hx1.2
      rw [z, hx2.2] at h1
      cases h1
    refine B.callOk (expr_ok 1 (R1.le (by exact Nat.le_of_ble_eq_true rfl)) gs16 (by show _ + 1 < 60; lia) hnch (fun x h => (hxs x h).1) (by walk_at "mine.at") hcok (show 2 + 1 < 20 by decide) (show 1 < 20 by decide)).call (fun re G21 C21 g21 pe => ?_)
    obtain ⟨te, ne, tme, gte, gs21, he1, he2, ck21⟩ := pe
    have he2 : ne ≤ ng + 1 + 1 + 1 + 1 := he2
    repeat tb_start
    refine ⟨Nat.le_of_ble_eq_true rfl, fun la G22 g22 hla => ?_⟩
    repeat tb_start
    refine B.callX (mk_App (R1.le (by exact Nat.le_of_ble_eq_true rfl)) _ _) (fun vagain G23 g23 hag => ?_)
    have tmag : TmA G23 (.ref vagain) (.ap2 (sS "h") (.add (.var (nm "n" (ng + 1))) (.lit (-1))) te) := ⟨vagain, vh, _, la, _, _, rfl, hag, hvh.up (by walk_at "mine.g"), hla.up g23, tmless.up (by walk_at "mine.g"), tme.up (by walk_at "mine.g")⟩
    -- done
    repeat tb_start
    refine B.tuple ?_
    repeat tb_start
    refine ⟨Nat.le_of_ble_eq_true rfl, fun kt G24 g24 hkt => ?_⟩
    repeat tb_start
    refine B.list ?_
    repeat tb_start
    refine ⟨Nat.le_of_ble_eq_true rfl, fun ln0 G25 g25 hln => ?_⟩
    repeat tb_start
    refine B.list ?_
    repeat tb_start
    refine ⟨Nat.le_of_ble_eq_true rfl, fun lhe G26 g26 hlhe => ?_⟩
    have hnhe : NamesA G26 lhe [nm "a" (ng + 1 + 1)] := ⟨_, hlhe, .cons _ _ .nil⟩
    repeat tb_start
    refine B.callOk (expr_ok 1 (R1.le (by exact Nat.le_of_ble_eq_true rfl)) gs21 (by show _ + 1 < 60; lia) hnhe (fun x h => by simp at h; subst h; exact hx2.1) (by walk_at "mine.at") hcok (show 1 + 1 < 20 by decide) (show 1 < 20 by decide)).call (fun rd G27 C27 g27 pd => ?_)
    obtain ⟨td, nd, tmd, gtd, gs27, hd1, hd2, ck27⟩ := pd
    have hd2 : nd ≤ ne + 1 := hd2
    repeat tb_start
    refine B.callX (mk_Alt (R1.le (by exact Nat.le_of_ble_eq_true rfl)) _ _ _) (fun val G28 g28 hval => ?_)
    -- binds.append(('h', ..))
    repeat tb_start
    have hob27 := ck27 lb ob2 (ck21 lb ob2 hob16 nlb) nlb
    refine B.methAppend hob27 hpl2 ?_
    refine B.withBM ?_ rfl rfl
    refine B.args (B.tuple ?_) rfl
    repeat tb_start
    refine B.list ?_
    repeat tb_start
    refine ⟨Nat.le_of_ble_eq_true rfl, fun lph G29 g29 hlph => ?_⟩
    repeat tb_start
    refine B.callX (mk_Var (R1.le (by exact Nat.le_of_ble_eq_true rfl)) _) (fun vcn G30 g30 hvcn => ?_)
    repeat tb_start
    refine B.list ?_
    repeat tb_start
    refine ⟨Nat.le_of_ble_eq_true rfl, fun lal G31 g31 hlal => ?_⟩
    repeat tb_start
    refine B.callX (mk_Case (R1.le (by exact Nat.le_of_ble_eq_true rfl)) _ _ _ _) (fun vcase G32 g32 hcase => ?_)
    repeat tb_start
    refine B.callX (mk_Lam (R1.le (by exact Nat.le_of_ble_eq_true rfl)) _ _) (fun lh33 G33 g33 hlh33 => ?_)
    repeat tb_start
    refine ⟨Nat.le_of_ble_eq_true rfl, fun th G34 g34 hth => ?_⟩
    repeat tb_start
    refine B.append hob27 hpl2 (Nat.le_of_ble_eq_true rfl) (fun ob3 hpl3 => ?_)
    have hlam3 : LamA G34 lh33 [nm "n" (ng + 1), nm "a" (ng + 1 + 1)] (.case (.var (nm "n" (ng + 1))) (nm "c" (ng + 1 + 1 + 1)) 0 td (.ap2 (sS "h") (.add (.var (nm "n" (ng + 1))) (.lit (-1))) te)) :=
      ⟨lph, _, hlh33.up (by walk_at "mine.g"), ⟨_, hlph.up (by walk_at "mine.g"), .cons _ _ (.cons _ _ .nil)⟩,
        ⟨vcase, _, _, lal, val, kt, ln0, rd, _, _, _, _, rfl, hcase.up (by walk_at "mine.g"), hlal.up (by walk_at "mine.g"), hval.up (by walk_at "mine.g"), hkt.up (by walk_at "mine.g"), hln.up (by walk_at "mine.g"), ⟨vcn, _, rfl, hvcn.up (by walk_at "mine.g")⟩, tmd.up (by walk_at "mine.g"), tmag.up (by walk_at "mine.g")⟩⟩
    have gs34 := gs27.upS (o := ob3) nls nlx
    have ck34 := ((ck16'.trans ck21).trans ck27).upD (o := ob3) clb0
    have hlb34 : Mine.up C27 lb ob3 lb = some ob3 := up_self
    generalize Mine.up C27 lb ob3 = C34 at gs34 ck34 hlb34 ⊢
    repeat tb_start
    refine B.list ?_
    refine B.args (B.tuple ?_) rfl
    repeat tb_start
    refine ⟨Nat.le_of_ble_eq_true rfl, fun tg2 G35 g35 htg2 => ?_⟩
    repeat tb_start
    refine ⟨Nat.le_of_ble_eq_true rfl, fun lg2 G36 g36 hlg2 => ?_⟩
    have hc10 : CallsA G36 lcs [(sS "f", fps.length)] := by walk_at "mine.at"
    obtain ⟨vcs, hvcs, hpcs⟩ := hc10
    have hvcl := paired_len hpcs
    refine B.addLists (.inl hvcs) (.inl hlg2) (by rw [hvcl]; exact Nat.le_of_ble_eq_true rfl) (fun lc3 G37 g37 hlc3 => ?_)
    have hcalls2 : CallsA G37 lc3 [(sS "f", fps.length), (sS "g", 2)] := ⟨_, hlc3, (Paired.imp (fun _ _ ⟨a, t, t', e, r⟩ => ⟨a, t, t', e, r.up g37⟩) hpcs).snoc ⟨tg2, _, _, rfl, htg2.up (by walk_at "mine.g")⟩⟩
    have hcok2 : ∀ c ∈ [(sS "f", fps.length), (sS "g", 2)], PyData.strOk c.1 = true ∧ (c.2 = 1 ∨ c.2 = 2) := fun c hc => by
      simp at hc
      rcases hc with rfl | rfl
      · exact ⟨(show PyData.strOk (sS "f") = true by decide +kernel), fl12⟩
      · exact ⟨(show PyData.strOk (sS "g") = true by decide +kernel), .inr rfl⟩
    repeat tb_start
    -- parts
    refine B.listC ?_
    repeat tb_start
    refine B.callX (mk_Var (R1.le (by exact Nat.le_of_ble_eq_true rfl)) _) (fun vh2 G38 g38 hvh2 => ?_)
    repeat tb_start
    refine B.list ?_
    repeat tb_start
    refine B.callI (take_gs (R1.le (by exact Nat.le_of_ble_eq_true rfl)) gs34 (by decide) (by decide)) (fun km tkm C35 p => ?_)
    obtain ⟨hkm0, hkm1, gs35, ck35⟩ := p
    repeat tb_start
    refine B.callX (mk_Lit (R1.le (by exact Nat.le_of_ble_eq_true rfl)) _ _) (fun vlm G39 g39 hvlm => ?_)
    repeat tb_start
    refine B.list ?_
    repeat tb_start
    refine ⟨Nat.le_of_ble_eq_true rfl, fun len0 G40 g40 hlen0 => ?_⟩
    repeat tb_start
    refine B.callOk (expr_ok 1 (R1.le (by exact Nat.le_of_ble_eq_true rfl)) gs35 (by show _ + 1 < 60; lia) ⟨[], hlen0, .nil⟩ (by simp) (by walk_at "mine.at") hcok2 (by decide) (show 2 < 20 by decide)).call (fun rm G41 C41 g41 pm => ?_)
    obtain ⟨tm1, nm1, tmm, gtm, gs41, hm1', hm2', ck41⟩ := pm
    have hm2' : nm1 ≤ nd + 1 := hm2'
    repeat tb_start
    refine ⟨Nat.le_of_ble_eq_true rfl, fun lm G42 g42 hlm => ?_⟩
    repeat tb_start
    refine B.callX (mk_App (R1.le (by exact Nat.le_of_ble_eq_true rfl)) _ _) (fun vm G43 g43 hvm => ?_)
    have tmm1 : TmA G43 (.ref vm) (.ap2 (sS "h") (.lit km) tm1) := ⟨vm, vh2, _, lm, _, _, rfl, hvm, hvh2.up (by walk_at "mine.g"), hlm.up g43, ⟨vlm, _, _, rfl, hvlm.up (by walk_at "mine.g")⟩, tmm.up (by walk_at "mine.g")⟩
    repeat tb_start
    refine ⟨Nat.le_of_ble_eq_true rfl, fun lp op glp clp flp hplp => ?_⟩
    have hob41 := ck41 lb ob3 (ck35 lb ob3 hlb34 nlb) nlb
    have gs43 := gs41.upN (o := op) clp
    have ck43 := ((ck34.trans ck35).trans ck41).upN (o := op) clp
    have hlp43 : Mine.up C41 lp op lp = some op := up_self
    have nlpb : lp ≠ lb := fun z => by rw [z, hob41] at clp; cases clp
    have hlb43 : Mine.up C41 lp op lb = some ob3 := by rw [up_ne (Ne.symm nlpb)]; exact hob41
    have nlp : lp ∉ [src, bx] := by
      simp only [List.mem_cons, List.not_mem_nil, or_false]
      rintro (rfl | rfl)
      · obtain ⟨_, e, _⟩ := gs41.s; rw [clp] at e; cases e
      · obtain ⟨_, e, _⟩ := gs41.b; rw [clp] at e; cases e
    have clp0 : C lp = none := by
      cases q : C lp with
      | none => rfl
      | some o => rw [(ck34.trans ck35).trans ck41 |> fun k => k lp o q nlp] at clp; cases clp
    generalize Mine.up C41 lp op = C43 at gs43 ck43 hlp43 hlb43 ⊢
    repeat tb_start
    refine B.methAppend hlp43 hplp ?_
    repeat tb_start
    refine B.list ?_
    repeat tb_start
    refine ⟨Nat.le_of_ble_eq_true rfl, fun len1 G44 g44 hlen1 => ?_⟩
    repeat tb_start
    refine B.callOk (expr_ok 2 (R1.le (by exact Nat.le_of_ble_eq_true rfl)) gs43 (by show _ + 4 < 60; lia) ⟨[], hlen1, .nil⟩ (by simp) (by walk_at "mine.at") hcok2 (by decide) (show 2 < 20 by decide)).call (fun rk G45 C45 g45 pk => ?_)
    obtain ⟨tk, nk, tmk, gtk, gs45, hk1', hk2', ck45⟩ := pk
    repeat tb_start
    have hlp45 := ck45 lp op hlp43 nlp
    have hlb45 := ck45 lb ob3 hlb43 nlb
    refine B.append hlp45 hplp (Nat.le_of_ble_eq_true rfl) (fun op2 hplp2 => ?_)
    have nlps : lp ≠ src := by simp only [List.mem_cons, List.not_mem_nil, or_false, not_or] at nlp; exact nlp.1
    have nlpx : lp ≠ bx := by simp only [List.mem_cons, List.not_mem_nil, or_false, not_or] at nlp; exact nlp.2
    have gs46 := gs45.upS (o := op2) nlps nlpx
    have ck46 := (ck43.trans ck45).upD (o := op2) clp0
    have hlp46 : Mine.up C45 lp op2 lp = some op2 := up_self
    have hlb46 : Mine.up C45 lp op2 lb = some ob3 := by rw [up_ne (Ne.symm nlpb)]; exact hlb45
    generalize Mine.up C45 lp op2 = C46 at gs46 ck46 hlp46 hlb46 ⊢
    repeat tb_start
    refine B.list ?_
    refine B.args (B.tuple ?_) rfl
    repeat tb_start
    refine B.itemL (.inr ⟨_, hlp46, hplp2.ls⟩) (by decide) (by decide) rfl ?_
    repeat tb_start
    refine ⟨Nat.le_of_ble_eq_true rfl, fun t4 G46 g46 ht4 => ?_⟩
    refine B.args (B.tuple ?_) rfl
    repeat tb_start
    refine B.itemL (.inr ⟨_, hlp46, hplp2.ls⟩) (by decide) (by decide) rfl ?_
    repeat tb_start
    refine ⟨Nat.le_of_ble_eq_true rfl, fun t5 G47 g47 ht5 => ?_⟩
    repeat tb_start
    refine ⟨Nat.le_of_ble_eq_true rfl, fun lmk G48 g48 hlmk => ?_⟩
    refine B.addListsZ (.inr ⟨_, hlb46, hpl3.ls⟩) (.inl hlmk) (Nat.le_of_ble_eq_true rfl) (fun lfin G49 g49 hlfin => ?_)
    repeat tb_start
    refine ⟨lfin, ⟨fps, tf, _, tg, _, _, _, tk⟩, nk, rfl, ⟨t1, t2, th, t4, t5, lf5, lg12, lh33, .ref vm, rk, _, _, _, _, _, hlfin, ht1.up (by walk_at "mine.g"), ht2.up (by walk_at "mine.g"), hth.up (by walk_at "mine.g"), ht4.up (by walk_at "mine.g"), ht5.up (by walk_at "mine.g"), hlam1.up (by walk_at "mine.g"), hlam2.up (by walk_at "mine.g"), hlam3.up (by walk_at "mine.g"), tmm1.up (by walk_at "mine.g"), tmk.up (by walk_at "mine.g")⟩, ?_, gs46, ck46⟩
    exact good_mk fl12 fx fnd gx gnd hxs hnd2 (nm_c (by lia)) gtf gtg gte gtd gtm gtk
end
noncomputable def Sz (n : Nd) (k : Nat) : Prop := ∀ l, n = some l → l.length ≤ k
theorem tt_len (l : List N) : (tt l).length = l.length := List.length_map _
theorem tt_at (l : List N) (x : N) : (valueAt (tt l) x).isSome = decide (x ∈ l) := by
  induction l with
  | nil => rfl
  | cons y l ih =>
    unfold valueAt tt at ih ⊢
    rw [List.map_cons, List.find?_cons]
    by_cases h : y = x
    · subst h; simp
    · have : (decide (y = x)) = false := by simpa using h
      rw [this]
      rw [ih]
      have h' : x ≠ y := fun z => h z.symm
      simp [h']
theorem tt_stored (l : List N) (x : N) : stored (tt l) x (.bool true) = tt (addTo l x) := by
  by_cases h : x ∈ l
  · have e : addTo l x = l := by unfold addTo; rw [if_pos h]
    rw [e]
    unfold stored tt
    have h2 : ((l.map fun x => (x, Value.bool true)).any fun kv => decide (kv.1 = x)) = true := by
      rw [List.any_eq_true]; exact ⟨(x, .bool true), List.mem_map.mpr ⟨x, h, rfl⟩, by simp⟩
    first
      | (rw [if_pos h2, List.map_map]; apply List.map_congr_left; intro y _; show (if y = x then (y, Value.bool true) else (y, Value.bool true)) = _; split <;> rfl)
      | fail "stored"
  · have e : addTo l x = l ++ [x] := by unfold addTo; rw [if_neg h]
    rw [e, stored_absent]
    · unfold tt; simp
    · have := tt_at l x
      rw [decide_eq_false h] at this
      cases q : valueAt (tt l) x with
      | none => rfl
      | some _ => rw [q] at this; cases this
theorem tt_merged (l k : List N) : merged (tt l) (tt k) = tt (joinL l k) := by
  unfold joinL
  induction k generalizing l with
  | nil => rfl
  | cons x k ih =>
    show merged (stored (tt l) x (.bool true)) (tt k) = _
    rw [tt_stored, ih]; rfl
theorem joinL_len (l k : List N) : (joinL l k).length ≤ l.length + k.length := by
  unfold joinL
  induction k generalizing l with
  | nil => exact Nat.le_refl _
  | cons x k ih =>
    have := ih (addTo l x)
    rw [List.foldl_cons]
    have h : (addTo l x).length ≤ l.length + 1 := by unfold addTo; split <;> simp
    simp only [List.length_cons]; lia
section
variable {D : Wd} {A : Around} {F : Fn} {G C G' C' : PM} {m : LM} {h : Heap} {env : Env} {pos : Pos}
theorem B.isNoneT {Q : Value → PM → PM → LM → Prop} (q : Q (.bool true) G C m) : B D F A (compareOp .Is .none .none) Q G C m := B.isNone q
theorem B.isNoneF {a : Addr} {Q : Value → PM → PM → LM → Prop} (q : Q (.bool false) G C m) : B D F A (compareOp .Is (.ref a) .none) Q G C m := B.isNone q
theorem B.notNoneT {Q : Value → PM → PM → LM → Prop} (q : Q (.bool false) G C m) : B D F A (compareOp .IsNot .none .none) Q G C m := B.isNotNone rfl q
theorem B.notNoneF {a : Addr} {Q : Value → PM → PM → LM → Prop} (q : Q (.bool true) G C m) : B D F A (compareOp .IsNot (.ref a) .none) Q G C m := B.isNotNone rfl q
theorem rm_up1 {C : PM} {a : Addr} {o : Obj} (h : C a = none) : rm (up C a o) a = C := by
  funext x; by_cases e : x = a
  · subst e; rw [rm_self, h]
  · rw [rm_ne e, up_ne e]
theorem both_ok {v w : Value} {n k : Nd} (R : Room A 1) (hv : NdA D G v n) (hw : NdA D G w k) (h1 : Sz n (2 ^ 20)) (h2 : Sz k (2 ^ 20)) :
    CodeOk D A (.ref 429) [v, w] G C (fun r G' C' => C' = C ∧ NdA D G' r (both n k)) := by
  refine codeOk_def (binds := [(sS "one", v), (sS "other", w)]) (look429 _) (by kernel_rfl) R.lt (fun s X => BindsTo.of_eq rfl) (locs rfl) ?_ (by decide)
  intro F hG hC env₀ A₀ m₀ Q₀ q₀
  refine B.cons ?_
  repeat tb_start
  cases n with
  | none =>
    cases hv
    refine B.isNoneT ?_
    repeat tb_start
    exact ⟨rfl, rfl⟩
  | some l =>
    obtain ⟨a, rfl, ha⟩ := hv
    refine B.isNoneF ?_
    repeat tb_start
    cases k with
    | none =>
      cases hw
      refine B.isNoneT ?_
      repeat tb_start
      exact ⟨rfl, rfl⟩
    | some l' =>
      obtain ⟨b, rfl, hb⟩ := hw
      refine B.isNoneF ?_
      repeat tb_start
      have s1 := h1 l rfl
      have s2 := h2 l' rfl
      refine B.dictOf (.inl ha) (by rw [tt_len, sizeLine_eq]; lia) (fun d ob hg hc hf hz hd => ?_)
      repeat tb_start
      refine B.methD PySem.F.slot_dict_update PySem.F.type_dict_update (.inr ⟨hz, ob, up_self, hd⟩) ?_
      repeat tb_start
      refine B.dictUpdate up_self hd hb (by rw [tt_len, tt_len, sizeLine_eq]; lia) (fun o' hd' => ?_)
      rw [tt_merged] at hd'
      refine Then.next ?_
      rw [up_up]
      refine B.freeze up_self hf (fun g => ?_) hg
      rw [rm_up1 hc]
      repeat tb_start
      exact ⟨rfl, d, rfl, hz, o', up_self, hd'⟩
theorem extended_ok {a b : Addr} {kvs more : List (Str × Value)} (R : Room A 1) (ha : DcA D G a kvs) (hb : DcA D G b more) (h1 : kvs.length + more.length ≤ 2 ^ 20) :
    CodeOk D A (.ref 446) [.ref a, .ref b] G C (fun r G' C' => C' = C ∧ ∃ d, r = .ref d ∧ DcA D G' d (merged kvs more)) := by
  refine codeOk_def (binds := [(sS "env", .ref a), (sS "more", .ref b)]) (look446 _) (by kernel_rfl) R.lt (fun s X => BindsTo.of_eq rfl) (locs rfl) ?_ (by decide)
  intro F hG hC env₀ A₀ m₀ Q₀ q₀
  refine B.cons ?_
  repeat tb_start
  refine B.dictOf (.inl ha) (by rw [sizeLine_eq]; lia) (fun d ob hg hc hf hz hd => ?_)
  repeat tb_start
  refine B.methD PySem.F.slot_dict_update PySem.F.type_dict_update (.inr ⟨hz, ob, up_self, hd⟩) ?_
  repeat tb_start
  refine B.dictUpdate up_self hd hb (by rw [sizeLine_eq]; lia) (fun o' hd' => ?_)
  refine Then.next ?_
  rw [up_up]
  refine B.freeze up_self hf (fun g => ?_) hg
  rw [rm_up1 hc]
  repeat tb_start
  exact ⟨rfl, d, rfl, hz, o', up_self, hd'⟩
theorem B.mulTrue {l : Addr} {o : Obj} {k : Nat} {t : Tok} {Q : Value → PM → PM → LM → Prop} (hk : k ≤ 10) (hg : G l = some o) (hp : PlO o [.bool true]) (q : ∀ a G', GLe G G' → LsA G' a (List.replicate k (.bool true)) → Q (.ref a) G' C m) : B D F A (binaryOp .Mult (.ref l) (.int k t)) Q G C m := fun h c tk => by
  obtain ⟨n, rfl⟩ := hp
  refine mul_list (s := St D h tk) (items := [Value.bool true].toArray) c.fr (c.newN h.objs.size) (c.ok.g _ _ hg) (by exact Int.natCast_nonneg _) (by lia) (by simp; lia) fun h' F' N' => ?_
  refine ⟨h', tk, rfl, _, C, m, c.newGN F' N' (get_size h), q _ _ (.up (c.ok.fresh_g (get_size h))) ⟨_, up_self, rfl, 0, ?_⟩⟩
  show Data.seq _ _ = _
  rw [listMul_foldl_if]
  simp
theorem hopeful_ok {k : Nat} {t : Tok} (R : Room A 4) (hk : k ≤ 10) : CodeOk D A (.ref 422) [.int k t] G C (fun r G' C' => C' = C ∧ Ex3 fun a lf df => And4 (r = .ref a) (InA G' a 411 [(sS "flags", .ref lf), (sS "free", .ref df), (sS "diverges", .bool true)]) (LsA G' lf (List.replicate k (.bool true))) (DcA D G' df [])) := by
  refine codeOk_def (binds := [(sS "many", .int k t)]) (look422 _) (by kernel_rfl) R.lt (fun s X => BindsTo.of_eq rfl) (locs rfl) ?_ (by decide)
  intro F hG hC env₀ A₀ m₀ Q₀ q₀
  refine B.cons ?_
  repeat tb_start
  refine B.listC ?_
  repeat tb_start
  refine ⟨Nat.le_of_ble_eq_true rfl, fun a o hg hc hf hp => ?_⟩
  refine B.freeze up_self hf (fun g => ?_) hg
  rw [rm_up1 hc]
  repeat tb_start
  refine B.mulTrue hk up_self hp (fun b G₂ g₂ hb => ?_)
  repeat tb_start
  refine B.dictC (fun d ob hg' hc' hf' hz hd => ?_)
  refine B.freeze up_self hf' (fun g' => ?_) hg'
  rw [rm_up1 hc']
  repeat tb_start
  refine B.callX (mk_Signature (R.deeper.le (by exact Nat.le_of_ble_eq_true rfl)) _ _ _) (fun x G₄ g₄ hi => ?_)
  repeat tb_start
  exact ⟨rfl, x, b, d, rfl, hi, (hb.up g').up g₄, hz, ob, g₄ _ _ up_self, hd⟩
theorem CodeOk.drop {f : Value} {args : List Value} {P : Value → PM → Prop} (k : CodeOk D A f args G C (fun r G' C' => GLe C C' ∧ P r G')) : CodeOk D A f args G C (fun r G' C' => C' = C ∧ P r G') := fun h ok tk =>
  codeAny_mono (k h ok tk) fun r s' q => by
    match r, q with
    | .ok (.ret v), ⟨h', tk', e, G', C', ok', ext, g, p⟩ =>
      exact ⟨h', tk', e, G', C, { x := ok'.x, t := ok'.t, z := ok'.z, gb := ok'.gb, g := ok'.g, c := fun a o e => ok'.c a o (g a o e), gc := fun a o e => ok'.gc a o (g a o e) }, ⟨ext.gs, fun _ _ _ => Iff.rfl, ext.keep⟩, rfl, p⟩
theorem B.notInStrs {l : Addr} {vs : List Value} {ys : List Str} {k : Str} {t : Tok} {Q : Value → PM → PM → LM → Prop} (hl : Rd G C fun M => LsA M l vs) (hi : StrsAre vs ys) (q : Q (.bool (!decide (k ∈ ys))) G C m) : B D F A (compareOp .NotIn (.str k t) (.ref l)) Q G C m :=
  B.val (· = .bool (!decide (k ∈ ys))) (fun h c Q E tk j => notin_list_strs (s := St D h tk) (rdL c.ok hl) hi (by
    have : (ys.any (· == k)) = decide (k ∈ ys) := by
      rw [Bool.eq_iff_iff]; simp
    rw [this]; exact j _ _ rfl)) fun _ e => e ▸ q
theorem B.inStrs {l : Addr} {vs : List Value} {ys : List Str} {k : Str} {t : Tok} {Q : Value → PM → PM → LM → Prop} (hl : Rd G C fun M => LsA M l vs) (hi : StrsAre vs ys) (q : Q (.bool (decide (k ∈ ys))) G C m) : B D F A (compareOp .In (.str k t) (.ref l)) Q G C m :=
  B.val (· = .bool (decide (k ∈ ys))) (fun h c Q E tk j => in_list_strs (s := St D h tk) (rdL c.ok hl) hi (by
    have : (ys.any (· == k)) = decide (k ∈ ys) := by
      rw [Bool.eq_iff_iff]; simp
    rw [this]; exact j _ _ rfl)) fun _ e => e ▸ q
theorem DcA.nodup {a : Addr} {l : List N} (h : DcA D G a (tt l)) : l.Nodup := by
  obtain ⟨_, o, _, hd⟩ := h
  have := keysNodup_of_isDictOf hd
  have e : (tt l).map (·.1) = l := by unfold tt; rw [List.map_map]; exact List.map_id' _
  rw [e] at this; exact this
theorem take_filter {l : List N} {i : Nat} {x : N} {p : N → Bool} (hn : l.Nodup) (hx : l[i]? = some x) :
    (p x = true → addTo ((l.take i).filter p) x = (l.take (i + 1)).filter p) ∧ (p x = false → (l.take i).filter p = (l.take (i + 1)).filter p) := by
  have e : l.take (i + 1) = l.take i ++ [x] := by rw [List.take_add_one, hx]; rfl
  have hm : x ∉ l.take i := by
    intro hm
    have : (l.take (i + 1)).Nodup := hn.sublist (List.take_sublist _ _)
    rw [e, List.nodup_append] at this
    exact this.2.2 x hm x (by simp) rfl
  constructor
  · intro hp
    rw [e, List.filter_append]
    unfold addTo
    rw [if_neg (fun h => hm (List.mem_filter.mp h).1)]
    simp [hp]
  · intro hp
    rw [e, List.filter_append]
    simp [hp]
theorem tt_get {l : List N} {i : Nat} {x : N} {v : Value} (h : (tt l)[i]? = some (x, v)) : l[i]? = some x := by
  unfold tt at h
  rw [List.getElem?_map] at h
  cases q : l[i]? with
  | none => rw [q] at h; cases h
  | some y => rw [q] at h; cases h; rfl
theorem without_ok {v : Value} {ln : Addr} {n : Nd} {xs : List N} (R : Room A 2) (hv : NdA D G v n) (hn : NamesA G ln xs) (h1 : Sz n (2 ^ 20)) :
    CodeOk D A (.ref 439) [v, .ref ln] G C (fun r G' C' => C' = C ∧ NdA D G' r (without n xs)) := by
  refine CodeOk.drop ?_
  refine codeOk_cellsB (binds := [(sS "needs", v), (sS "names", .ref ln)]) (look439 _) (by kernel_rfl) R.lt rfl (by kernel_rfl) ?_
  intro F hG hC G₁ C₁ cs₀ env₀ A₀ m₀ cl Q₀ q₀
  have k1 := cl.pA (sS "names") rfl rfl
  have g0 := cl.g
  have c0 := cl.c
  have hv1 := hv.up g0
  have hn1 := hn.up g0
  generalize hm0 : m₀ = m0
  subst hm0
  refine B.cons ?_
  repeat tb_start
  cases n with
  | none =>
    cases hv
    refine B.isNoneT ?_
    repeat tb_start
    exact ⟨c0, rfl⟩
  | some l =>
    obtain ⟨a, rfl, ha⟩ := hv1
    obtain ⟨vs, hvs, hst⟩ := hn1
    refine B.isNoneF ?_
    repeat tb_start
    have s1 := h1 l rfl
    refine B.dictComp (cl := ?cl) ?x ?h1 ?h2 rfl ?h4 ?h5
    case h1 => exact rfl
    case h2 => decide
    case h4 => decide
    case h5 => exact fun _ => rfl
    repeat tb_start
    refine ⟨(tt l).length, _, fun i ys G' C' => C' = C₁ ∧ ys = tt ((l.take i).filter (· ∉ xs)), iter_dict R.h ha, by rw [tt_len, sizeLine_eq]; lia, ⟨rfl, rfl⟩, ?_, ?_⟩
    · intro i v ys Gi Ci mi Fi hi hFG hFC hg inv hP
      refine B.opq fun Q₁ q₁ => ?_
      obtain ⟨rfl, rfl⟩ := inv
      obtain ⟨k, x, hkx, t, rfl⟩ := hP
      have hx := tt_get hkx
      have tf := take_filter (p := fun y => decide (y ∉ xs)) ha.nodup hx
      repeat tb_start
      refine .inr ⟨_, rfl, ?_⟩
      repeat tb_start
      refine B.notInStrs (.inl (hvs.up hg)) hst ?_
      refine B.trueBool ?_
      cases hk : decide (k ∈ xs)
      · refine iteT ?_
        repeat tb_start
        refine ⟨k, t, rfl, rfl, ?_⟩
        rw [tt_stored, tf.1 (by simpa using hk)]
      · refine iteF ?_
        exact ⟨rfl, by rw [tf.2 (by simpa using hk)]⟩
    · intro ys Gi Ci a G2 hg inv hg2 hla
      obtain ⟨rfl, rfl⟩ := inv
      repeat tb_start
      refine ⟨c0, a, rfl, ?_⟩
      rw [tt_len, List.take_length] at hla
      exact hla
noncomputable def eN (a b : Nd) : Nat → Nd
  | 0 => none
  | 1 => a
  | _ => either2 a b
noncomputable def stepE (acc : Nd) : Nd → Nd
  | none => acc
  | some b => match acc with
    | none => some b
    | some a => some (a.filter (· ∈ b))
theorem Room.hd {k : Nat} {e : Env} (R : Room A k) : (A.deeper e).handled = none := R.h
theorem GLe.upd {C C' : PM} {a : Addr} {o : Obj} (g : GLe C C') (h : C a = none) : GLe C (Mine.up C' a o) := fun x q e => by
  by_cases hx : x = a
  · subst hx; rw [h] at e; cases e
  · rw [up_ne hx]; exact g x q e
theorem either_ok {ll : Addr} {v w : Value} {n k : Nd} (R : Room A 2) (hl : LsA G ll [v, w]) (hv : NdA D G v n) (hw : NdA D G w k) (h1 : Sz n (2 ^ 20)) (h2 : Sz k (2 ^ 20)) :
    CodeOk D A (.ref 434) [.ref ll] G C (fun r G' C' => C' = C ∧ NdA D G' r (either2 n k)) := by
  refine CodeOk.drop ?_
  refine codeOk_cellsB (binds := [(sS "lots", .ref ll)]) (look434 _) (by kernel_rfl) R.lt rfl (by kernel_rfl) ?_
  intro F hG hC G₁ C₁ cs₀ env₀ A₀ m₀ cl Q₀ q₀
  obtain ⟨oc, hoc, hoc2, hoc3, hoc4⟩ := cl.q (sS "needs") _ rfl rfl
  have g0 := cl.g
  have c0 := cl.c
  have hl1 := hl.up g0
  have hv1 := hv.up g0
  have hw1 := hw.up g0
  generalize hm0 : m₀ = m0
  have hm1 : m0 (sS "lots") = some (.ref ll) := by rw [← hm0]; rfl
  refine B.cons ?_
  repeat tb_start
  have cN := hoc2
  refine B.for ?x
  repeat tb_start
  refine ⟨2, _, fun i G' C' m' => Ex2 fun o ov => And4 (C' (F.L + 1) = some o) (o.data = .cell ov) (GLe C C') (∃ fv, m' (sS "found") = some fv ∧ NdA D G' fv (eN n k i)), iter_list R.hd hl1, ⟨oc, none, hoc, hoc2, c0, .none, rfl, rfl⟩, ?_, ?_⟩
  · intro i x Gi Ci mi Fih hi hg inv hP Fi
    refine B.opq fun Q₁ q₁ => ?_
    obtain ⟨o, ov, ho1, ho2, hcc, fv, hfv, hnd⟩ := inv
    obtain ⟨nx, hx, hs, hstep⟩ : ∃ nx, And3 (NdA D Gi x nx) (Sz nx (2 ^ 20)) (eN n k (i + 1) = stepE (eN n k i) nx) := by
      match i, hi, hP with
      | 0, _, hP => cases hP; exact ⟨n, hv1.up hg, h1, by cases n <;> rfl⟩
      | 1, _, hP => cases hP; exact ⟨k, hw1.up hg, h2, by cases n <;> cases k <;> rfl⟩
    refine B.asgName (B.storeCell (c := F.L + 1) rfl ho1 ho2 (fun o' ho' => ?_))
    have hcc' : GLe C (up Ci (F.L + 1) o') := hcc.upd hoc3
    have cl1 : ClA (up Ci (F.L + 1) o') (F.L + 1) x := ⟨o', up_self, ho'⟩
    repeat tb_start
    cases nx with
    | none =>
      cases hx
      refine B.notNoneT ?_
      repeat tb_start
      exact ⟨o', _, up_self, ho', hcc', fv, hfv, by rw [hstep]; exact hnd⟩
    | some b =>
      obtain ⟨xb, rfl, hxb⟩ := hx
      refine B.notNoneF ?_
      repeat tb_start
      cases hacc : eN n k i with
      | none =>
        rw [hacc] at hstep hnd
        cases hnd
        refine B.isNoneT ?_
        repeat tb_start
        have sb := hs b rfl
        refine B.dictOf (.inl hxb) (by rw [tt_len, sizeLine_eq]; lia) (fun d ob hgd hcd hfd hz hd => ?_)
        refine B.freeze up_self hfd (fun g => ?_) hgd
        rw [rm_up1 hcd]
        repeat tb_start
        exact ⟨o', _, up_self, ho', hcc', _, rfl, by rw [hstep]; exact ⟨d, rfl, hz, ob, up_self, hd⟩⟩
      | some a =>
        rw [hacc] at hstep hnd
        obtain ⟨fa, rfl, hfa⟩ := hnd
        refine B.isNoneF ?_
        repeat tb_start
        refine B.dictComp (cl := ?cl) ?x1 ?h1 ?h2 rfl ?h4 ?h5
        case h1 => exact rfl
        case h2 => decide
        case h4 => decide
        case h5 => exact fun _ => rfl
        repeat tb_start
        have sa : a.length ≤ 2 ^ 20 := by
          match i, hi, hacc with
          | 1, _, hacc => exact h1 a hacc
        refine ⟨(tt a).length, _, fun j ys G' C' => C' = up Ci (F.L + 1) o' ∧ ys = tt ((a.take j).filter (· ∈ b)), iter_dict R.hd hfa, by rw [tt_len, sizeLine_eq]; lia, ⟨rfl, rfl⟩, ?_, ?_⟩
        · intro j v ys Gj Cj mj Fj hj hFG hFC hgj inv hP
          refine B.opq fun Q₁ q₁ => ?_
          obtain ⟨rfl, rfl⟩ := inv
          obtain ⟨y, x, hkx, t, rfl⟩ := hP
          have hx := tt_get hkx
          have tf := take_filter (p := fun y => decide (y ∈ b)) hfa.nodup hx
          repeat tb_start
          refine .inr ⟨_, rfl, ?_⟩
          repeat tb_start
          refine B.inD (.inl (hxb.up hgj)) ?_
          refine B.trueBool ?_
          rw [tt_at]
          cases hk : decide (y ∈ b)
          · refine iteF ?_
            exact ⟨rfl, by rw [tf.2 hk]⟩
          · refine iteT ?_
            repeat tb_start
            refine ⟨y, t, rfl, rfl, ?_⟩
            rw [tt_stored, tf.1 hk]
        · intro ys Gj Cj d G2 hgj inv hg2 hla
          obtain ⟨rfl, rfl⟩ := inv
          repeat tb_start
          rw [tt_len, List.take_length] at hla
          exact ⟨o', _, up_self, ho', hcc', _, rfl, by rw [hstep]; exact ⟨d, rfl, hla⟩⟩
  · intro Gi Ci mi hg inv
    obtain ⟨o, ov, ho1, ho2, hcc, fv, hfv, hnd⟩ := inv
    repeat tb_start
    exact ⟨hcc, hnd⟩
end
theorem plain_upd_loop : plainId "dict.update.loop" = true := by decide +kernel
theorem entry_upd_loop : entryFor table "dict.update.loop" = some Builtin.«dict.update.loop» := entryFor_of_fast (by kernel_rfl)
theorem miss_keys : typeLookup (.type "list") (Str.ofString "keys") = pure none := by rw [typeLookup_type, builtinLookup_eq_fast]; kernel_rfl
section
variable {prog : Program} {w : World} {A : Around} {E : Value → Shared → Prop} {s : Shared}
theorem getAttrQ_miss {a : Addr} {xs : Array Value} {k : Nat} {sl : Array (Option Value)} {name : Str} {Q : Option Value → Shared → Prop}
    (hx : s.heap.get? a = some { cls := .type "list", dict := none, data := .seq xs k, slots := sl }) (hmiss : typeLookup (.type "list") name = pure none) (hname : (["__module__", "__name__", "__qualname__", "__doc__", "__annotations__"] : List Str).contains name = false) (hA : A.handled = none)
    (h : ∀ h' tk, (∀ b o, s.heap.get? b = some o → h'.get? b = some o) → Q none { s with heap := h', toks := tk }) (hsz : name.length + 100 ≤ sizeLine := by size_fits) :
    wpAny (model prog w) A (getAttr? (.ref a) name) Q E s := by
  obtain ⟨hp, g, d, tk, os⟩ := s
  have hT : ∀ tk', (⟨hp, g, d, tk', os⟩ : Shared).TypeIs (.ref a) "list" := fun _ => ⟨_, hx, rfl⟩
  have f1 := sub_AttributeError
  have f3 := F.slot_list_getattribute.lookup
  have f4 := F.slot_list_getattribute.bind (.ref a)
  have f5 := am_list_getattr_none
  unfold getAttr? getAttrBy? getAttrBy
  repeat (any_goals (first | assumption | exact hT _ | ((with_reducible show wpAny _ _ (call (Value.builtin "list.__getattribute__") _ _) _ _ _); refine call_meets F.slot_list_getattribute (hT _) am_entry_list_getattribute (F.args_list_getattribute_2 _ _) (meets_getattribute_miss_list a xs k sl name _ hmiss hname hsz) ⟨hx, hA, fun h' tk' e hx' => ?_⟩) | wp_step))
  obtain ⟨t', u', he⟩ := hx'.there
  show wpAny _ _ (getattributeRaised _ _ _ _ _ _ _) _ _ _
  unfold getattributeRaised
  repeat (any_goals (first | assumption | wp_step))
  exact h _ _ hx'.keeps
variable {K : Type} [DecidableEq K] {knd : KeyKind prog w K} {R : Result → Shared → Prop} {I D : Addr} {fp wr : List Addr} {n : Nat} {P : Nat → Value → Prop} {St : Nat → Heap → Prop} {pairs : List (K × Value)}
noncomputable def PairAt (knd : KeyKind prog w K) (pairs : List (K × Value)) (D : Addr) (wr : List Addr) (P : Nat → Value → Prop) (h : Heap) : Prop :=
  ∀ j v, P j v → ∃ p key x kk, v = .ref p ∧ p ∉ wr ∧ p ≠ D ∧ h.IsTuple p #[key, x] ∧ knd.is kk key = true ∧ pairs[j]? = some (kk, x)
theorem PairAt.keep {h h' : Heap} (k : PairAt knd pairs D wr P h) (hk : ∀ b o, b ∉ wr → b ≠ D → h.get? b = some o → h'.get? b = some o) : PairAt knd pairs D wr P h' := fun j v hp => by
  obtain ⟨p, key, x, kk, e, n1, n2, ⟨o, ho, r⟩, z⟩ := k j v hp
  exact ⟨p, key, x, kk, e, n1, n2, ⟨o, hk _ _ n1 n2 ho, r⟩, z⟩
theorem upd_loop (W : Walks prog w A.in1 I fp wr n P St) (hD : D ∉ fp) (hn : pairs.length = n) (hz : n ≤ sizeLine) (res : Value) : ∀ (k i : Nat) (z : Int) (s : Shared), n - i = k → i ≤ n → St i s.heap → s.heap.DictOf knd D (merged [] (pairs.take i)) → PairAt knd pairs D wr P s.heap →
    (∀ h' tk, (∀ b o, b ∉ wr → b ≠ D → s.heap.get? b = some o → h'.get? b = some o) → h'.DictOf knd D (merged [] pairs) → R (.ok (.ret res)) { s with heap := h', toks := tk }) →
    codeAny (model prog w) A (.builtin "dict.update.loop" ⟨[.ref D, .ref I, rawInt z, res], []⟩) R s := by
  have hDw : D ∉ wr := fun h => hD (W.sub _ h)
  intro k
  induction k with
  | zero =>
    intro i z s hk hi hst hd hp hR
    have hin : i = n := sb0 hk hi
    subst hin
    refine codeAny_builtin entry_upd_loop ?_
    rw [Around.under_plainId plain_upd_loop _]
    show wpAny _ A.in1 (pyNext (.ref I) >>= _) _ _ s
    refine wpAny_bind (W.done s _ _ hst fun h' tk hm => ?_)
    show wpAny _ _ (Builtin.Dict.addKeywords D [] >>= _) _ _ _
    refine wpAny_bind (wpAny_pure (wpAny_pure (hR h' tk (fun b o n1 _ e => hm b o n1 e) ?_)))
    rw [List.take_of_length_le (Nat.le_of_eq hn)] at hd
    obtain ⟨o, ho, hd⟩ := Heap.dictOf_iff.mp hd
    exact Heap.dictOf_iff.mpr ⟨o, hm _ _ hDw ho, hd⟩
  | succ k ih =>
    intro i z s hk hi hst hd hp hR
    have hlt : i < n := sb2 hk
    refine codeAny_builtin entry_upd_loop ?_
    rw [Around.under_plainId plain_upd_loop _]
    show wpAny _ A.in1 (pyNext (.ref I) >>= _) _ _ s
    refine wpAny_bind (W.item i s _ _ hlt hst fun v h' tk hv hst' hm => ?_)
    have hp' := hp.keep (h' := h') fun b o n1 _ e => hm b o n1 e
    obtain ⟨p, key, x, kk, rfl, n1, n2, ⟨o, ho, hc, ep, hdat⟩, hkey, hpi⟩ := hp' i v hv
    have hd' : h'.DictOf knd D (merged [] (pairs.take i)) := by
      obtain ⟨o, ho, hd⟩ := Heap.dictOf_iff.mp hd
      exact Heap.dictOf_iff.mpr ⟨o, hm _ _ hDw ho, hd⟩
    refine wpAny_bind (wpAny_holding ?_)
    refine wpAny_bind (wpAny_tryCatch ?_)
    unfold Builtin.Dict.pairItems
    refine wpAny_bind (wpAny_typeOf (T := "tuple") ⟨o, ho, hc⟩ ?_)
    rw [if_pos (by decide)]
    refine wpAny_bind (wpAny_seqItems ho hdat (wpAny_pure ?_))
    show wpAny _ _ (holding [key, x] (dictSet D key x)) _ _ _
    refine wpAny_holding (wpAny_dictSet_pairs (s := { s with heap := h', toks := tk }) (hsz := by have := merged_length_le (K := K) [] (pairs.take i); have := List.length_take_le i pairs; simp only [List.length_nil] at *; lia) hkey hd' fun h'' hd'' hs'' => ?_)
    rw [← merged_take_succ _ _ _ _ hpi] at hd''
    refine wpAny_pure ⟨plainId_quiet plain_upd_loop _, ?_⟩
    refine ih (i + 1) (z + 1) _ (sb1 hk) hlt (W.frame _ h' h'' hst' fun b hb o e => (hs''.2 b (fun q => hD (q ▸ hb))).trans e) hd'' (hp'.keep fun b o _ n e => (hs''.2 b n).trans e) fun h3 tk3 hk3 hd3 => ?_
    exact hR h3 tk3 (fun b o n1 n2 e => hk3 b o n1 n2 ((hs''.2 b n2).trans (hm b o n1 e))) hd3
theorem call_dict_list {l : Addr} {vs : List Value} {Q : Value → Shared → Prop} (hA : A.handled = none) {ep : Nat} {sl : Array (Option Value)} (hl : s.heap.get? l = some { cls := .type "list", dict := none, data := .seq vs.toArray ep, slots := sl }) (hn : pairs.length = vs.length) (hz : vs.length ≤ sizeLine)
    (hv : ∀ (j : Nat) (v : Value), vs[j]? = some v → ∃ p key x kk, v = .ref p ∧ s.heap.IsTuple p #[key, x] ∧ knd.is kk key = true ∧ pairs[j]? = some (kk, x))
    (h : ∀ h' tk, (∀ b o, s.heap.get? b = some o → h'.get? b = some o) → h'.DictOf knd s.heap.objs.size (merged [] pairs) → Q (.ref s.heap.objs.size) { s with heap := h', toks := tk }) :
    wpAny (model prog w) A (call (.type "dict") [.ref l]) Q E s := by
  refine callType_codes (Q₁ := fun obj s₁ => obj = .ref s.heap.objs.size ∧ s₁ = { s with heap := s.heap.push { cls := .type "dict", data := .dict #[] } }) F.kt_called_dict (F.kt_typeCall_dict_1 _) F.entry_dict_init (kt_code_dict_new _ ⟨rfl, rfl⟩) ?_
  rintro obj s₁ ⟨rfl, rfl⟩
  have hnew : (s.heap.push { cls := .type "dict", data := .dict #[] }).DictOf knd s.heap.objs.size [] := Heap.DictOf.new s.heap
  have hl' : (s.heap.push { cls := .type "dict", data := .dict #[] }).get? l = some _ := Heap.get?_push_of_some _ hl
  refine ⟨hnew.typeIs, F.args_dict_init_2 _ _, ?_⟩
  unfold Builtin.«dict.__init__»
  refine wpAny_bind ?_
  unfold Builtin.Dict.selfAndRest
  refine wpAny_bind (wpAny_notOrdered_dict hnew.typeIs ?_)
  show wpAny _ _ (pure (s.heap.objs.size, [Value.ref l])) _ _ _
  refine wpAny_pure ?_
  show wpAny _ _ (Builtin.Dict.updateFrom "dict.__init__" s.heap.objs.size (.ref l) [] .none) _ _ _
  unfold Builtin.Dict.updateFrom
  refine wpAny_bind (wpAny_typeOf (T := "list") ⟨_, hl', rfl⟩ ?_)
  rw [if_pos (by decide)]
  refine wpAny_bind (getAttrQ_miss hl' miss_keys (by decide) hA fun h1 tk1 hk1 => ?_)
  rw [if_pos (show Option.isNone (none : Option Value) = true from rfl)]
  refine wpAny_bind (wpAny_rule ?_)
  have hl1 := hk1 _ _ hl'
  have hD1 : h1.get? s.heap.objs.size = some _ := hk1 _ _ (Heap.get?_push_size _ rfl)
  have lis : h1.IsList l vs.toArray := ⟨_, hl1, rfl, _, rfl⟩
  refine wpAny_bind (wpAny_pyIter_list lis ?_)
  have hlI : l ≠ h1.objs.size := Nat.ne_of_lt (Heap.lt_size hl1)
  have hDI : s.heap.objs.size ≠ h1.objs.size := Nat.ne_of_lt (Heap.lt_size hD1)
  have hlD : l ≠ s.heap.objs.size := Nat.ne_of_lt (Heap.lt_size hl)
  have W := Walks.list (prog := prog) (w := w) (A := A.in1.in1) hA h1.objs.size l hlI vs.toArray
  have hback : ∀ b o, s.heap.get? b = some o → (h1.push { cls := .type "list_iterator", data := .fields #[.ref l, .int 0 0] }).get? b = some o := fun b o e => Heap.get?_push_of_some _ (hk1 _ _ (Heap.get?_push_of_some _ e))
  have hne : ∀ b o, s.heap.get? b = some o → b ∉ [h1.objs.size] ∧ b ≠ s.heap.objs.size := fun b o e => by
    have h1' := Heap.lt_size e
    have h2' := Heap.lt_size (hk1 _ _ (Heap.get?_push_of_some { cls := .type "dict", data := .dict #[] } e))
    exact ⟨fun z => by simp at z; subst z; exact absurd h2' (Nat.lt_irrefl _), Nat.ne_of_lt h1'⟩
  refine wpAny_pure ⟨plainId_quiet plain_upd_loop _, upd_loop (knd := knd) (pairs := pairs) W (fun z => ?_) (by simpa using hn) (by simpa using hz) .none vs.toArray.size 0 0 _ rfl (Nat.zero_le _) ⟨⟨_, Heap.get?_push_size _ rfl, rfl, rfl⟩, lis.push _⟩ ?_ ?_ fun h' tk hk hd => ⟨rfl, h h' tk (fun b o e => hk b o (hne b o e).1 (hne b o e).2 (hback b o e)) hd⟩⟩
  · simp at z
    rcases z with z | z
    · exact hDI z
    · exact hlD z.symm
  · obtain ⟨o, ho, hd⟩ := Heap.dictOf_iff.mp hnew
    exact Heap.dictOf_iff.mpr ⟨o, Heap.get?_push_of_some _ (hk1 _ _ ho), hd⟩
  · intro j v hj
    obtain ⟨p, key, x, kk, e, ⟨o, ho, r⟩, z⟩ := hv j v (by simpa using hj)
    exact ⟨p, key, x, kk, e, (hne p o ho).1, (hne p o ho).2, ⟨o, hback p o ho, r⟩, z⟩
end
section
variable {D : Wd} {A : Around} {F : Fn} {G C G' C' : PM} {m : LM} {h : Heap} {vs : List Value} {pairs : List (Str × Value)}
/-- dict(list of pairs) -/
theorem B.dictPairs {l : Addr} {Q : Value → PM → PM → LM → Prop} (hh : A.handled = none) (hl : Rd G C fun M => LzA M l vs) (hn : pairs.length = vs.length) (hz : vs.length ≤ sizeLine)
    (hv : ∀ (j : Nat) (v : Value), vs[j]? = some v → Ex4 fun p t kk x => And3 (v = .ref p) (TpA G p [.str kk t, x]) (pairs[j]? = some (kk, x))) (hnd : (pairs.map (·.1)).Nodup)
    (q : ∀ a ob, G a = none → C a = none → F.C a = none → (a == sysModules) = false → ob.IsDictOf (PySem.strKind Pw D.w) pairs → Q (.ref a) G (up C a ob) m) : B D F A (PySem.call (.type "dict") [.ref l]) Q G C m := fun h c tk => by
  have ho : ∃ ep, h.get? l = some { cls := .type "list", dict := none, data := .seq vs.toArray ep, slots := #[] } := by
    rcases hl with ⟨o, e, n, rfl⟩ | ⟨o, e, n, rfl⟩
    · exact ⟨n, c.ok.g _ _ e⟩
    · exact ⟨n, c.ok.c _ _ e⟩
  obtain ⟨ep, ho⟩ := ho
  refine call_dict_list (s := St D h tk) (knd := PySem.strKind Pw D.w) (pairs := pairs) hh ho hn hz (fun j v e => ?_) fun h' tk' hk hd => ?_
  · obtain ⟨p, t, kk, x, rfl, ⟨o, eo, hc, n, hd⟩, z⟩ := hv j v e
    exact ⟨p, _, x, kk, rfl, ⟨o, c.ok.g _ _ eo, hc, n, hd⟩, strKind_is Pw D.w kk t, z⟩
  · rw [merged_nil_of_nodup pairs hnd] at hd
    obtain ⟨ob, ho, hd⟩ := Heap.dictOf_iff.mp hd
    have ha := get_size h
    exact ⟨h', tk', rfl, G, _, m, c.pushC ha ho hk, q _ _ (c.ok.fresh_g ha) (c.ok.fresh_c ha) (c.own ha) (notMod c) hd⟩
end
inductive ZipIn (F : Fn) (G C' C : PM) (z l1 l2 : Addr) : Prop
  | mk : (GLe C C') → ((∀ a o, F.h.get? a = some o → C a = none → C' a = none)) → ∀ TI TO i1 i2, (ZipApart z TI TO i1 i2 l1 l2) → ((∃ o, G TI = some o)) → ((∀ b ∈ [z, TO, i1, i2], F.h.get? b = none ∧ b ≠ F.L ∧ G b = none ∧ C b = none)) → (∀ h : Heap, (∀ a o, G a = some o → h.get? a = some o) → (∀ a o, C' a = some o → h.get? a = some o) → IsZip h z TI TO .none ∧ IsPair h TI (.ref i1) (.ref i2) ∧ IsPair h TO .none .none ∧ h.IsListIter i1 l1 0 ∧ h.IsListIter i2 l2 0) → ZipIn F G C' C z l1 l2
section
variable {D : Wd} {A : Around} {F : Fn} {G C G' C' : PM} {m : LM} {h : Heap} {env : Env} {pos : Pos} {xs ys : List Value}
theorem Cx.weaken (c : Cx D F G C' m h) (g : GLe C C') (f : ∀ a o, F.h.get? a = some o → C a = none → C' a = none) : Cx D F G C m h where
  ok := { x := c.ok.x, t := c.ok.t, z := c.ok.z, gb := c.ok.gb, g := c.ok.g, c := fun a o e => c.ok.c a o (g a o e), gc := fun a o e => c.ok.gc a o (g a o e) }
  ext := { gs := c.ext.gs, cs := fun a o n e => ⟨fun z => (c.ext.cs a o n e).mp (f a o e z), fun z => by
             cases q : C a with
             | none => rfl
             | some y => have := (c.ext.cs a o n e).mpr z; rw [g a y q] at this; cases this⟩
           keep := c.ext.keep }
  ns := c.ns
  lg := c.lg
  lc := by
    cases q : C F.L with
    | none => rfl
    | some y => have := g _ _ q; rw [c.lc] at this; cases this
  lg0 := c.lg0
  lc0 := c.lc0
  lb := c.lb
  ok0 := c.ok0
theorem B.zip {l1 l2 : Addr} {Q : Value → PM → PM → LM → Prop} (hl1 : LsA G l1 xs) (hl2 : LsA G l2 ys) (q : ∀ z G' C', GLe G G' → ZipIn F G' C' C z l1 l2 → Q (.ref z) G' C' m) : B D F A (PySem.call (.type "zip") [.ref l1, .ref l2]) Q G C m := fun h c tk => by
  refine call_zip_2 (s := St D h tk) (rdL c.ok (.inl hl1)) (rdL c.ok (.inl hl2)) fun h' hz hTI hTO h1 h2 hsz hk => ?_
  have hlt : ∀ {a : Addr} {o : Obj}, h.get? a = some o → a < h.objs.size := fun e => Heap.lt_size e
  have hno : ∀ b : Addr, h.objs.size ≤ b → h.get? b = none := fun b hb => by
    cases q : h.get? b with
    | none => rfl
    | some o => exact absurd (hlt q) (Nat.not_lt.mpr hb)
  have fresh : ∀ b : Addr, h.objs.size ≤ b → F.h.get? b = none ∧ b ≠ F.L ∧ G b = none ∧ C b = none := fun b hb => by
    have e := hno b hb
    have nL : b ≠ F.L := fun z => by obtain ⟨o, _, _, e', _⟩ := c.ns; rw [← z, e] at e'; cases e'
    refine ⟨?_, nL, c.ok.fresh_g e, c.ok.fresh_c e⟩
    cases q : F.h.get? b with
    | none => rfl
    | some o => obtain ⟨o', e'⟩ := c.ext.alive c.ok nL q; rw [e] at e'; cases e'
  have hTI' : h'.get? (h.objs.size + 2) = some _ := hTI
  let C' : PM := fun a => if h.objs.size ≤ a ∧ a ≠ h.objs.size + 2 then h'.get? a else C a
  have c'lo : ∀ a, a < h.objs.size → C' a = C a := fun a ha => if_neg fun z => absurd z.1 (Nat.not_le.mpr ha)
  have c'hi : ∀ a, h.objs.size ≤ a → a ≠ h.objs.size + 2 → C' a = h'.get? a := fun a h1 h2 => if_pos ⟨h1, h2⟩
  have gC : GLe C C' := fun a o e => (c'lo a (hlt (c.ok.c a o e))).trans e
  have g2 : G (h.objs.size + 2) = none := (fresh _ (Nat.le_add_right _ _)).2.2.1
  have ok' : Ok D (Mine.up G (h.objs.size + 2) _) C' h' :=
    { x := c.ok.x, t := c.ok.t, z := c.ok.z
      gb := fun a o e => GLe.up g2 a o (c.ok.gb a o e)
      g := fun a o e => by
        by_cases z : a = h.objs.size + 2
        · subst z; rw [up_self] at e; cases e; exact hTI'
        · rw [up_ne z] at e; exact hk a o (c.ok.g a o e)
      c := fun a o e => by
        by_cases z : h.objs.size ≤ a ∧ a ≠ h.objs.size + 2
        · rw [c'hi a z.1 z.2] at e; exact e
        · have : C' a = C a := if_neg z
          rw [this] at e; exact hk a o (c.ok.c a o e)
      gc := fun a o e => by
        by_cases z : h.objs.size ≤ a ∧ a ≠ h.objs.size + 2
        · rw [up_ne z.2]; exact (fresh a z.1).2.2.1
        · have : C' a = C a := if_neg z
          rw [this] at e
          rw [up_ne (fun w => by rw [w, (fresh _ (Nat.le_add_right _ _)).2.2.2] at e; cases e)]
          exact c.ok.gc a o e }
  have ext' : Ext G C h (Mine.up G (h.objs.size + 2) { cls := .type "tuple", data := .seq #[.ref h.objs.size, .ref (h.objs.size + 1)] }) C' h' :=
    { gs := fun a o e => up_ne fun z => absurd (hlt e) (by rw [z]; exact Nat.not_lt.mpr (Nat.le_add_right _ _))
      cs := fun a o e => by rw [c'lo a (hlt e)]
      keep := fun a o e _ => hk a o e }
  have n0 : ∀ k, h.objs.size ≤ h.objs.size + k := fun k => Nat.le_add_right _ _
  have l1' : l1 < h.objs.size := by obtain ⟨o, e, _⟩ := hl1; exact hlt (c.ok.g _ _ e)
  have l2' : l2 < h.objs.size := by obtain ⟨o, e, _⟩ := hl2; exact hlt (c.ok.g _ _ e)
  refine ⟨h', tk, rfl, _, C', m, c.after ok' ext', q _ _ _ (.up g2) ⟨gC, fun a o e z => ?_, h.objs.size + 2, h.objs.size + 3, h.objs.size, h.objs.size + 1, PySem.W.ktu_apart _ _ _ l1' l2', ⟨_, up_self⟩, fun b hb => ?_, fun h3 hg3 hc3 => ?_⟩⟩
  · by_cases w : a < h.objs.size
    · rw [c'lo a w]; exact z
    · have := (fresh a (Nat.not_lt.mp w)).1
      rw [e] at this; cases this
  · have f : ∀ k, k ≠ 2 → F.h.get? (h.objs.size + k) = none ∧ h.objs.size + k ≠ F.L ∧ Mine.up G (h.objs.size + 2) { cls := .type "tuple", data := .seq #[.ref h.objs.size, .ref (h.objs.size + 1)] } (h.objs.size + k) = none ∧ C (h.objs.size + k) = none := fun k hk2 => by
      have := fresh (h.objs.size + k) (n0 k)
      refine ⟨this.1, this.2.1, ?_, this.2.2.2⟩
      rw [up_ne (fun z => hk2 (Nat.add_left_cancel z))]; exact this.2.2.1
    simp only [List.mem_cons, List.not_mem_nil, or_false] at hb
    rcases hb with rfl | rfl | rfl | rfl
    · exact f 4 (by decide)
    · exact f 3 (by decide)
    · exact f 0 (by decide)
    · exact f 1 (by decide)
  · have cc : ∀ k o, k ≠ 2 → h'.get? (h.objs.size + k) = some o → h3.get? (h.objs.size + k) = some o := fun k o hk2 e => hc3 _ _ ((c'hi _ (n0 k) (fun z => hk2 (Nat.add_left_cancel z))).trans e)
    refine ⟨cc 4 _ (by decide) hz, hg3 _ _ up_self, cc 3 _ (by decide) hTO, ?_, ?_⟩
    · exact h1.at fun o e => cc 0 o (by decide) e
    · exact h2.at fun o e => cc 1 o (by decide) e
inductive ZipP (D : Wd) (F : Fn) (A : Around) (Q : Flow → PM → PM → LM → Prop) (elts : List PySem.Expr) (body : List Stmt) (env : Env) (v : Value) (G' C' : PM) (m' : LM) : Prop
  | mk : ∀ z l1 l2 xs ys C0, ∀ Inv : Nat → PM → PM → LM → Prop, v = .ref z → ZipIn F G' C' C0 z l1 l2 → LsA G' l1 xs → LsA G' l2 ys → Inv 0 G' C0 m' → (assignEach elts env).length = 2 → (assignEach elts env).findIdx? (·.1) = none →
      (∀ i a b G₁ C₁ m₁ (Fh : Heap), xs[i]? = some a → ys[i]? = some b → GLe G' G₁ → Inv i G₁ C₁ m₁ → let F' : Fn := ⟨Fh, G₁, C₁, F.L⟩; B D F' A (assignInOrder ((assignEach elts env).map (·.2)) [a, b]) (fun _ => B D F' A (execs body env) (LoopPost D F A Q (Inv (i + 1)))) G₁ C₁ m₁) →
      (∀ G₁ C₁ m₁, GLe G' G₁ → Inv (min xs.length ys.length) G₁ C₁ m₁ → Q .next G₁ C₁ m₁) → ZipP D F A Q elts body env v G' C' m'
theorem B.forZip {elts : List PySem.Expr} {k : Nat} {tpos : Pos} {iter : PySem.Expr} {body : List Stmt} {Q : Flow → PM → PM → LM → Prop} (hh : A.handled = none)
    (x : B D F A (eval iter env) (ZipP D F A Q elts body env) G C m)
    (hs : ∀ x, foldedSetIterable iter env x = Pure.pure x := by intro _; rfl) : B D F A (exec (.For (.Tuple elts k tpos) iter body [] pos) env) Q G C m :=
  for_core (fun h cx tk => wpAny_mono (x h cx tk) (fun xv s₁ hx => by
    obtain ⟨h1, tk1, rfl, G', C', m', c1, z, l1, l2, xs, ys, C0, Inv, rfl, ⟨gC, fC, TI, TO, i1, i2, ap, ⟨oT, hT⟩, fr, at'⟩, hl1, hl2, h0, hn, hne, step, fin⟩ := hx
    obtain ⟨hz, hTI, hTO, hi1, hi2⟩ := at' h1 c1.ok.g c1.ok.c
    refine ⟨h1, tk1, rfl, fun tk => ?_⟩
    refine wpAny_pyIter_zip hz ?_
    have c2 := c1.weaken gC fC
    have W := (WalksT.zip2 (prog := Pw) (w := D.w) hh _ _ _ _ _ _ _ ap xs.toArray ys.toArray).toU
    refine ⟨h1, tk, rfl, G', C0, m', z, _, _, _, _, _, _, Inv, rfl, c2, KTurns.ofWalksU W, ?_, ⟨hz, hTI, ⟨_, _, hTO⟩, hi1, hi2, rdL c2.ok (.inl hl1), rdL c2.ok (.inl hl2)⟩, fr, ?_, h0, ?_, fun G₁ C₁ m₁ g i => fin G₁ C₁ m₁ g (by simpa using i)⟩
    · rintro i h ⟨hz, hTI, ⟨a, b, hTO⟩, ⟨o1, ho1, _⟩, ⟨o2, ho2, _⟩, _⟩ b hb
      simp only [List.mem_cons, List.not_mem_nil, or_false] at hb
      rcases hb with rfl | rfl | rfl | rfl
      · exact ⟨_, hz⟩
      · exact ⟨_, hTO⟩
      · exact ⟨_, ho1⟩
      · exact ⟨_, ho2⟩
    · intro b hb
      simp only [List.mem_cons, List.not_mem_nil, or_false] at hb
      rcases hb with rfl | rfl | rfl | rfl | rfl | rfl | rfl
      · exact .inl (by simp)
      · exact .inr ⟨_, hT⟩
      · exact .inl (by simp)
      · exact .inl (by simp)
      · exact .inl (by simp)
      · obtain ⟨o, e, _⟩ := hl1; exact .inr ⟨_, e⟩
      · obtain ⟨o, e, _⟩ := hl2; exact .inr ⟨_, e⟩
    · rintro i v G₁ C₁ m₁ h F' hi hL hG hC hg hI c3 ⟨T, vals, rfl, ⟨a, b, ha, hb, rfl⟩, hT⟩ tk3
      refine wpAny_assign_Tuple (s := St D h tk3) hh hT (by simpa using hn) hne fun h' hx => ?_
      have hk : ∀ a o, h.get? a = some o → h'.get? a = some o := fun a o e => hx a o (Nat.ne_of_lt (Heap.lt_size e)) e
      obtain ⟨Fh, FG, FC, FL⟩ := F'
      dsimp only at hL hG hC
      subst hL hG hC
      exact wpAny_mono (step i a b FG FC m₁ Fh (by simpa using ha) (by simpa using hb) hg hI h' (c3.after (c3.ok.grow hk) (.grow hk)) tk3) (fun _ _ ⟨h4, tk4, e, G₂, C₂, m₂, c4, q⟩ => ⟨h4, tk4, e, G₂, C₂, m₂, c4, q⟩) fun _ _ z => z) fun _ _ z => z) hs
inductive WhS (D : Wd) (F : Fn) (G : PM) (Inv : Nat → PM → PM → LM → Prop) (n : Nat) (s' : Shared) : Prop
  | mk : ∀ h tk G₁ C₁ m₁, s' = St D h tk → Cx D F G₁ C₁ m₁ h → GLe G G₁ → Inv n G₁ C₁ m₁ → WhS D F G Inv n s'
theorem B.while {test : PySem.Expr} {body : List Stmt} {Q : Flow → PM → PM → LM → Prop} (n₀ : Nat) (Inv : Nat → PM → PM → LM → Prop) (h0 : Inv n₀ G C m)
    (turn : ∀ n G₁ C₁ m₁ (Fh : Heap), GLe G G₁ → Inv n G₁ C₁ m₁ → let F' : Fn := ⟨Fh, G₁, C₁, F.L⟩; B D F' A (PySem.isTrue test env (eval test env)) (fun b => bif b then B D F' A (execs body env) (LoopPost D F A Q fun G₂ C₂ m₂ => ∃ n', n' < n ∧ Inv n' G₂ C₂ m₂) else Q .next) G₁ C₁ m₁) :
    B D F A (exec (.While test body [] pos) env) Q G C m := fun h c tk => by
  refine wpAny_While (codeAny_whileLoop (WhS D F G Inv) ?_ n₀ ⟨h, tk, G, C, m, rfl, c, .rfl, h0⟩)
  rintro n s' ⟨h, tk, G₁, C₁, m₁, rfl, c, g, i⟩
  refine wpAny_mono (turn n G₁ C₁ m₁ h g i h c.rebase tk) (fun b s₂ q => ?_) (fun _ _ z => z.elim)
  obtain ⟨h2, tk2, rfl, G2, C2, m2, c2, q⟩ := q
  cases b with
  | false => exact wpAny_execs_nil ⟨h2, tk2, rfl, G2, C2, m2, c.unbase c2, q⟩
  | true =>
    refine wpAny_mono (q h2 c2 tk2) (fun fl s3 q => ?_) (fun _ _ z => z.elim)
    obtain ⟨h4, tk4, rfl, G3, C3, m3, c4, q⟩ := q
    have g3 : GLe G G3 := g.trans fun a o e => (c4.ext.gs a o (fun z => by rw [z, c.lg] at e; cases e) (c.ok.g a o e)).trans e
    cases fl with
    | next => obtain ⟨n', hn, i'⟩ := q; exact ⟨n', hn, h4, tk4, G3, C3, m3, rfl, c.unbase c4, g3, i'⟩
    | cont => obtain ⟨n', hn, i'⟩ := q; exact ⟨n', hn, h4, tk4, G3, C3, m3, rfl, c.unbase c4, g3, i'⟩
    | brk => exact ⟨h4, tk4, rfl, G3, C3, m3, c.unbase c4, q⟩
    | ret v => exact ⟨h4, tk4, rfl, G3, C3, m3, c.unbase c4, q⟩
end
section
variable {D : Wd} {A : Around} {F : Fn} {G C G' C' : PM} {m : LM} {h : Heap} {env : Env} {pos : Pos}
theorem rm_up2 {C : PM} {a : Addr} {o : Obj} : rm (up C a o) a = rm C a := by
  funext x; by_cases e : x = a
  · subst e; rw [rm_self, rm_self]
  · rw [rm_ne e, rm_ne e, up_ne e]
theorem B.dictG {Q : Value → PM → PM → LM → Prop} (q : ∀ a G', GLe G G' → DcA D G' a [] → Q (.ref a) G' C m) : B D F A (eval (.Dict [] [] pos) env) Q G C m := fun hh c tk =>
  wpAny_Dict_empty (by
    have ha := get_size hh
    have hk : ∀ x o, hh.get? x = some o → (hh.push { cls := .type "dict", data := .dict #[] }).get? x = some o := fun x o e => Heap.get?_push_of_some _ e
    exact ⟨_, tk, rfl, _, C, m, c.pushG ha (Heap.get?_push_size _ rfl) hk, q _ _ (.up (c.ok.fresh_g ha)) ⟨notMod c, _, up_self, ⟨#[], 0, ⟨rfl, rfl, rfl⟩, rfl, fun _ he => by simp at he, .nil, .nil⟩⟩⟩)
theorem B.dict1 {k v : PySem.Expr} {Q : Value → PM → PM → LM → Prop}
    (x : ∀ a o, G a = none → C a = none → F.C a = none → (a == sysModules) = false → B D F A (eval k env) (fun kv => B D F A (eval v env) fun vv G' C' m' => Ex2 fun ks t => And3 (kv = .str ks t) (C' a = some o) (∀ G'', GLe G' G'' → DcA D G'' a [(ks, vv)] → Q (.ref a) G'' (rm C' a) m')) G (up C a o) m) :
    B D F A (eval (.Dict [some k] [v] pos) env) Q G C m := fun hh c tk => by
  have ha := get_size hh
  have hk : ∀ x o, hh.get? x = some o → (hh.push { cls := .type "dict", data := .dict #[] }).get? x = some o := fun x o e => Heap.get?_push_of_some _ e
  have c1 := c.after (c.ok.newC ha (Heap.get?_push_size _ rfl) hk) (.newC ha hk)
  have he : Obj.IsDictOf (PySem.strKind Pw D.w) { cls := .type "dict", data := .dict #[] } [] := ⟨#[], 0, ⟨rfl, rfl, rfl⟩, rfl, fun _ he => by simp at he, .nil, .nil⟩
  refine wpAny_Dict_walk (knd := PySem.strKind Pw D.w) rfl rfl (by simp) (Nat.le_of_ble_eq_true rfl) ?_
  refine evalPairs_cons ?_
  refine wpAny_mono (x _ _ (c.ok.fresh_g ha) (c.ok.fresh_c ha) (c.own ha) (notMod c) _ c1 tk) (fun kv s1 q1 => ?_) fun _ _ z => z
  obtain ⟨h1, tk1, rfl, G1, C1, m1, c1', q1⟩ := q1
  refine wpAny_bind (wpAny_mono (q1 h1 c1' tk1) (fun vv s2 q2 => ?_) fun _ _ z => z)
  obtain ⟨h2, tk2, rfl, G2, C2, m2, c2, ks, t, rfl, hC, q⟩ := q2
  refine wpAny_bind (wpAny_standAt (wpAny_pure (wpAny_pure ?_)))
  refine ⟨[(ks, vv)], ⟨strKind_is Pw D.w ks t, rfl, trivial⟩, Heap.dictOf_iff.mpr ⟨_, c2.ok.c _ _ hC, he⟩, fun h' hd hs => ?_⟩
  obtain ⟨o', ho', hd⟩ := Heap.dictOf_iff.mp hd
  have c3 := c2.after (c2.ok.upd hC (fun x q n e => (hs.2 x n).trans e) ho') (.upd hC fun x q n e => (hs.2 x n).trans e)
  have c4 := c3.freeze up_self (c.own ha)
  rw [rm_up2] at c4
  exact ⟨h', _, rfl, _, _, m2, c4, q _ (.up (c2.ok.gc _ _ hC)) ⟨notMod c, o', up_self, hd⟩⟩
theorem B.freeze2 {α : Type} {t : Sem α} {Q : α → PM → PM → LM → Prop} {a : Addr} {o : Obj} (e : C a = some o) (hn : F.C a = none) (q : ∀ G', GLe G G' → G' a = some o → B D F A t Q G' (rm C a) m) : B D F A t Q G C m := fun hh c tk =>
  q (up G a o) (.up (c.ok.gc _ _ e)) up_self hh (c.freeze e hn) tk
theorem B.sTh {b : Bool} {s t : List Stmt} {Q : Flow → PM → PM → LM → Prop} (hb : b = true) (h : B D F A (execs s env) Q G C m) : B D F A (execs (bif b then s else t) env) Q G C m := by rw [hb]; exact h
theorem B.sFh {b : Bool} {s t : List Stmt} {Q : Flow → PM → PM → LM → Prop} (hb : b = false) (h : B D F A (execs t env) Q G C m) : B D F A (execs (bif b then s else t) env) Q G C m := by rw [hb]; exact h
end
/-! sizes -/
theorem Sz.mono {n : Nd} {a b : Nat} (h : Sz n a) (k : a ≤ b) : Sz n b := fun l e => Nat.le_trans (h l e) k
theorem Sz.both {n k : Nd} {a b : Nat} (h : Sz n a) (h' : Sz k b) : Sz (both n k) (a + b) := fun l e => by
  cases n with
  | none => cases e
  | some x =>
    cases k with
    | none => cases e
    | some y => cases e; have := joinL_len x y; have := h x rfl; have := h' y rfl; lia
theorem Sz.either {n k : Nd} {a b : Nat} (h : Sz n a) (h' : Sz k b) : Sz (either2 n k) (a + b) := fun l e => by
  cases n with
  | none => have := h' l e; lia
  | some x =>
    cases k with
    | none => cases e; exact Nat.le_trans (h _ rfl) (Nat.le_add_right _ _)
    | some y => cases e; exact Nat.le_trans (List.length_filter_le _ _) (Nat.le_trans (h x rfl) (Nat.le_add_right _ _))
theorem Sz.without {n : Nd} {a : Nat} {xs : List N} (h : Sz n a) : Sz (without n xs) a := fun l e => by
  cases n with
  | none => cases e
  | some x => cases e; exact Nat.le_trans (List.length_filter_le _ _) (h x rfl)
theorem Sz.one {l : List N} : Sz (some l) l.length := fun _ e => by cases e; exact Nat.le_refl _
theorem Sz.none {a : Nat} : Sz none a := fun _ e => by cases e
noncomputable def wt : Tm → Nat
  | .var _ => 1
  | .lit _ => 0
  | .err => 0
  | .add a b => wt a + wt b
  | .case v _ _ a o => wt v + (wt a + wt o)
  | .seq _ _ _ => 0
  | .lt _ v b => wt b + wt v
  | .ap1 _ a => 4 + wt a
  | .ap2 _ a b => 4 + wt a + wt b
noncomputable def SzS (S : Sgs) : Prop := ∀ f s, S f = some s → s.free.length ≤ 3 ∧ s.flags.length ≤ 2
theorem sz_zip {fs : List Bool} {ns : List Nd} {acc : Nd} {a : Nat} : ∀ {bs : List Nat}, PySem.Paired Sz ns bs → Sz acc a → Sz (zipN fs ns acc) (a + bs.sum) := by
  induction fs generalizing ns acc a with
  | nil => intro bs h k; cases ns <;> exact fun l e => Nat.le_trans (k l (by simpa [zipN] using e)) (Nat.le_add_right _ _)
  | cons f fs ih =>
    intro bs h k
    cases h with
    | nil => exact fun l e => Nat.le_trans (k l (by simpa [zipN] using e)) (Nat.le_add_right _ _)
    | cons h1 h2 =>
      simp only [zipN, List.sum_cons]
      split
      · rw [← Nat.add_assoc]; exact ih h2 (k.both h1)
      · exact (ih h2 k).mono (by lia)
theorem need_sz {S : Sgs} (hS : SzS S) : ∀ t, Sz (need S t) (wt t)
  | .var _ => Sz.one
  | .lit _ => Sz.one
  | .err => Sz.none
  | .add a b => by
    have := ((Sz.one (l := [])).both (need_sz hS a)).both (need_sz hS b)
    simpa [need, wt] using this
  | .case v _ _ a o => (need_sz hS v).both (((need_sz hS a).without).either ((need_sz hS o).without))
  | .seq _ _ _ => Sz.one
  | .lt x v b => by
    unfold need letN wt
    refine Sz.without ?_
    have hb := need_sz hS b
    have hv := need_sz hS v
    cases e : need S b with
    | none => exact Sz.none
    | some l =>
      rw [e] at hb
      simp only
      split
      · exact hb.both hv
      · exact hb.mono (by exact Nat.le_add_right _ _)
  | .ap1 f a => by
    unfold need callN wt
    cases e : S f with
    | none => exact Sz.one.mono (by simp; lia)
    | some s =>
      simp only
      split
      · exact Sz.one.mono (by simp; lia)
      split
      · exact Sz.none
      · have k := sz_zip (fs := s.flags) (.cons (need_sz hS a) .nil) ((Sz.one (l := [f])).both (Sz.one (l := s.free)))
        refine k.mono ?_
        have := (hS f s e).1
        simp; lia
  | .ap2 f a b => by
    unfold need callN wt
    cases e : S f with
    | none => exact Sz.one.mono (by simp; lia)
    | some s =>
      simp only
      split
      · exact Sz.one.mono (by simp; lia)
      split
      · exact Sz.none
      · have k := sz_zip (fs := s.flags) (.cons (need_sz hS a) (.cons (need_sz hS b) .nil)) ((Sz.one (l := [f])).both (Sz.one (l := s.free)))
        refine k.mono ?_
        have := (hS f s e).1
        simp; lia
theorem wt_le : ∀ t, wt t ≤ 4 ^ (ht t + 1)
  | .var _ => by show 1 ≤ 4 ^ 1; decide
  | .lit _ => Nat.zero_le _
  | .err => Nat.zero_le _
  | .add a b => q2 (pw (by decide) (wt_le a) (Nat.succ_le_succ (Nat.le_max_left _ _))) (pw (by decide) (wt_le b) (Nat.succ_le_succ (Nat.le_max_right _ _)))
  | .case v _ _ a o => q3 (pw (by decide) (wt_le v) (Nat.succ_le_succ m1)) (pw (by decide) (wt_le a) (Nat.succ_le_succ m2)) (pw (by decide) (wt_le o) (Nat.succ_le_succ m3))
  | .seq _ _ _ => Nat.zero_le _
  | .lt _ v b => q2 (pw (by decide) (wt_le b) (Nat.succ_le_succ (Nat.le_max_right _ _))) (pw (by decide) (wt_le v) (Nat.succ_le_succ (Nat.le_max_left _ _)))
  | .ap1 _ a => q4 (wt_le a) p44
  | .ap2 _ a b => q5 (pw (by decide) (wt_le a) (Nat.succ_le_succ (Nat.le_max_left _ _))) (pw (by decide) (wt_le b) (Nat.succ_le_succ (Nat.le_max_right _ _))) p44
theorem need_big {S : Sgs} (hS : SzS S) {t : Tm} (h : ht t ≤ 6) : Sz (need S t) 16384 :=
  (need_sz hS t).mono (Nat.le_trans (wt_le t) (Nat.le_trans (Nat.pow_le_pow_right (by decide) (Nat.succ_le_succ h)) (by decide)))
noncomputable def NeedOk (D : Wd) (d : Nat) : Prop := ∀ {A : Around} {G C : PM} {v : Value} {ea : Addr} {t : Tm} {S : Sgs}, Room A (4 * d + 10) → TmA G v t → Src t → ht t ≤ d → d ≤ 6 → EnvA D G ea S → SzS S → CodeOk D A (.ref 453) [v, .ref ea] G C (fun r G' C' => C' = C ∧ NdA D G' r (need S t))
section
variable {D : Wd} {A : Around} {F : Fn} {G C G' C' : PM} {m : LM} {h : Heap} {env : Env} {pos : Pos}
noncomputable def pN (a b : Nd) : Nat → Nd
  | 0 => some []
  | 1 => both (some []) a
  | _ => both (both (some []) a) b
theorem prim_err {v : Value} {ea : Addr} {S : Sgs} (R : Room A 1) (ht : TmA G v .err) : CodeOk D A (.ref 460) [v, .ref ea] G C (fun r G' C' => C' = C ∧ NdA D G' r (need S .err)) := by
  refine codeOk_def (binds := [(sS "expr", v), (sS "env", .ref ea)]) (look460 _) (by kernel_rfl) R.lt (fun s X => BindsTo.of_eq rfl) (locs rfl) ?_ (by decide)
  intro F hG hC env₀ A₀ m₀ Q₀ q₀
  obtain ⟨a, t1, l, w, b, t2, t3, rfl, hi, hl, rfl, hb⟩ := ht
  refine B.cons ?_
  repeat tb_start
  refine B.sTh (by decide) ?_
  repeat tb_start
  exact ⟨rfl, rfl⟩
theorem prim_ok {d : Nat} (ih : NeedOk D d) {v : Value} {ea : Addr} {p q : Tm} {S : Sgs} (R : Room A (4 * d + 12)) (ht : TmA G v (.add p q)) (hs : Src p ∧ Src q) (h1 : Mine.ht p ≤ d) (h2 : Mine.ht q ≤ d) (hd : d ≤ 6) (he : EnvA D G ea S) (hz : SzS S) :
    CodeOk D A (.ref 460) [v, .ref ea] G C (fun r G' C' => C' = C ∧ NdA D G' r (need S (.add p q))) := by
  refine codeOk_def (binds := [(sS "expr", v), (sS "env", .ref ea)]) (look460 _) (by kernel_rfl) (R.le (by exact Nat.le_of_ble_eq_true rfl : 1 ≤ _)).lt (fun s X => BindsTo.of_eq rfl) (locs rfl) ?_ (by decide)
  intro F hG hC env₀ A₀ m₀ Q₀ q₀
  obtain ⟨a, t1, l, w, w', rfl, hi, hl, hp, hq⟩ := ht
  refine B.cons ?_
  repeat tb_start
  refine B.sFh (by decide) ?_
  repeat tb_start
  refine B.dictG (fun d0 G1 g1 hd0 => ?_)
  repeat tb_start
  refine B.for ?x
  repeat tb_start
  have hl1 := hl.up g1
  refine ⟨2, _, fun i G' C' m' => And3 (C' = C) (m' (sS "env") = some (.ref ea)) (∃ fv, m' (sS "found") = some fv ∧ NdA D G' fv (pN (need S p) (need S q) i)), iter_list R.hd hl1, ⟨rfl, by walk_at "mine.nm", _, rfl, d0, rfl, hd0⟩, ?_, ?_⟩
  · intro i x Gi Ci mi Fih hi' hg inv hP Fi
    refine B.opq fun Q₁ q₁ => ?_
    obtain ⟨rfl, hme, fv, hfv, hnd⟩ := inv
    obtain ⟨tx, hx, hsx, hhx, hpn⟩ : ∃ tx, And4 (TmA Gi x tx) (Src tx) (Mine.ht tx ≤ d) (pN (need S p) (need S q) (i + 1) = both (pN (need S p) (need S q) i) (need S tx)) := by
      match i, hi', hP with
      | 0, _, hP => cases hP; exact ⟨p, (hp.up g1).up hg, hs.1, h1, rfl⟩
      | 1, _, hP => cases hP; exact ⟨q, (hq.up g1).up hg, hs.2, h2, rfl⟩
    have hsz : Sz (pN (need S p) (need S q) i) (2 ^ 20) := by
      have z1 := need_big hz (t := p) (by exact Nat.le_trans (by assumption) (by assumption))
      have z2 := need_big hz (t := q) (by exact Nat.le_trans (by assumption) (by assumption))
      match i, hi' with
      | 0, _ => exact Sz.one.mono (by decide)
      | 1, _ => exact ((Sz.one (l := [])).both z1).mono (by simp)
    have he' : EnvA D Gi ea S := (he.up g1).up hg
    repeat tb_start
    refine B.callC (ih ((R.le (by lia : (4 * d + 10) + 1 ≤ _)).deeper) hx hsx hhx hd he' hz) (fun r1 G2 g2 p2 => ?_)
    repeat tb_start
    refine B.callC (both_ok ((R.le (by exact Nat.le_of_ble_eq_true rfl : 1 + 1 ≤ _)).deeper) (hnd.up g2) p2 hsz ((need_big hz (t := tx) (by exact Nat.le_trans (by assumption) (by assumption))).mono (by decide))) (fun r3 G3 g3 p3 => ?_)
    repeat tb_start
    exact ⟨rfl, by walk_at "mine.nm", r3, rfl, by rw [hpn]; exact p3⟩
  · intro Gi Ci mi hg inv
    obtain ⟨rfl, hme, fv, hfv, hnd⟩ := inv
    repeat tb_start
    exact ⟨rfl, hnd⟩
theorem case_ok {d : Nat} (ih : NeedOk D d) {v : Value} {ea : Addr} {e p o : Tm} {y : N} {k : Int} {S : Sgs} (R : Room A (4 * d + 12)) (ht : TmA G v (.case e y k p o)) (hs : Src e ∧ Src p ∧ Src o) (h1 : Mine.ht e ≤ d) (h2 : Mine.ht p ≤ d) (h3 : Mine.ht o ≤ d) (hd : d ≤ 6) (he : EnvA D G ea S) (hz : SzS S) :
    CodeOk D A (.ref 474) [v, .ref ea] G C (fun r G' C' => C' = C ∧ NdA D G' r (need S (.case e y k p o))) := by
  refine codeOk_def (binds := [(sS "expr", v), (sS "env", .ref ea)]) (look474 _) (by kernel_rfl) (R.le (by exact Nat.le_of_ble_eq_true rfl : 1 ≤ _)).lt (fun s X => BindsTo.of_eq rfl) (locs rfl) ?_ (by decide)
  intro F hG hC env₀ A₀ m₀ Q₀ q₀
  obtain ⟨a, ve, t, la, al, kt, ln, va, vo, t1, t2, t3, rfl, hi, hla, hal, hkt, hln, hve, hva, hvo⟩ := ht
  obtain ⟨ae, rfl⟩ := hve.ref
  obtain ⟨aa, rfl⟩ := hva.ref
  obtain ⟨ao, rfl⟩ := hvo.ref
  have R1 : Room A₀ (4 * d + 11) := (R.le (by exact Nat.lt_succ_self _ : (4 * d + 11) + 1 ≤ _)).deeper
  refine B.cons ?_
  repeat tb_start
  refine B.listC ?_
  repeat tb_start
  refine ⟨Nat.le_of_ble_eq_true rfl, fun ll ol hgl hcl hfl hpl => ?_⟩
  repeat tb_start
  refine B.for ?x
  repeat tb_start
  refine ⟨1, _, fun i G' C' m' => And4 (m' (sS "env") = some (.ref ea)) (m' (sS "expr") = some (.ref a)) (m' (sS "lots") = some (.ref ll)) (Ex2 fun o vs => And4 (C' = up C ll o) (PlO o vs) (i = 0 → vs = []) (i = 1 → ∃ x, vs = [x] ∧ NdA D G' x (without (need S p) [y]))), iter_list R1.h hla, ⟨rfl, rfl, rfl, ol, _, rfl, hpl, fun _ => rfl, fun z => by cases z⟩, ?_, ?_⟩
  · intro i x Gi Ci mi Fih hi' hg inv hP Fi
    refine B.opq fun Q₁ q₁ => ?_
    obtain ⟨hme, hmx, hml, ol', vs, rfl, hpl', hv0, _⟩ := inv
    have hi0 : i = 0 := by exact Nat.lt_one_iff.mp (by assumption)
    subst hi0
    have hv0 := hv0 rfl
    subst hv0
    cases hP
    repeat tb_start
    refine B.methAppend up_self hpl' ?_
    repeat tb_start
    refine B.callC (ih (R1.le (by exact le1 rfl)) (hva.up hg) hs.2.1 h2 hd (he.up hg) hz) (fun r1 G2 g2 p2 => ?_)
    repeat tb_start
    refine B.listOf (.inl (by walk_at "mine.at" : LsA G2 ln [])) (Nat.zero_le _) (fun l3 G3 g3 hl3 => ?_)
    repeat tb_start
    refine B.list ?_
    repeat tb_start
    refine ⟨Nat.le_of_ble_eq_true rfl, fun l4 G4 g4 hl4 => ?_⟩
    refine B.addLists (.inl (hl3.up g4)) (.inl hl4) (Nat.le_of_ble_eq_true rfl) (fun l5 G5 g5 hl5 => ?_)
    repeat tb_start
    refine B.callC (without_ok (xs := [y]) (R1.le (by exact Nat.le_of_ble_eq_true rfl)) ((p2.up (g3.trans g4)).up g5) ⟨_, hl5, .cons y t .nil⟩ ((need_big hz (by exact Nat.le_trans (by assumption) (by assumption))).mono (by decide))) (fun r6 G6 g6 p6 => ?_)
    repeat tb_start
    refine B.append up_self hpl' (Nat.zero_le _) (fun o7 hp7 => ?_)
    rw [up_up]
    refine Then.next ?_
    repeat tb_start
    exact ⟨hme, hmx, hml, o7, _, rfl, hp7, fun z => absurd z (by decide), fun _ => ⟨r6, rfl, p6⟩⟩
  · intro Gi Ci mi hg inv
    obtain ⟨hme, hmx, hml, ol', vs, rfl, hpl', _, hv1⟩ := inv
    obtain ⟨x1, rfl, hx1⟩ := hv1 rfl
    repeat tb_start
    refine B.notNoneF ?_
    repeat tb_start
    refine B.methAppend up_self hpl' ?_
    repeat tb_start
    refine B.callC (ih (R1.le (by exact le1 rfl)) (hvo.up hg) hs.2.2 h3 hd (he.up hg) hz) (fun r1 G2 g2 p2 => ?_)
    repeat tb_start
    refine B.list ?_
    repeat tb_start
    refine ⟨Nat.le_of_ble_eq_true rfl, fun l4 G4 g4 hl4 => ?_⟩
    repeat tb_start
    refine B.callC (without_ok (xs := [y]) (R1.le (by exact Nat.le_of_ble_eq_true rfl)) (p2.up g4) ⟨_, hl4, .cons y t .nil⟩ ((need_big hz (by exact Nat.le_trans (by assumption) (by assumption))).mono (by decide))) (fun r6 G6 g6 p6 => ?_)
    repeat tb_start
    refine B.append up_self hpl' (Nat.le_of_ble_eq_true rfl) (fun o7 hp7 => ?_)
    rw [up_up]
    refine Then.next ?_
    repeat tb_start
    refine B.freeze2 up_self hfl (fun G7 g7 h7 => ?_)
    rw [rm_up1 hcl]
    have gall : GLe Gi G7 := ((g2.trans g4).trans g6).trans g7
    repeat tb_start
    refine B.callC (ih (R1.le (by exact le1 rfl)) (hve.up (hg.trans gall)) hs.1 h1 hd (he.up (hg.trans gall)) hz) (fun r8 G8 g8 p8 => ?_)
    repeat tb_start
    have n1 : NdA D G8 x1 (without (need S p) [y]) := (hx1.up gall).up g8
    have n2 : NdA D G8 r6 (without (need S o) [y]) := (p6.up g7).up g8
    have z1 := (need_big hz (t := p) (by exact Nat.le_trans (by assumption) (by assumption))).without (xs := [y])
    have z2 := (need_big hz (t := o) (by exact Nat.le_trans (by assumption) (by assumption))).without (xs := [y])
    refine B.callC (either_ok (R1.le (by exact Nat.le_of_ble_eq_true rfl)) (⟨_, g8 _ _ h7, hp7.ls⟩ : LsA G8 ll [x1, r6]) n1 n2 (z1.mono (by decide)) (z2.mono (by decide))) (fun r9 G9 g9 p9 => ?_)
    repeat tb_start
    refine B.callC (both_ok (R1.le (by exact Nat.le_of_ble_eq_true rfl)) (p8.up g9) p9 ((need_big hz (t := e) (by exact Nat.le_trans (by assumption) (by assumption))).mono (by decide)) ((z1.either z2).mono (by decide))) (fun r10 G10 g10 p10 => ?_)
    repeat tb_start
    exact ⟨rfl, p10⟩
end
theorem zip_step {fl : Bool} {n : Nd} : ∀ {i : Nat} {fs : List Bool} {ns : List Nd} {acc : Nd}, fs[i]? = some fl → ns[i]? = some n → zipN (fs.take (i + 1)) (ns.take (i + 1)) acc = (if fl then both (zipN (fs.take i) (ns.take i) acc) n else zipN (fs.take i) (ns.take i) acc)
  | _, [], _, _, h, _ => by simp at h
  | _, _ :: _, [], _, _, h => by simp at h
  | 0, f :: fs, x :: ns, acc, h, k => by
    simp at h k
    subst h k
    simp [zipN]
  | i + 1, f :: fs, x :: ns, acc, h, k => by
    simp at h k
    rw [List.take_succ_cons, List.take_succ_cons, List.take_succ_cons, List.take_succ_cons]
    simp only [zipN]
    exact zip_step h k
theorem zip_min : ∀ {fs : List Bool} {ns : List Nd} {acc : Nd}, zipN (fs.take (min fs.length ns.length)) (ns.take (min fs.length ns.length)) acc = zipN fs ns acc
  | [], ns, acc => by simp [zipN]
  | _ :: _, [], acc => by simp [zipN]
  | f :: fs, x :: ns, acc => by
    have e : min (f :: fs).length (x :: ns).length = min fs.length ns.length + 1 := by simp only [List.length_cons]; lia
    rw [e, List.take_succ_cons, List.take_succ_cons]
    simp only [zipN]
    exact zip_min
theorem sz_zip2 {b : Nat} : ∀ {fs : List Bool} {ns : List Nd} {acc : Nd} {a : Nat}, (∀ n ∈ ns, Sz n b) → Sz acc a → Sz (zipN fs ns acc) (a + ns.length * b)
  | [], ns, acc, a, _, h => by simpa [zipN] using h.mono (Nat.le_add_right _ _)
  | _ :: _, [], acc, a, _, h => by simpa [zipN] using h
  | f :: fs, x :: ns, acc, a, hn, h => by
    have hx : Sz (if f then both acc x else acc) (a + b) := by
      split
      · exact h.both (hn x (by simp))
      · exact h.mono (by exact Nat.le_add_right _ _)
    have := sz_zip2 (fs := fs) (ns := ns) (fun n hm => hn n (by simp [hm])) hx
    simp only [zipN, List.length_cons]
    refine this.mono ?_
    rw [Nat.add_mul]; lia
theorem paired_get {α β : Type} {R : α → β → Prop} : ∀ {l : List α} {k : List β}, PySem.Paired R l k → ∀ {i : Nat} {x : α}, l[i]? = some x → ∃ y, k[i]? = some y ∧ R x y
  | _, _, .nil, i, x, h => by simp at h
  | _, _, .cons r h, 0, x, e => by simp at e; subst e; exact ⟨_, rfl, r⟩
  | _, _, .cons r h, i + 1, x, e => by simp at e; exact paired_get h e
section
variable {D : Wd} {A : Around} {F : Fn} {G C G' C' : PM} {m : LM} {h : Heap} {env : Env} {pos : Pos}
theorem call_ok {d : Nat} (ih : NeedOk D d) {a ea vf l : Addr} {f : N} {t : Tok} {ws : List Value} {ts : List Tm} {S : Sgs} (R : Room A (4 * d + 12)) (hi : InA G a 141 [(sS "fun", .ref vf), (sS "args", .ref l)]) (hf : InA G vf 59 [(sS "name", .str f t)]) (hl : LsA G l ws) (hw : PySem.Paired (TmA G) ws ts)
    (hlen : ts.length ≤ 2) (hs : ∀ t ∈ ts, Src t ∧ Mine.ht t ≤ d) (hd : d ≤ 6) (he : EnvA D G ea S) (hz : SzS S) :
    CodeOk D A (.ref 467) [.ref a, .ref ea] G C (fun r G' C' => C' = C ∧ NdA D G' r (callN (S f) f (ts.map (need S)))) := by
  refine codeOk_def (binds := [(sS "expr", .ref a), (sS "env", .ref ea)]) (look467 _) (by kernel_rfl) (R.le (by exact Nat.le_of_ble_eq_true rfl : 1 ≤ _)).lt (fun s X => BindsTo.of_eq rfl) (locs rfl) ?_ (by decide)
  intro F hG hC env₀ A₀ m₀ Q₀ q₀
  have R1 : Room A₀ (4 * d + 11) := (R.le (by exact Nat.lt_succ_self _ : (4 * d + 11) + 1 ≤ _)).deeper
  have hsz : ∀ n ∈ ts.map (need S), Sz n 16384 := fun n hn => by
    obtain ⟨t, ht, rfl⟩ := List.mem_map.mp hn
    exact need_big hz (by have := (hs t ht).2; lia)
  obtain ⟨kvs, hkd, hkl, hks⟩ := id he
  refine B.cons ?_
  repeat tb_start
  walk_at "mine.yes"
  repeat tb_start
  refine B.asgTupleW (names := [sS "found", sS "known"]) R1.h ?_ rfl rfl
  refine B.tuple ?_
  repeat tb_start
  refine B.dict1 (fun d0 o0 hg0 hc0 hf0 hz0 => ?_)
  repeat tb_start
  refine ⟨f, t, rfl, up_self, fun G1 g1 hd0 => ?_⟩
  rw [rm_up1 hc0]
  repeat tb_start
  refine B.methD PySem.F.slot_dict_get PySem.F.type_dict_get (.inl (hkd.up g1)) ?_
  repeat tb_start
  refine B.dictGet1 (.inl (hkd.up g1)) ?_
  repeat tb_start
  refine ⟨Nat.le_of_ble_eq_true rfl, fun ta Gt gt htp => ?_⟩
  refine ⟨ta, _, rfl, htp, rfl, ?_⟩
  have nd0 : NdA D Gt (.ref d0) (some [f]) := ⟨d0, rfl, (hd0.up gt : DcA D Gt d0 (tt [f]))⟩
  have gg : GLe G Gt := g1.trans gt
  have hl1 := hl.up gg
  have hwl : ws.length = ts.length := hw.length
  refine B.inOrder ?_
  repeat tb_start
  refine B.inOrder ?_
  repeat tb_start
  refine B.inOrder0 ?_
  repeat tb_start
  rcases hks f with ⟨e1, e2⟩ | ⟨s, vs, e1, e2, sg⟩
  · rw [e2]
    refine B.isNoneT ?_
    repeat tb_start
    exact ⟨rfl, by rw [e1]; exact nd0⟩
  · obtain ⟨sa, lf, df, rfl, hsi, hlf, hdf⟩ := sg.up gg
    rw [show (valueAt kvs f).getD Value.none = .ref sa by rw [e2]; rfl]
    refine B.isNoneF ?_
    repeat tb_start
    refine B.lenL (.inl hl1) (by lia) (fun tk1 => ?_)
    repeat tb_start
    refine B.lenL (.inl hlf) (by have := (hz f s e1).2; simp; lia) (fun tk2 => ?_)
    repeat tb_start
    have hzf := hz f s e1
    have ecall : callN (S f) f (ts.map (need S)) = if ts.length < s.flags.length then some [f] else if s.div then none else zipN s.flags (ts.map (need S)) (both (some [f]) (some s.free)) := by rw [e1]; simp [callN]
    rw [ecall] at q₀
    have hfl : (s.flags.map Value.bool).length = s.flags.length := List.length_map _
    cases hlt : decide ((ws.length : Int) < ((s.flags.map Value.bool).length : Int))
    · have hlt' : ¬ ts.length < s.flags.length := by rw [decide_eq_false_iff_not, hfl, hwl] at hlt; lia
      rw [if_neg hlt'] at q₀
      repeat tb_start
      cases hdv : s.div
      · rw [hdv] at hsi
        rw [hdv, if_neg (by simp)] at q₀
        repeat tb_start
        have sz0 : Sz (some [f]) (2 ^ 20) := Sz.one.mono (by show 1 ≤ 2 ^ 20; decide)
        refine B.callC (both_ok (k := some s.free) (R1.le (by exact Nat.le_of_ble_eq_true rfl)) nd0 ⟨df, rfl, hdf⟩ sz0 (Sz.one.mono (by have := hzf.1; lia))) (fun r2 G2 g2 p2 => ?_)
        repeat tb_start
        refine B.forZip R1.h ?_
        repeat tb_start
        refine B.zip (hlf.up g2) (hl1.up g2) (fun z Gz Cz gz zin => ?_)
        have gall : GLe G Gz := (gg.trans g2).trans gz
        refine ⟨z, lf, l, _, _, C, fun i G' C' m' => And3 (C' = C) (m' (sS "env") = some (.ref ea)) (∃ fv, m' (sS "found") = some fv ∧ NdA D G' fv (zipN (s.flags.take i) ((ts.map (need S)).take i) (both (some [f]) (some s.free)))), rfl, zin, (hlf.up g2).up gz, (hl1.up g2).up gz, ⟨rfl, rfl, r2, rfl, by simpa [zipN] using p2.up gz⟩, rfl, rfl, ?_, ?_⟩
        · intro i x y Gi Ci mi Fih hx hy hg inv Fi
          refine B.opq fun Q₁ q₁ => ?_
          obtain ⟨rfl, hme, fv, hfv, hnd⟩ := inv
          obtain ⟨fl, hfl1, rfl⟩ : ∃ fl, s.flags[i]? = some fl ∧ x = .bool fl := by
            rw [List.getElem?_map] at hx
            cases q : s.flags[i]? with
            | none => rw [q] at hx; cases hx
            | some fl => rw [q] at hx; cases hx; exact ⟨fl, rfl, rfl⟩
          obtain ⟨ty, hty, hym⟩ : ∃ ty, ts[i]? = some ty ∧ TmA G y ty := paired_get hw hy
          have hyt := hs ty (List.mem_of_getElem? hty)
          have hns : (ts.map (need S))[i]? = some (need S ty) := by rw [List.getElem?_map, hty]; rfl
          have hst := zip_step (acc := both (some [f]) (some s.free)) hfl1 hns
          have hsza : Sz (zipN (s.flags.take i) ((ts.map (need S)).take i) (both (some [f]) (some s.free))) (2 ^ 20) := by
            have k := sz_zip2 (fs := s.flags.take i) (ns := (ts.map (need S)).take i) (fun n hn => hsz n (List.mem_of_mem_take hn)) ((Sz.one (l := [f])).both (Sz.one (l := s.free)))
            refine k.mono ?_
            have := hzf.1
            have l2 : ((ts.map (need S)).take i).length ≤ 2 := Nat.le_trans (List.length_take_le' _ _) (by simpa using hlen)
            have := Nat.mul_le_mul_right 16384 l2
            simp only [List.length_cons, List.length_nil]
            lia
          refine B.inOrder ?_
          repeat tb_start
          refine B.inOrder ?_
          repeat tb_start
          refine B.inOrder0 ?_
          repeat tb_start
          cases fl
          · repeat tb_start
            exact ⟨rfl, by walk_at "mine.nm", fv, by walk_at "mine.nm", by rw [hst]; exact hnd⟩
          · repeat tb_start
            refine B.callC (ih (R1.le (by exact le1 rfl)) (hym.up (gall.trans hg)) hyt.1 hyt.2 hd (he.up (gall.trans hg)) hz) (fun r5 G5 g5 p5 => ?_)
            repeat tb_start
            refine B.callC (both_ok (R1.le (by exact Nat.le_of_ble_eq_true rfl)) (hnd.up g5) p5 hsza ((need_big hz (by lia)).mono (by decide))) (fun r6 G6 g6 p6 => ?_)
            repeat tb_start
            exact ⟨rfl, by walk_at "mine.nm", r6, rfl, by rw [hst]; exact p6⟩
        · intro Gi Ci mi hg inv
          obtain ⟨rfl, hme, fv, hfv, hnd⟩ := inv
          repeat tb_start
          refine ⟨rfl, ?_⟩
          rw [hfl, hwl] at hnd
          have e := zip_min (fs := s.flags) (ns := ts.map (need S)) (acc := both (some [f]) (some s.free))
          rw [List.length_map] at e
          rw [e] at hnd
          exact hnd
      · rw [hdv] at hsi
        rw [hdv, if_pos rfl] at q₀
        repeat tb_start
        exact ⟨rfl, rfl⟩
    · have hlt' : ts.length < s.flags.length := by rw [decide_eq_true_iff, hfl, hwl] at hlt; lia
      rw [if_pos hlt'] at q₀
      repeat tb_start
      exact ⟨rfl, nd0⟩
end
structure BI where
  k : N
  x : Value
  b : Bool
inductive BIsA (G : PM) (v : Value) (i : BI) : Prop
  | mk : ∀ p t a, (v = .ref p) → (i.x = .ref a) → (TpA G p [.str i.k t, i.x]) → (((i.b = true ∧ ∃ fs, InA G a 183 fs) ∨ (i.b = false ∧ ∃ t, TmA G i.x t))) → BIsA G v i
theorem BIsA.up {G G' : PM} {v : Value} {i : BI} (g : GLe G G') (h : BIsA G v i) : BIsA G' v i := by
  obtain ⟨p, t, a, e, e2, tp, h⟩ := h
  exact ⟨p, t, a, e, e2, tp.up g, h.imp (fun ⟨e, fs, h⟩ => ⟨e, fs, h.up g⟩) (fun ⟨e, t, h⟩ => ⟨e, t, h.up g⟩)⟩
noncomputable def BI.pairs (l : List BI) : List (Str × Value) := (l.filter BI.b).map fun i => (i.k, i.x)
section
variable {D : Wd} {A : Around} {F : Fn} {G C G' C' : PM} {m : LM} {h : Heap} {env : Env} {pos : Pos}
theorem valueAt_none {kvs : List (Str × Value)} {k : Str} (h : k ∉ kvs.map (·.1)) : valueAt kvs k = none := valueAt_none_of_not_mem h
theorem notLam {v : Value} {t : Tm} {Q : Value → PM → PM → LM → Prop} (h : TmA G v t) (q : Q (.bool false) G C m) : B D F A (PySem.call (.builtin "isinstance") [v, .ref 183]) Q G C m := by
  cases t with
  | var x => obtain ⟨a, _, rfl, hi⟩ := h; walk_at "mine.no"; exact q
  | lit x => obtain ⟨a, _, _, rfl, hi⟩ := h; walk_at "mine.no"; exact q
  | err => obtain ⟨a, _, _, _, _, _, _, rfl, hi, _⟩ := h; walk_at "mine.no"; exact q
  | add x y => obtain ⟨a, _, _, _, _, rfl, hi, _⟩ := h; walk_at "mine.no"; exact q
  | case => obtain ⟨a, _, _, _, _, _, _, _, _, _, _, _, rfl, hi, _⟩ := h; walk_at "mine.no"; exact q
  | seq => obtain ⟨a, _, _, _, _, rfl, hi, _⟩ := h; walk_at "mine.no"; exact q
  | lt => obtain ⟨a, _, _, _, _, _, rfl, hi, _⟩ := h; walk_at "mine.no"; exact q
  | ap1 => obtain ⟨a, _, _, _, _, rfl, hi, _⟩ := h; walk_at "mine.no"; exact q
  | ap2 => obtain ⟨a, _, _, _, _, _, rfl, hi, _⟩ := h; walk_at "mine.no"; exact q
theorem pairs_take {is : List BI} {j : Nat} {i : BI} (hn : (is.map BI.k).Nodup) (hi : is[j]? = some i) : BI.pairs (is.take (j + 1)) = if i.b then stored (BI.pairs (is.take j)) i.k i.x else BI.pairs (is.take j) := by
  have e : is.take (j + 1) = is.take j ++ [i] := by rw [List.take_add_one, hi]; rfl
  have hk : i.k ∉ (BI.pairs (is.take j)).map (·.1) := by
    intro hm
    have n2 : ((is.take (j + 1)).map BI.k).Nodup := hn.sublist ((List.take_sublist _ _).map _)
    rw [e, List.map_append, List.nodup_append] at n2
    unfold BI.pairs at hm
    rw [List.map_map] at hm
    obtain ⟨x, hx, hxk⟩ := List.mem_map.mp hm
    exact n2.2.2 x.k (List.mem_map.mpr ⟨x, (List.mem_filter.mp hx).1, rfl⟩) i.k (by simp) hxk
  cases hb : i.b
  · rw [if_neg (by simp), e]
    unfold BI.pairs
    rw [List.filter_append]
    simp [hb]
  · rw [if_pos rfl, stored_absent (valueAt_none hk), e]
    unfold BI.pairs
    rw [List.filter_append]
    simp [hb]
theorem functions_ok {l : Addr} {vs : List Value} {is : List BI} (R : Room A 2) (hl : LsA G l vs) (hp : PySem.Paired (BIsA G) vs is) (hnd : (is.map BI.k).Nodup) (hlen : is.length ≤ 100) :
    CodeOk D A (.ref 484) [.ref l] G C (fun r G' C' => C' = C ∧ ∃ d, r = .ref d ∧ DcA D G' d (BI.pairs is)) := by
  refine codeOk_def (binds := [(sS "binds", .ref l)]) (look484 _) (by kernel_rfl) R.lt (fun s X => BindsTo.of_eq rfl) (locs rfl) ?_ (by decide)
  intro F hG hC env₀ A₀ m₀ Q₀ q₀
  refine B.cons ?_
  repeat tb_start
  refine B.dictComp (cl := ?cl) ?x1 ?h1 ?h2 rfl ?h4 ?h5
  case h1 => exact rfl
  case h2 => decide
  case h4 => decide
  case h5 => exact fun _ => rfl
  repeat tb_start
  have hvl : vs.length = is.length := hp.length
  refine ⟨vs.length, _, fun j ys G' C' => C' = C ∧ ys = BI.pairs (is.take j), iter_list R.hd hl, by rw [sizeLine_eq]; lia, ⟨rfl, rfl⟩, ?_, ?_⟩
  · intro j v ys Gj Cj mj Fj hj hFG hFC hgj inv hP
    refine B.opq fun Q₁ q₁ => ?_
    obtain ⟨rfl, rfl⟩ := inv
    obtain ⟨i, hi, hb⟩ := paired_get hp hP
    obtain ⟨ik, ix, ib⟩ := i
    obtain ⟨p, t, a, rfl, hx, htp, hcase⟩ := hb.up hgj
    dsimp only at hx htp hcase
    subst hx
    have tk := pairs_take hnd hi
    dsimp only at tk
    refine B.asgTuple R.hd htp rfl rfl ?_
    refine B.inOrder ?_
    repeat tb_start
    refine B.inOrder ?_
    repeat tb_start
    refine B.inOrder0 ?_
    repeat tb_start
    refine .inr ⟨_, rfl, ?_⟩
    repeat tb_start
    rcases hcase with ⟨rfl, fs, hin⟩ | ⟨rfl, tm, htm⟩
    · walk_at "mine.yes"
      refine B.trueBool ?_
      refine iteT ?_
      repeat tb_start
      exact ⟨ik, t, rfl, rfl, by rw [tk]; rfl⟩
    · refine notLam htm ?_
      refine B.trueBool ?_
      refine iteF ?_
      exact ⟨rfl, by rw [tk]; rfl⟩
  · intro ys Gj Cj d G2 hgj inv hg2 hla
    obtain ⟨rfl, rfl⟩ := inv
    repeat tb_start
    rw [hvl, List.take_length] at hla
    exact ⟨rfl, d, rfl, hla⟩
theorem bound_ok {a ea lb tp : Addr} {y : N} {ty : Tok} {ve vb : Value} {e : Tm} {S : Sgs} (R : Room A 6) (hi : InA G a 221 [(sS "binds", .ref lb), (sS "body", vb), (sS "is_rec", .bool false)]) (hl : LzA G lb [.ref tp]) (ht : TpA G tp [.str y ty, ve]) (he : TmA G ve e) (hea : EnvA D G ea S) :
    CodeOk D A (.ref 494) [.ref a, .ref ea] G C (fun r G' C' => C' = C ∧ ∃ d, r = .ref d ∧ EnvA D G' d S) := by
  refine CodeOk.drop ?_
  refine codeOk_cellsB (binds := [(sS "expr", .ref a), (sS "env", .ref ea)]) (look494 _) (by kernel_rfl) (R.le (by exact Nat.le_of_ble_eq_true rfl : 1 ≤ _)).lt rfl (by kernel_rfl) ?_
  intro F hG hC G₁ C₁ cs₀ env₀ A₀ m₀ cl Q₀ q₀
  have g0 := cl.g
  have c0 := cl.c
  have k1 := cl.pA (sS "env") rfl rfl
  obtain ⟨oc, hoc, hoc2, hoc3, hoc4⟩ := cl.q (sS "functions") _ rfl rfl
  have hi1 := hi.up g0
  have hl1 := (hl.up g0).ls
  obtain ⟨av, rfl⟩ := he.ref
  have hp : PySem.Paired (BIsA G₁) [.ref tp] [⟨y, .ref av, false⟩] := .cons ⟨tp, ty, av, rfl, rfl, ht.up g0, .inr ⟨rfl, e, he.up g0⟩⟩ .nil
  have R1 : Room A₀ 5 := (R.le (by exact Nat.le_of_ble_eq_true rfl : 5 + 1 ≤ _)).deeper
  refine B.cons ?_
  repeat tb_start
  refine B.callX (functions_ok (R1.le (by exact Nat.le_of_ble_eq_true rfl)) hl1 hp (by simp) (by simp)) (fun d0 G2 g2 hd0 => ?_)
  have hd0 : DcA D G2 d0 [] := hd0
  refine B.storeCell rfl hoc hoc2 (fun o' ho' => ?_)
  obtain ⟨kvs, hkd, hkl, hks⟩ := (hea.up g0).up g2
  have c1 := GLe.upd (o := o') c0 hoc3
  have clf : ClA (up C₁ (F.L + 1 + 1) o') (F.L + 1 + 1) (.ref d0) := ⟨o', up_self, ho'⟩
  repeat tb_start
  refine B.dictComp (cl := ?cl) ?x1 ?h1 ?h2 rfl ?h4 ?h5
  case h1 => exact rfl
  case h2 => decide
  case h4 => decide
  case h5 => exact fun _ => rfl
  repeat tb_start
  refine ⟨0, _, fun j ys G' C' => C' = up C₁ (F.L + 1 + 1) o' ∧ ys = [], iter_dict R1.h hd0, Nat.zero_le _, ⟨rfl, rfl⟩, ?_, ?_⟩
  · intro j v ys Gj Cj mj Fj hj
    exact absurd hj (Nat.not_lt_zero _)
  · intro ys Gj Cj d Gd hgj inv hg2 hla
    obtain ⟨rfl, rfl⟩ := inv
    repeat tb_start
    refine B.callX (extended_ok (R1.le (by exact Nat.le_of_ble_eq_true rfl)) ((hkd.up hgj).up hg2) hla (by simp; lia)) (fun d3 G3 g3 hd3 => ?_)
    repeat tb_start
    exact ⟨c1, d3, rfl, kvs, hd3, hkl, hks.up ((hgj.trans hg2).trans g3)⟩
end
noncomputable def finN (nb nv : Nd) (y : N) : Nd := match nb with
  | none => none
  | some l => if y ∈ l then both (some l) nv else some l
theorem letN_eq (nb nv : Nd) (y : N) : letN nb nv y = without (finN nb nv y) [y] := rfl
section
variable {D : Wd} {A : Around} {F : Fn} {G C G' C' : PM} {m : LM} {h : Heap} {env : Env} {pos : Pos}
/-- where the loop of with_binds stands -/
noncomputable def WB (n : Nat) (bm : Bool) (nb nv cur : Nd) (y : N) (ve : Value) (kvs : List (Str × Value)) : Prop :=
  (And4 (n = 2) (bm = true) (cur = nb) (kvs = [(y, ve)])) ∨ (And5 (n = 1) (bm = true) (∃ l, nb = some l ∧ y ∈ l) (cur = both nb nv) (kvs = [])) ∨ (And3 (n = 0) (bm = false) (cur = finN nb nv y))
theorem wb_none {n : Nat} {bm : Bool} {nb nv : Nd} {y : N} {ve : Value} {kvs : List (Str × Value)} (h : WB n bm nb nv none y ve kvs) : finN nb nv y = none := by
  rcases h with ⟨_, _, e, _⟩ | ⟨_, _, ⟨l, rfl, hl⟩, e, _⟩ | ⟨_, _, e⟩
  · rw [← e]; rfl
  · unfold finN; simp only [if_pos hl]; exact e.symm
  · exact e.symm
theorem wb_false {n : Nat} {nb nv cur : Nd} {y : N} {ve : Value} {kvs : List (Str × Value)} (h : WB n false nb nv cur y ve kvs) : cur = finN nb nv y := by
  rcases h with ⟨_, e, _⟩ | ⟨_, e, _⟩ | ⟨_, _, e⟩
  · cases e
  · cases e
  · exact e
theorem binds_ok {d : Nat} (ih : NeedOk D d) {a ea ia lb tp : Addr} {y : N} {ty : Tok} {nv0 ve vb : Value} {nb : Nd} {e : Tm} {S : Sgs} (R : Room A (4 * d + 12)) (hnb : NdA D G nv0 nb) (hsb : Sz nb 16384) (hi : InA G a 221 [(sS "binds", .ref lb), (sS "body", vb), (sS "is_rec", .bool false)]) (hl : LzA G lb [.ref tp]) (ht : TpA G tp [.str y ty, ve]) (hv : TmA G ve e)
    (hs : Src e) (hh : Mine.ht e ≤ d) (hd : d ≤ 6) (hea : EnvA D G ea S) (hz : SzS S) :
    CodeOk D A (.ref 499) [nv0, .ref a, .ref ia, .ref ea] G C (fun r G' C' => C' = C ∧ NdA D G' r (letN nb (need S e) y)) := by
  refine CodeOk.drop ?_
  refine codeOk_def (binds := [(sS "needs", nv0), (sS "expr", .ref a), (sS "inner", .ref ia), (sS "outer", .ref ea)]) (look499 _) (by kernel_rfl) (R.le (by exact Nat.le_of_ble_eq_true rfl : 1 ≤ _)).lt (fun s X => BindsTo.of_eq rfl) (locs rfl) ?_ (by decide)
  intro F hG hC env₀ A₀ m₀ Q₀ q₀
  obtain ⟨av, rfl⟩ := hv.ref
  have R1 : Room A₀ (4 * d + 11) := (R.le (by exact Nat.lt_succ_self _ : (4 * d + 11) + 1 ≤ _)).deeper
  refine B.cons ?_
  repeat tb_start
  refine B.asgTupleW (names := [sS "waiting", sS "known"]) R1.h ?_ rfl rfl
  refine B.tuple ?_
  repeat tb_start
  refine B.dictPairs (pairs := [(y, .ref av)]) R1.h (.inl hl) rfl (Nat.le_of_ble_eq_true rfl) (fun j v hj => ?_) (by simp) (fun dw ob hgd hcd hfd hzd hob => ?_)
  · match j, hj with
    | 0, hj => cases hj; exact ⟨tp, ty, y, _, rfl, ht, rfl⟩
    | j + 1, hj => simp at hj
  repeat tb_start
  refine B.listComp (cl := ?cl) ?x1 ?h1 ?h2 rfl ?h4 ?h5
  case h1 => exact rfl
  case h2 => decide
  case h4 => decide
  case h5 => exact fun _ => rfl
  repeat tb_start
  refine ⟨1, _, fun j ys G' C' => C' = up C dw ob ∧ ys = if j = 0 then [] else [.str y ty], iter_list R1.h hl.ls, Nat.le_of_ble_eq_true rfl, ⟨rfl, rfl⟩, ?_, ?_⟩
  · intro j v ys Gj Cj mj Fj hj hFG hFC hgj inv hP
    refine B.opq fun Q₁ q₁ => ?_
    obtain ⟨rfl, rfl⟩ := inv
    have hj0 : j = 0 := by exact Nat.lt_one_iff.mp (by assumption)
    subst hj0
    cases hP
    refine B.asgTuple R1.h (ht.up hgj) rfl rfl ?_
    refine B.inOrder ?_
    repeat tb_start
    refine B.inOrder ?_
    repeat tb_start
    refine B.inOrder0 ?_
    repeat tb_start
    exact ⟨rfl, rfl⟩
  · intro ys Gj Cj lk G2 hgj inv hg2 hlk
    obtain ⟨rfl, rfl⟩ := inv
    repeat tb_start
    refine ⟨Nat.le_of_ble_eq_true rfl, fun ta Gt gt htp => ?_⟩
    refine ⟨ta, _, rfl, htp, rfl, ?_⟩
    refine B.inOrder ?_
    repeat tb_start
    refine B.inOrder ?_
    repeat tb_start
    refine B.inOrder0 ?_
    repeat tb_start
    have gall : GLe G Gt := (hgj.trans hg2).trans gt
    have hlk' : LsA Gt lk [.str y ty] := hlk.up gt
    have hnb' := hnb.up gall
    have hv' := hv.up gall
    have hea' := hea.up gall
    refine B.mono (Q := fun fl G' C' m' => fl = .next ∧ Ex2 fun ob nvv => And5 (C' = up C dw ob) (m' (sS "needs") = some nvv) (m' (sS "known") = some (.ref lk)) (GLe Gt G') (NdA D G' nvv (finN nb (need S e) y))) ?loop ?rest
    case rest =>
      intro fl G' C' m' ⟨e1, ob', nvv, e2, e3, e4, g, nd⟩
      subst e1 e2
      repeat tb_start
      have szf : Sz (finN nb (need S e) y) (2 ^ 20) := by
        have zn := need_big hz (t := e) (by exact Nat.le_trans (by assumption) (by assumption))
        unfold finN
        cases nb with
        | none => exact Sz.none
        | some l =>
          dsimp only
          split
          · exact (hsb.both zn).mono (by decide)
          · exact hsb.mono (by decide)
      refine B.callC (without_ok (xs := [y]) (R1.le (by exact Nat.le_of_ble_eq_true rfl)) nd ⟨_, hlk'.up g, .cons y ty .nil⟩ szf) (fun r2 G2 g2 p2 => ?_)
      repeat tb_start
      exact ⟨.up hcd, p2⟩
    case loop =>
      refine B.while 2 (fun n G' C' m' => Ex5 fun nvv bm ob kvs cur => And9 (m' (sS "needs") = some nvv) (m' (sS "known") = some (.ref lk)) (m' (sS "waiting") = some (.ref dw)) (m' (sS "env") = some (.ref ea)) (m' (sS "is_more") = some (.bool bm)) (C' = up C dw ob) (ob.IsDictOf (PySem.strKind Pw D.w) kvs) (NdA D G' nvv cur) (WB n bm nb (need S e) cur y (.ref av) kvs))
        ⟨nv0, true, ob, _, nb, rfl, rfl, rfl, rfl, rfl, rfl, hob, hnb', .inl ⟨rfl, rfl, rfl, rfl⟩⟩ ?_
      intro n Gi Ci mi Fih hg inv Fi
      refine B.opq fun Q₁ q₁ => ?_
      obtain ⟨nvv, bm, ob1, kvs, cur, m1, m2, m3, m4, m5, rfl, hob1, hnd, wb⟩ := inv
      repeat tb_start
      have hea1 := hea'.up hg
      cases cur with
      | none =>
        cases hnd
        refine B.notNoneT ?_
        repeat tb_start
        exact ⟨rfl, ob1, _, rfl, m1, m2, hg, by rw [wb_none wb]; rfl⟩
      | some l =>
        obtain ⟨na, rfl, hna⟩ := hnd
        refine B.notNoneF ?_
        repeat tb_start
        cases bm with
        | false =>
          repeat tb_start
          exact ⟨rfl, ob1, _, rfl, m1, m2, hg, by rw [← wb_false wb]; exact ⟨na, rfl, hna⟩⟩
        | true =>
          repeat tb_start
          refine B.for ?x
          repeat tb_start
          refine ⟨1, _, fun j G' C' m' => Ex5 fun nvv bm ob kvs cur => And9 (m' (sS "needs") = some nvv) (m' (sS "known") = some (.ref lk)) (m' (sS "waiting") = some (.ref dw)) (m' (sS "env") = some (.ref ea)) (m' (sS "is_more") = some (.bool bm)) (C' = up C dw ob) (ob.IsDictOf (PySem.strKind Pw D.w) kvs) (NdA D G' nvv cur) ((And4 (j = 0) (bm = false) (WB n true nb (need S e) cur y (.ref av) kvs) (cur = some l)) ∨ (j = 1 ∧ ∃ n', n' < n ∧ WB n' bm nb (need S e) cur y (.ref av) kvs)), iter_list R1.h (hlk'.up hg), ⟨.ref na, false, ob1, kvs, some l, by walk_at "mine.nm", by walk_at "mine.nm", by walk_at "mine.nm", by walk_at "mine.nm", rfl, rfl, hob1, ⟨na, rfl, hna⟩, .inl ⟨rfl, rfl, wb, rfl⟩⟩, ?_, ?_⟩
          · intro j x Gj Cj mj Fjh hj hgj inv hP Fj
            refine B.opq fun Q₁ q₁ => ?_
            have hj0 : j = 0 := by exact Nat.lt_one_iff.mp (by assumption)
            subst hj0
            cases hP
            obtain ⟨nvv, bm, ob2, kvs2, cur2, q1, q2, q3, q4, q5, rfl, hob2, hnd2, hw⟩ := inv
            rcases hw with ⟨_, rfl, wb2, rfl⟩ | ⟨hbad, _⟩
            case inr => exact absurd hbad (by decide)
            obtain ⟨nb2, rfl, hnb2⟩ := hnd2
            repeat tb_start
            refine B.inD (kvs := kvs2) (.inr ⟨hzd, ob2, up_self, hob2⟩) ?_
            rcases wb2 with ⟨rfl, _, hcur, rfl⟩ | ⟨rfl, _, ⟨l0, rfl, hyl⟩, hcur, rfl⟩ | ⟨_, hbad, _⟩
            case inr.inr => exact absurd hbad (by decide)
            · rw [show (valueAt [(y, Value.ref av)] y).isSome = true by simp [valueAt]]
              repeat tb_start
              refine B.notNoneF ?_
              repeat tb_start
              refine B.inD (.inl hnb2) ?_
              rw [tt_at]
              cases hyl : decide (y ∈ l)
              · repeat tb_start
                exact ⟨_, false, ob2, _, some l, by walk_at "mine.nm", by walk_at "mine.nm", by walk_at "mine.nm", by walk_at "mine.nm", by walk_at "mine.nm", rfl, hob2, ⟨nb2, rfl, hnb2⟩, .inr ⟨rfl, 0, by decide, .inr (.inr ⟨rfl, rfl, by rw [← hcur]; unfold finN; simp only [if_neg (of_decide_eq_false hyl)]⟩)⟩⟩
              · repeat tb_start
                refine B.methD PySem.F.slot_dict_pop PySem.F.type_dict_pop (.inr ⟨hzd, ob2, up_self, hob2⟩) ?_
                repeat tb_start
                refine B.dictPop (v := .ref av) up_self hob2 (Nat.le_of_ble_eq_true rfl) (by simp [valueAt]) (fun o3 hob3 => ?_)
                rw [up_up]
                repeat tb_start
                refine B.callC (ih (R1.le (by exact le1 rfl)) ((hv'.up hg).up hgj) hs hh hd (hea1.up hgj) hz) (fun r5 G5 g5 p5 => ?_)
                repeat tb_start
                have zn := need_big hz (t := e) (by exact Nat.le_trans (by assumption) (by assumption))
                have zl : Sz (some l) (2 ^ 20) := by rw [hcur]; exact hsb.mono (by decide)
                refine B.callC (both_ok (n := some l) (R1.le (by exact Nat.le_of_ble_eq_true rfl)) ⟨nb2, rfl, hnb2.up g5⟩ p5 zl (zn.mono (by decide))) (fun r6 G6 g6 p6 => ?_)
                repeat tb_start
                exact ⟨r6, true, o3, _, both (some l) (need S e), by walk_at "mine.nm", by walk_at "mine.nm", by walk_at "mine.nm", by walk_at "mine.nm", rfl, rfl, hob3, p6, .inr ⟨rfl, 1, by decide, .inr (.inl ⟨rfl, rfl, ⟨l, hcur.symm, by simpa using hyl⟩, by rw [hcur], by simp [PySem.without]⟩)⟩⟩
            · rw [show (valueAt ([] : List (Str × Value)) y).isSome = false from rfl]
              repeat tb_start
              exact ⟨_, false, ob2, _, some l, by walk_at "mine.nm", by walk_at "mine.nm", by walk_at "mine.nm", by walk_at "mine.nm", by walk_at "mine.nm", rfl, hob2, ⟨nb2, rfl, hnb2⟩, .inr ⟨rfl, 0, by decide, .inr (.inr ⟨rfl, rfl, by rw [hcur]; unfold finN; simp only [if_pos hyl]⟩)⟩⟩
          · intro Gj Cj mj hgj inv
            obtain ⟨nvv, bm, ob2, kvs2, cur2, q1, q2, q3, q4, q5, rfl, hob2, hnd2, hw⟩ := inv
            rcases hw with ⟨hbad, _⟩ | ⟨_, n', hn', wb2⟩
            case inl => exact absurd hbad (by decide)
            repeat tb_start
            exact ⟨n', hn', nvv, bm, ob2, kvs2, cur2, q1, q2, q3, q4, q5, rfl, hob2, hnd2, wb2⟩
end
section
variable {D : Wd} {A : Around} {F : Fn} {G C G' C' : PM} {m : LM} {h : Heap} {env : Env} {pos : Pos}
theorem let_ok {d : Nat} (ih : NeedOk D d) {v : Value} {ea : Addr} {y : N} {e b : Tm} {S : Sgs} (R : Room A (4 * d + 13)) (ht : TmA G v (.lt y e b)) (hs : Src e ∧ Src b) (h1 : Mine.ht e ≤ d) (h2 : Mine.ht b ≤ d) (hd : d ≤ 6) (hea : EnvA D G ea S) (hz : SzS S) :
    CodeOk D A (.ref 506) [v, .ref ea] G C (fun r G' C' => C' = C ∧ NdA D G' r (need S (.lt y e b))) := by
  refine codeOk_def (binds := [(sS "expr", v), (sS "env", .ref ea)]) (look506 _) (by kernel_rfl) (R.le (by exact Nat.le_of_ble_eq_true rfl : 1 ≤ _)).lt (fun s X => BindsTo.of_eq rfl) (locs rfl) ?_ (by decide)
  intro F hG hC env₀ A₀ m₀ Q₀ q₀
  obtain ⟨a, lb, tp, ty, ve, vb, rfl, hi, hl, htp, hve, hvb⟩ := ht
  obtain ⟨ab, rfl⟩ := hvb.ref
  have R1 : Room A₀ (4 * d + 12) := (R.le (by exact Nat.lt_succ_self _ : (4 * d + 12) + 1 ≤ _)).deeper
  refine B.cons ?_
  repeat tb_start
  refine B.callX (bound_ok (R1.le (by exact Nat.le_of_ble_eq_true rfl)) hi hl htp hve hea) (fun ia G1 g1 hia => ?_)
  repeat tb_start
  refine B.callC (ih (R1.le (by exact le1 rfl)) (hvb.up g1) hs.2 h2 hd hia hz) (fun r2 G2 g2 p2 => ?_)
  repeat tb_start
  have g := g1.trans g2
  refine B.callC (binds_ok ih (R1.le (by exact le1 rfl)) p2 (need_big hz (by exact Nat.le_trans (by assumption) (by assumption))) (hi.up g) (hl.up g) (htp.up g) (hve.up g) hs.1 h1 hd (hea.up g) hz) (fun r3 G3 g3 p3 => ?_)
  repeat tb_start
  exact ⟨rfl, p3⟩
theorem need_step (d : Nat) (ih : ∀ d', d = d' + 1 → NeedOk D d') : NeedOk D d := by
  intro A G C v ea t S R ht hs hh hd he hz
  refine codeOk_def (binds := [(sS "expr", v), (sS "env", .ref ea)]) (look453 _) (by kernel_rfl) (R.le (by exact Nat.le_of_ble_eq_true rfl : 1 ≤ _)).lt (fun s X => BindsTo.of_eq rfl) (locs rfl) ?_ (by decide)
  intro F hG hC env₀ A₀ m₀ Q₀ q₀
  have R1 : Room A₀ (4 * d + 9) := (R.le (by exact Nat.lt_succ_self _ : (4 * d + 9) + 1 ≤ _)).deeper
  refine B.cons ?_
  repeat tb_start
  cases t with
  | seq v x o => exact hs.elim
  | var x =>
    obtain ⟨a, tx, rfl, hi⟩ := ht
    walk_at "mine.yes"
    repeat tb_start
    refine B.dict1 (fun dd o hgd hcd hfd hz => ?_)
    repeat tb_start
    refine ⟨x, tx, rfl, up_self, fun G2 g2 h2 => ?_⟩
    rw [rm_up1 hcd]
    repeat tb_start
    exact ⟨rfl, dd, rfl, h2⟩
  | lit i =>
    obtain ⟨a, tx, ty, rfl, hi⟩ := ht
    walk_at "mine.no"
    repeat tb_start
    refine B.tuple ?_
    repeat tb_start
    refine ⟨Nat.le_of_ble_eq_true rfl, fun ta Gt gt htp => ?_⟩
    repeat tb_start
    walk_at "mine.tyes"
    repeat tb_start
    refine B.dictG (fun dd G2 g2 h2 => ?_)
    repeat tb_start
    exact ⟨rfl, dd, rfl, h2⟩
  | err =>
    have ht0 := ht
    obtain ⟨a, t1, l, w, b, t2, t3, rfl, hi, hl, rfl, hb⟩ := ht
    walk_at "mine.no"
    repeat tb_start
    refine B.tuple ?_
    repeat tb_start
    refine ⟨Nat.le_of_ble_eq_true rfl, fun ta Gt gt htp => ?_⟩
    repeat tb_start
    walk_at "mine.tno"
    repeat tb_start
    walk_at "mine.yes"
    repeat tb_start
    refine B.callC (prim_err (S := S) (R1.le (by exact Nat.le_of_ble_eq_true rfl)) (ht0.up gt)) (fun r2 G2 g2 p2 => ?_)
    repeat tb_start
    exact ⟨rfl, p2⟩
  | add p q =>
    have ht0 := ht
    obtain ⟨a, t1, l, w, w', rfl, hi, hl, hp, hq⟩ := ht
    have hh' : max (Mine.ht p) (Mine.ht q) + 1 ≤ d := hh
    obtain ⟨d', rfl⟩ : ∃ d', d = d' + 1 := ⟨d - 1, by exact ds1 (by assumption)⟩
    walk_at "mine.no"
    repeat tb_start
    refine B.tuple ?_
    repeat tb_start
    refine ⟨Nat.le_of_ble_eq_true rfl, fun ta Gt gt htp => ?_⟩
    repeat tb_start
    walk_at "mine.tno"
    repeat tb_start
    walk_at "mine.yes"
    repeat tb_start
    refine B.callC (prim_ok (ih d' rfl) (R1.le (by exact le3 rfl)) (ht0.up gt) hs (by exact mx1 (by assumption)) (by exact mx2 (by assumption)) (by exact Nat.le_of_succ_le (by assumption)) (he.up gt) hz) (fun r2 G2 g2 p2 => ?_)
    repeat tb_start
    exact ⟨rfl, p2⟩
  | case e y k p o =>
    have ht0 := ht
    obtain ⟨a, ve, t, la, al, kt, ln, va, vo, t1, t2, t3, rfl, hi, hrest⟩ := ht
    have hh' : max (Mine.ht e) (max (Mine.ht p) (Mine.ht o)) + 1 ≤ d := hh
    obtain ⟨d', rfl⟩ : ∃ d', d = d' + 1 := ⟨d - 1, by exact ds1 (by assumption)⟩
    walk_at "mine.no"
    repeat tb_start
    refine B.tuple ?_
    repeat tb_start
    refine ⟨Nat.le_of_ble_eq_true rfl, fun ta Gt gt htp => ?_⟩
    repeat tb_start
    walk_at "mine.tno"
    repeat tb_start
    walk_at "mine.no"
    repeat tb_start
    walk_at "mine.no"
    repeat tb_start
    walk_at "mine.yes"
    repeat tb_start
    refine B.callC (case_ok (ih d' rfl) (R1.le (by exact le3 rfl)) (ht0.up gt) ⟨hs.1, hs.2.2.1, hs.2.2.2⟩ (by exact mx1 (by assumption)) (by exact mx3 (by assumption)) (by exact mx4 (by assumption)) (by exact Nat.le_of_succ_le (by assumption)) (he.up gt) hz) (fun r2 G2 g2 p2 => ?_)
    repeat tb_start
    exact ⟨rfl, p2⟩
  | lt y e b =>
    have ht0 := ht
    obtain ⟨a, lb, tp, t, ve, vb, rfl, hi, hrest⟩ := ht
    have hh' : max (Mine.ht e) (Mine.ht b) + 1 ≤ d := hh
    obtain ⟨d', rfl⟩ : ∃ d', d = d' + 1 := ⟨d - 1, by exact ds1 (by assumption)⟩
    walk_at "mine.no"
    repeat tb_start
    refine B.tuple ?_
    repeat tb_start
    refine ⟨Nat.le_of_ble_eq_true rfl, fun ta Gt gt htp => ?_⟩
    repeat tb_start
    walk_at "mine.tno"
    repeat tb_start
    walk_at "mine.no"
    repeat tb_start
    walk_at "mine.no"
    repeat tb_start
    walk_at "mine.no"
    repeat tb_start
    refine B.callC (let_ok (ih d' rfl) (R1.le (by exact le3 rfl)) (ht0.up gt) ⟨hs.1, hs.2.2.2⟩ (by exact mx1 (by assumption)) (by exact mx2 (by assumption)) (by exact Nat.le_of_succ_le (by assumption)) (he.up gt) hz) (fun r2 G2 g2 p2 => ?_)
    repeat tb_start
    exact ⟨rfl, p2⟩
  | ap1 f p =>
    obtain ⟨a, vf, t, l, w, rfl, hi, hf, hl, hp⟩ := ht
    have hh' : Mine.ht p + 1 ≤ d := hh
    obtain ⟨d', rfl⟩ : ∃ d', d = d' + 1 := ⟨d - 1, by exact ds1 (by assumption)⟩
    walk_at "mine.no"
    repeat tb_start
    refine B.tuple ?_
    repeat tb_start
    refine ⟨Nat.le_of_ble_eq_true rfl, fun ta Gt gt htp => ?_⟩
    repeat tb_start
    walk_at "mine.tno"
    repeat tb_start
    walk_at "mine.no"
    repeat tb_start
    walk_at "mine.yes"
    repeat tb_start
    refine B.callC (call_ok (ih d' rfl) (ts := [p]) (R1.le (by exact le3 rfl)) (hi.up gt) (hf.up gt) (hl.up gt) (.cons (hp.up gt) .nil) (by simp) (by intro t ht; simp at ht; subst ht; exact ⟨hs, by exact Nat.le_of_succ_le_succ (by assumption)⟩) (by exact Nat.le_of_succ_le (by assumption)) (he.up gt) hz) (fun r2 G2 g2 p2 => ?_)
    repeat tb_start
    exact ⟨rfl, p2⟩
  | ap2 f p q =>
    obtain ⟨a, vf, t, l, w, w', rfl, hi, hf, hl, hp, hq⟩ := ht
    have hh' : max (Mine.ht p) (Mine.ht q) + 1 ≤ d := hh
    obtain ⟨d', rfl⟩ : ∃ d', d = d' + 1 := ⟨d - 1, by exact ds1 (by assumption)⟩
    walk_at "mine.no"
    repeat tb_start
    refine B.tuple ?_
    repeat tb_start
    refine ⟨Nat.le_of_ble_eq_true rfl, fun ta Gt gt htp => ?_⟩
    repeat tb_start
    walk_at "mine.tno"
    repeat tb_start
    walk_at "mine.no"
    repeat tb_start
    walk_at "mine.yes"
    repeat tb_start
    refine B.callC (call_ok (ih d' rfl) (ts := [p, q]) (R1.le (by exact le3 rfl)) (hi.up gt) (hf.up gt) (hl.up gt) (.cons (hp.up gt) (.cons (hq.up gt) .nil)) (by simp) (by intro t ht; simp at ht; rcases ht with rfl | rfl; exact ⟨hs.1, by exact mx1 (by assumption)⟩; exact ⟨hs.2, by exact mx2 (by assumption)⟩) (by exact Nat.le_of_succ_le (by assumption)) (he.up gt) hz) (fun r2 G2 g2 p2 => ?_)
    repeat tb_start
    exact ⟨rfl, p2⟩
theorem need_okk : ∀ d, NeedOk D d
  | 0 => need_step 0 fun _ e => absurd e (by lia)
  | d + 1 => need_step (d + 1) fun d' e => by cases e; exact need_okk d
end
theorem strs_get : ∀ {vs : List Value} {ps : List Str}, StrsAre vs ps → ∀ {j : Nat} {v : Value}, vs[j]? = some v → Ex2 fun p t => ps[j]? = some p ∧ v = .str p t
  | _, _, .nil, j, v, h => by simp at h
  | _, _, .cons k t h, 0, v, e => by simp at e; subst e; exact ⟨k, t, rfl, rfl⟩
  | _, _, .cons k t h, j + 1, v, e => by simp at e; exact strs_get h e
section
variable {D : Wd} {A : Around} {F : Fn} {G C G' C' : PM} {m : LM} {h : Heap} {env : Env} {pos : Pos}
theorem sig_ok {a ea : Addr} {ps : List N} {b : Tm} {S : Sgs} (R : Room A 40) (hl : LamA G a ps b) (hp : ps.length ≤ 2) (hs : Src b) (hh : Mine.ht b ≤ 6) (he : EnvA D G ea S) (hz : SzS S) :
    CodeOk D A (.ref 479) [.ref a, .ref ea] G C (fun r G' C' => C' = C ∧ SigA D G' r (sigOf S ⟨ps, b⟩)) := by
  refine CodeOk.drop ?_
  refine codeOk_cellsB (binds := [(sS "function", .ref a), (sS "env", .ref ea)]) (look479 _) (by kernel_rfl) (R.le (by exact Nat.le_of_ble_eq_true rfl : 1 ≤ _)).lt rfl (by kernel_rfl) ?_
  intro F hG hC G₁ C₁ cs₀ env₀ A₀ m₀ cl Q₀ q₀
  have g0 := cl.g
  have c0 := cl.c
  obtain ⟨oc, hoc, hoc2, hoc3, hoc4⟩ := cl.q (sS "needs") _ rfl rfl
  have hl1 := hl.up g0
  have he1 := he.up g0
  have R1 : Room A₀ 39 := (R.le (by exact Nat.le_of_ble_eq_true rfl : 39 + 1 ≤ _)).deeper
  obtain ⟨lp, vb, hi, ⟨vs, hvs, hst⟩, hb⟩ := hl1
  obtain ⟨ab, rfl⟩ := hb.ref
  have hlen : vs.length = ps.length := strsAre_len hst
  refine B.cons ?_
  repeat tb_start
  refine B.callC (need_okk 6 (R1.le (by exact Nat.le_of_ble_eq_true rfl)) hb hs hh (Nat.le_refl _) he1 hz) (fun r1 G2 g2 p1 => ?_)
  refine B.storeCell (c := F.L + 1) rfl hoc hoc2 (fun o' ho' => ?_)
  have c1 : GLe C (up C₁ (F.L + 1) o') := GLe.upd c0 hoc3
  have clf : ClA (up C₁ (F.L + 1) o') (F.L + 1) r1 := ⟨o', up_self, ho'⟩
  repeat tb_start
  have zn := need_big hz (t := b) hh
  have hsig : sigOf S ⟨ps, b⟩ = match need S b with
    | none => ⟨ps.map fun _ => true, [], true⟩
    | some l => ⟨ps.map (decide <| · ∈ l), l.filter (· ∉ ps), false⟩ := rfl
  revert q₀
  rw [hsig]
  cases hn : need S b with
  | none =>
    intro q₀
    rw [hn] at p1
    cases p1
    refine B.isNoneT ?_
    repeat tb_start
    refine B.lenL (.inl (hvs.up g2)) (by lia) (fun tk => ?_)
    repeat tb_start
    refine B.callC (hopeful_ok (k := vs.length) (R1.le (by exact Nat.le_of_ble_eq_true rfl)) (by lia)) (fun r2 G3 g3 p2 => ?_)
    obtain ⟨xa, lf, df, rfl, h1, h2, h3⟩ := p2
    repeat tb_start
    refine ⟨c1, xa, lf, df, rfl, h1, ?_, h3⟩
    have e : (ps.map fun _ => true).map Value.bool = List.replicate vs.length (.bool true) := by
      rw [List.map_map, hlen]; exact List.map_const' ..
    rw [e]; exact h2
  | some l =>
    intro q₀
    rw [hn] at p1 zn
    have p10 := p1
    obtain ⟨da, rfl, hda⟩ := p1
    refine B.isNoneF ?_
    repeat tb_start
    refine B.asgListComp (cl := ?cl1) ?x1 ?h11 ?h12 rfl ?h14 rfl rfl rfl rfl ?h15
    case h11 => exact rfl
    case h12 => decide
    case h14 => decide
    case h15 => exact fun _ => rfl
    repeat tb_start
    refine ⟨vs.length, _, fun j ys G' C' => C' = up C₁ (F.L + 1) o' ∧ ys = (ps.take j).map fun q => Value.bool (decide (q ∈ l)), iter_list R1.h (hvs.up g2), by rw [sizeLine_eq]; lia, ⟨rfl, rfl⟩, ?_, ?_⟩
    · intro j v ys Gj Cj mj Fj hj hFG hFC hgj inv hP
      refine B.opq fun Q₁ q₁ => ?_
      obtain ⟨rfl, rfl⟩ := inv
      obtain ⟨q, tq, hq, rfl⟩ := strs_get hst hP
      repeat tb_start
      refine B.inD (.inl (hda.up hgj)) ?_
      rw [tt_at]
      exact ⟨rfl, by rw [List.take_add_one, hq]; simp⟩
    · intro ys Gj Cj lf Gf hgj inv hgf hlf
      obtain ⟨rfl, rfl⟩ := inv
      have gall : GLe G₁ Gf := (g2.trans hgj).trans hgf
      repeat tb_start
      refine B.callC (without_ok (xs := ps) (R1.le (by exact Nat.le_of_ble_eq_true rfl)) ((p10.up hgj).up hgf) ⟨vs, hvs.up gall, hst⟩ (zn.mono (by decide))) (fun r4 G4 g4 p4 => ?_)
      repeat tb_start
      obtain ⟨df, rfl, hdf⟩ := p4
      refine B.callX (mk_Signature (R1.le (by exact Nat.le_of_ble_eq_true rfl)) _ _ _) (fun xa G5 g5 hx => ?_)
      repeat tb_start
      refine ⟨c1, xa, lf, df, rfl, hx, ?_, hdf.up g5⟩
      rw [List.map_map]
      rw [hlen, List.take_length] at hlf
      exact (hlf.up g4).up g5
end
/-! the signatures can only fall -/
noncomputable def NLe (n n' : Nd) : Prop := ∀ l', n' = some l' → ∃ l, n = some l ∧ ∀ x ∈ l, x ∈ l'
theorem NLe.top {n : Nd} : NLe n none := fun _ e => by cases e
theorem NLe.rfl {n : Nd} : NLe n n := fun l e => ⟨l, e, fun _ h => h⟩
theorem NLe.some {l l' : List N} (h : ∀ x ∈ l, x ∈ l') : NLe (some l) (some l') := fun _ e => by cases e; exact ⟨l, Eq.refl _, h⟩
theorem NLe.both {a a' b b' : Nd} (h : NLe a a') (k : NLe b b') : NLe (both a b) (both a' b') := by
  cases a' with
  | none => exact .top
  | some x' =>
    cases b' with
    | none => exact .top
    | some y' =>
      obtain ⟨x, rfl, hx⟩ := h x' (Eq.refl _)
      obtain ⟨y, rfl, hy⟩ := k y' (Eq.refl _)
      exact .some fun z hz => mem_joinL.mpr ((mem_joinL.mp hz).imp (hx z) (hy z))
theorem NLe.bothL {a a' b' : Nd} (h : NLe a a') : NLe a (Mine.both a' b') := by
  cases a' with
  | none => exact .top
  | some x' =>
    cases b' with
    | none => exact .top
    | some y' =>
      obtain ⟨x, rfl, hx⟩ := h x' (Eq.refl _)
      exact .some fun z hz => mem_joinL.mpr (.inl (hx z hz))
theorem NLe.either {a a' b b' : Nd} (h : NLe a a') (k : NLe b b') : NLe (either2 a b) (either2 a' b') := by
  cases a' with
  | none =>
    cases b' with
    | none => exact .top
    | some y' =>
      obtain ⟨y, rfl, hy⟩ := k y' (Eq.refl _)
      cases a with
      | none => exact .some hy
      | some x => exact .some fun z hz => hy z (by simpa using (List.mem_filter.mp hz).2)
  | some x' =>
    obtain ⟨x, rfl, hx⟩ := h x' (Eq.refl _)
    cases b' with
    | none =>
      cases b with
      | none => exact .some hx
      | some y => exact .some fun z hz => hx z (List.mem_filter.mp hz).1
    | some y' =>
      obtain ⟨y, rfl, hy⟩ := k y' (Eq.refl _)
      exact .some fun z hz => List.mem_filter.mpr ⟨hx z (List.mem_filter.mp hz).1, by simpa using hy z (by simpa using (List.mem_filter.mp hz).2)⟩
theorem NLe.without {a a' : Nd} {xs : List N} (h : NLe a a') : NLe (without a xs) (without a' xs) := by
  cases a' with
  | none => exact .top
  | some x' =>
    obtain ⟨x, rfl, hx⟩ := h x' (Eq.refl _)
    exact .some fun z hz => List.mem_filter.mpr ⟨hx z (List.mem_filter.mp hz).1, (List.mem_filter.mp hz).2⟩
structure SgLe (s s' : Sg) : Prop where
  len : s.flags.length = s'.flags.length
  le : s'.div = true ∨ (And3 (s.div = false) (∀ i : Nat, s.flags[i]? = some true → s'.flags[i]? = some true) (∀ x ∈ s.free, x ∈ s'.free))
noncomputable def SLe (S S' : Sgs) : Prop := ∀ f, (S f = none ∧ S' f = none) ∨ Ex2 fun s s' => And3 (S f = some s) (S' f = some s') (SgLe s s')
inductive LeAll : List Nd → List Nd → Prop
  | nil : LeAll [] []
  | cons {a b l k} : NLe a b → LeAll l k → LeAll (a :: l) (b :: k)
theorem zip_mono : ∀ {fs fs' : List Bool} {ns ns' : List Nd} {a a' : Nd}, fs.length = fs'.length → (∀ i : Nat, fs[i]? = some true → fs'[i]? = some true) → LeAll ns ns' → NLe a a' → NLe (zipN fs ns a) (zipN fs' ns' a')
  | [], [], _, _, _, _, _, _, hn, ha => by cases hn <;> exact ha
  | _ :: _, [], _, _, _, _, h, _, _, _ => by cases h
  | [], _ :: _, _, _, _, _, h, _, _, _ => by cases h
  | f :: fs, f' :: fs', _, _, a, a', hl, hf, .nil, ha => ha
  | f :: fs, f' :: fs', _, _, a, a', hl, hf, .cons hn hr, ha => by
    simp only [zipN]
    refine zip_mono (by simpa using hl) (fun i hi => by have := hf (i + 1) (by simpa using hi); simpa using this) hr ?_
    have h0 := hf 0
    simp at h0
    cases f with
    | true => rw [h0 (Eq.refl _)]; exact ha.both hn
    | false =>
      cases f' with
      | true => exact ha.bothL
      | false => exact ha
theorem call_mono {so so' : Option Sg} {f : N} {ns ns' : List Nd} (h : (so = none ∧ so' = none) ∨ Ex2 fun s s' => And3 (so = some s) (so' = some s') (SgLe s s')) (hn : LeAll ns ns') (hl : ns.length = ns'.length) : NLe (callN so f ns) (callN so' f ns') := by
  rcases h with ⟨rfl, rfl⟩ | ⟨s, s', rfl, rfl, k⟩
  · exact .rfl
  · simp only [callN]
    rw [← k.len, ← hl]
    split
    · exact .rfl
    rcases k.le with e | ⟨e, e2, e3⟩
    · rw [if_pos e]; exact .top
    · rw [if_neg (show ¬ s.div = true by rw [e]; simp)]
      split
      · exact .top
      · exact zip_mono k.len e2 hn (.both .rfl (.some e3))
theorem need_mono {S S' : Sgs} (h : SLe S S') : ∀ t, NLe (need S t) (need S' t)
  | .var _ => .rfl
  | .lit _ => .rfl
  | .err => .rfl
  | .add a b => .both (.both .rfl (need_mono h a)) (need_mono h b)
  | .case v _ _ a o => .both (need_mono h v) (.either (need_mono h a).without (need_mono h o).without)
  | .seq _ _ _ => .rfl
  | .lt x v b => by
    unfold need letN
    refine NLe.without ?_
    have hb := need_mono h b
    have hv := need_mono h v
    cases e' : need S' b with
    | none => exact .top
    | some l' =>
      obtain ⟨l, e, hl⟩ := hb l' e'
      rw [e]
      dsimp only
      by_cases k : x ∈ l
      · rw [if_pos k, if_pos (hl x k)]; exact .both (.some hl) hv
      · rw [if_neg k]
        split
        · exact .bothL (.some hl)
        · exact .some hl
  | .ap1 f a => call_mono (h f) (.cons (need_mono h a) .nil) (Eq.refl _)
  | .ap2 f a b => call_mono (h f) (.cons (need_mono h a) (.cons (need_mono h b) .nil)) (Eq.refl _)
theorem sigOf_len (S : Sgs) (fd : Fd) : (sigOf S fd).flags.length = fd.ps.length := by
  unfold sigOf
  split <;> simp
theorem sig_mono {S S' : Sgs} (h : SLe S S') (fd : Fd) : SgLe (sigOf S fd) (sigOf S' fd) := by
  refine ⟨by rw [sigOf_len, sigOf_len], ?_⟩
  have k := need_mono h fd.body
  unfold sigOf
  cases e' : need S' fd.body with
  | none => exact .inl (Eq.refl _)
  | some l' =>
    obtain ⟨l, e, hl⟩ := k l' e'
    rw [e]
    refine .inr ⟨Eq.refl _, fun i hi => ?_, fun x hx => ?_⟩
    · simp only [List.getElem?_map] at hi ⊢
      cases q : fd.ps[i]? with
      | none => rw [q] at hi; cases hi
      | some p =>
        rw [q] at hi
        simp at hi ⊢
        exact hl p hi
    · exact List.mem_filter.mpr ⟨hl x (List.mem_filter.mp hx).1, (List.mem_filter.mp hx).2⟩
/-- how far a signature can still fall -/
noncomputable def sgM (s : Sg) : Nat := if s.div then 100 else s.flags.count true + s.free.length
theorem nodup_sub : ∀ {l k : List N}, l.Nodup → (∀ x ∈ l, x ∈ k) → l.length ≤ k.length ∧ (l.length = k.length → ∀ x ∈ k, x ∈ l)
  | [], k, _, _ => ⟨Nat.zero_le _, fun e x hx => by
    cases k with
    | nil => exact hx
    | cons y k => simp at e⟩
  | x :: l, k, hn, hs => by
    have hx : x ∈ k := hs x (by simp)
    rw [List.nodup_cons] at hn
    have hl := List.length_erase_of_mem hx
    have hp : 0 < k.length := List.length_pos_of_mem hx
    have ih := nodup_sub (l := l) (k := k.erase x) hn.2 (fun y hy => by
      have hne : y ≠ x := fun e => hn.1 (e ▸ hy)
      exact (List.mem_erase_of_ne hne).mpr (hs y (by simp [hy])))
    refine ⟨by simp only [List.length_cons]; lia, fun e y hy => ?_⟩
    by_cases hyx : y = x
    · simp [hyx]
    · exact List.mem_cons_of_mem _ (ih.2 (by simp only [List.length_cons] at e; lia) y ((List.mem_erase_of_ne hyx).mpr hy))
theorem flags_le : ∀ {fs fs' : List Bool}, fs.length = fs'.length → (∀ i : Nat, fs[i]? = some true → fs'[i]? = some true) → fs.count true ≤ fs'.count true ∧ (fs.count true = fs'.count true → fs = fs')
  | [], [], _, _ => ⟨Nat.le_refl _, fun _ => rfl⟩
  | _ :: _, [], h, _ => by cases h
  | [], _ :: _, h, _ => by cases h
  | f :: fs, f' :: fs', hl, hf => by
    have ih := flags_le (fs := fs) (fs' := fs') (by simpa using hl) (fun i hi => by have := hf (i + 1) (by simpa using hi); simpa using this)
    have h0 := hf 0
    simp at h0
    rw [List.count_cons, List.count_cons]
    cases f with
    | true => rw [h0 rfl]; simp; exact ⟨ih.1, fun e => ih.2 (by exact by assumption)⟩
    | false =>
      cases f' with
      | true => simp; exact ⟨by lia, fun e => by lia⟩
      | false => simp; exact ⟨ih.1, fun e => ih.2 e⟩
structure SgW (s : Sg) : Prop where
  dv : s.div = true → s.flags = List.replicate s.flags.length true ∧ s.free = []
  nd : s.free.Nodup
  l2 : s.flags.length ≤ 2
  l3 : s.free.length ≤ 3
theorem sgM_drop {s s' : Sg} (h : SgLe s s') (w : SgW s) (w' : SgW s') : sgM s < sgM s' ∨ (sgM s = sgM s' ∧ SameSg s s') := by
  unfold sgM
  rcases h.le with e | ⟨e, e2, e3⟩
  · rw [if_pos e]
    cases q : s.div with
    | true =>
      refine .inr ⟨by simp, ?_, ?_, by rw [q, e]⟩
      · rw [(w.dv q).1, (w'.dv e).1, h.len]
      · rw [(w.dv q).2, (w'.dv e).2]; exact fun _ => Iff.rfl
    | false =>
      left
      have := w.l3; have := w.l2
      have := List.count_le_length (a := true) (l := s.flags)
      simp; lia
  · rw [if_neg (show ¬ s.div = true by rw [e]; simp)]
    cases q : s'.div with
    | true =>
      left
      have := w.l3; have := w.l2
      have := List.count_le_length (a := true) (l := s.flags)
      simp; lia
    | false =>
      have hf := flags_le h.len e2
      have hn := nodup_sub w.nd e3
      rw [if_neg (by simp)]
      by_cases z : s.flags.count true = s'.flags.count true ∧ s.free.length = s'.free.length
      · exact .inr ⟨by lia, hf.2 z.1, fun x => ⟨e3 x, hn.2 z.2 x⟩, by rw [e, q]⟩
      · left; have := hf.1; have := hn.1; lia
theorem need_nodup {S : Sgs} : ∀ (t : Tm) (l : List N), need S t = some l → l.Nodup := by
  have hb : ∀ (a b : Nd), (∀ l, a = some l → l.Nodup) → ∀ l, both a b = some l → l.Nodup := fun a b h l e => by
    cases a with
    | none => cases e
    | some x =>
      cases b with
      | none => cases e
      | some y => cases e; exact nodup_joinL (h x rfl)
  have hz : ∀ (fs : List Bool) (ns : List Nd) (a : Nd), (∀ l, a = some l → l.Nodup) → ∀ l, zipN fs ns a = some l → l.Nodup := by
    intro fs
    induction fs with
    | nil => intro ns a h l e; cases ns <;> exact h l e
    | cons f fs ih =>
      intro ns a h l e
      cases ns with
      | nil => exact h l e
      | cons n ns =>
        simp only [zipN] at e
        refine ih ns _ ?_ l e
        split
        · exact hb a n h
        · exact h
  have hw : ∀ (a : Nd) (xs : List N), (∀ l, a = some l → l.Nodup) → ∀ l, without a xs = some l → l.Nodup := fun a xs h l e => by
    cases a with
    | none => cases e
    | some x => cases e; exact (h x rfl).filter _
  have h1 : ∀ (f : N) (l : List N), some [f] = some l → l.Nodup := fun f l e => by cases e; simp
  have hc : ∀ (so : Option Sg) (f : N) (ns : List Nd) (l : List N), callN so f ns = some l → l.Nodup := fun so f ns l e => by
    unfold callN at e
    cases so with
    | none => exact h1 f l e
    | some s =>
      simp only at e
      split at e
      · exact h1 f l e
      split at e
      · cases e
      · exact hz _ _ _ (hb _ _ (h1 f)) l e
  intro t
  induction t with
  | var x => exact fun l e => h1 x l e
  | lit i => intro l e; cases e; simp
  | err => intro l e; cases e
  | add a b iha ihb => exact hb _ _ (hb _ _ (fun l e => by cases e; simp))
  | case v x k a o ihv iha iho => exact hb _ _ ihv
  | seq v x o ihv iho => intro l e; cases e; simp
  | lt x v b ihv ihb =>
    unfold need letN
    refine hw _ _ ?_
    cases q : need S b with
    | none => intro l e; cases e
    | some y =>
      simp only
      split
      · exact hb _ _ (fun l e => by cases e; exact ihb y q)
      · intro l e; cases e; exact ihb y q
  | ap1 f a iha => exact hc _ _ _
  | ap2 f a b iha ihb => exact hc _ _ _
theorem need_mem {P : Tops} {S : Sgs} (hS : ∀ f s, S f = some s → ∀ x ∈ s.free, (P x).isSome = true) : ∀ (t : Tm) (d : N → Prop), WS P t d → ∀ l, need S t = some l → ∀ x ∈ l, d x ∨ (P x).isSome = true := by
  have hb : ∀ (d : N → Prop) (a b : Nd), (∀ l, a = some l → ∀ x ∈ l, d x) → (∀ l, b = some l → ∀ x ∈ l, d x) → ∀ l, both a b = some l → ∀ x ∈ l, d x := fun d a b h k l e => by
    cases a with
    | none => cases e
    | some x =>
      cases b with
      | none => cases e
      | some y => cases e; intro z hz; exact (mem_joinL.mp hz).elim (h x rfl z) (k y rfl z)
  have he : ∀ (d : N → Prop) (a b : Nd), (∀ l, a = some l → ∀ x ∈ l, d x) → (∀ l, b = some l → ∀ x ∈ l, d x) → ∀ l, either2 a b = some l → ∀ x ∈ l, d x := fun d a b h k l e => by
    cases a with
    | none => exact k l e
    | some x =>
      cases b with
      | none => cases e; exact h _ rfl
      | some y => cases e; intro z hz; exact h x rfl z (List.mem_filter.mp hz).1
  have hw : ∀ (d : N → Prop) (a : Nd) (y : N), (∀ l, a = some l → ∀ x ∈ l, (x = y ∨ d x) ∨ (P x).isSome = true) → ∀ l, without a [y] = some l → ∀ x ∈ l, d x ∨ (P x).isSome = true := fun d a y h l e => by
    cases a with
    | none => cases e
    | some x =>
      cases e; intro z hz
      obtain ⟨h1, h2⟩ := List.mem_filter.mp hz
      have h2 : z ≠ y := by simpa using h2
      rcases h x rfl z h1 with (q | q) | q
      · exact absurd q h2
      · exact .inl q
      · exact .inr q
  have hz : ∀ (d : N → Prop) (fs : List Bool) (ns : List Nd) (a : Nd), (∀ l, a = some l → ∀ x ∈ l, d x) → (∀ n ∈ ns, ∀ l, n = some l → ∀ x ∈ l, d x) → ∀ l, zipN fs ns a = some l → ∀ x ∈ l, d x := by
    intro d fs
    induction fs with
    | nil => intro ns a h k l e; cases ns <;> exact h l e
    | cons f fs ih =>
      intro ns a h k l e
      cases ns with
      | nil => exact h l e
      | cons n ns =>
        simp only [zipN] at e
        refine ih ns _ ?_ (fun m hm => k m (by simp [hm])) l e
        split
        · exact hb d a n h (k n (by simp))
        · exact h
  have hc : ∀ (d : N → Prop) (f : N) (ns : List Nd), (P f).isSome = true → (∀ n ∈ ns, ∀ l, n = some l → ∀ x ∈ l, d x ∨ (P x).isSome = true) → ∀ l, callN (S f) f ns = some l → ∀ x ∈ l, d x ∨ (P x).isSome = true := fun d f ns hf hn l e => by
    have h1 : ∀ l, some [f] = some l → ∀ x ∈ l, d x ∨ (P x).isSome = true := fun l e x hx => by cases e; simp at hx; subst hx; exact .inr hf
    unfold callN at e
    cases q : S f with
    | none => rw [q] at e; exact h1 l e
    | some s =>
      rw [q] at e
      simp only at e
      split at e
      · exact h1 l e
      split at e
      · cases e
      · exact hz _ _ _ _ (hb _ _ _ h1 (fun l e x hx => by cases e; exact .inr (hS f s q x hx))) hn l e
  intro t
  induction t with
  | var x => intro d h l e y hy; cases e; simp at hy; subst hy; exact .inl h
  | lit i => intro d h l e; cases e; simp
  | err => intro d h l e; cases e
  | add a b iha ihb => intro d h; exact hb _ _ _ (hb _ _ _ (fun l e => by cases e; simp) (iha d h.1)) (ihb d h.2)
  | case v x k a o ihv iha iho =>
    intro d h
    exact hb _ _ _ (ihv d h.1) (he _ _ _ (hw d _ x (iha _ h.2.1)) (hw d _ x (iho _ h.2.2)))
  | seq v x o ihv iho => intro d h l e; cases e; simp
  | lt x v b ihv ihb =>
    intro d h
    unfold need letN
    refine hw d _ x ?_
    cases q : need S b with
    | none => intro l e; cases e
    | some y =>
      have k := ihb _ h.2 y q
      simp only
      split
      · exact hb (fun z => (z = x ∨ d z) ∨ (P z).isSome = true) _ _ (fun l e => by cases e; exact k) (fun l e z hz => (ihv d h.1 l e z hz).imp .inr id)
      · intro l e; cases e; exact k
  | ap1 f a iha =>
    intro d h
    obtain ⟨⟨p, b, hf⟩, ha⟩ := h
    exact hc d f _ (by rw [hf]; rfl) (fun n hn => by simp at hn; subst hn; exact iha d ha)
  | ap2 f a b iha ihb =>
    intro d h
    obtain ⟨⟨p, q, bb, hf⟩, ha, hb'⟩ := h
    exact hc d f _ (by rw [hf]; rfl) (fun n hn => by
      simp at hn
      rcases hn with rfl | rfl
      · exact iha d ha
      · exact ihb d hb')
/-- a signature of a def of the program -/
structure SgP (P : Tops) (fd : Fd) (s : Sg) : Prop where
  w : SgW s
  m : ∀ x ∈ s.free, (P x).isSome = true
  l : s.flags.length = fd.ps.length
noncomputable def hopeSg (fd : Fd) : Sg := ⟨List.replicate fd.ps.length true, [], true⟩
theorem hope_p {P : Tops} {fd : Fd} (h : fd.ps.length ≤ 2) : SgP P fd (hopeSg fd) :=
  ⟨⟨fun _ => ⟨by simp [hopeSg], rfl⟩, by simp [hopeSg], by simpa [hopeSg] using h, by simp [hopeSg]⟩, by simp [hopeSg], by simp [hopeSg]⟩
theorem hope_top {fd : Fd} {s : Sg} (h : s.flags.length = fd.ps.length) : SgLe s (hopeSg fd) := ⟨by rw [h]; simp [hopeSg], .inl rfl⟩
theorem sig_p {P : Tops} {S : Sgs} {fd : Fd} {ns : List N} (hP : ∀ x, (P x).isSome = true → x ∈ ns) (hns : ns.length ≤ 3) (hS : ∀ f s, S f = some s → ∀ x ∈ s.free, (P x).isSome = true) (hl : fd.ps.length ≤ 2) (hw : WS P fd.body (· ∈ fd.ps)) : SgP P fd (sigOf S fd) := by
  have l := sigOf_len S fd
  have hm := need_mem hS fd.body _ hw
  have hn := need_nodup (S := S) fd.body
  unfold sigOf at l ⊢
  cases q : need S fd.body with
  | none => exact ⟨⟨fun _ => ⟨by simp; exact (List.map_const' ..), rfl⟩, by simp, by simpa using hl, by simp⟩, by simp, by simp⟩
  | some k =>
    have hm := hm k q
    have hn := hn k q
    have mem : ∀ x ∈ k.filter (· ∉ fd.ps), (P x).isSome = true := fun x hx => by
      obtain ⟨h1, h2⟩ := List.mem_filter.mp hx
      exact (hm x h1).elim (fun z => absurd z (by simpa using h2)) id
    have nd : (k.filter (· ∉ fd.ps)).Nodup := hn.filter _
    exact ⟨⟨fun e => Bool.noConfusion e, nd, by simpa using hl, Nat.le_trans (nodup_sub nd fun x hx => hP x (mem x hx)).1 hns⟩, mem, by simp⟩
/-- three functions' signatures -/
noncomputable def S3 (a b c : Sg) : Sgs := fun x => if x = sS "f" then some a else if x = sS "g" then some b else if x = sS "h" then some c else none
theorem S3_le {a b c a' b' c' : Sg} (h1 : SgLe a a') (h2 : SgLe b b') (h3 : SgLe c c') : SLe (S3 a b c) (S3 a' b' c') := fun x => by
  unfold S3
  by_cases e1 : x = sS "f"
  · rw [if_pos e1, if_pos e1]; exact .inr ⟨_, _, rfl, rfl, h1⟩
  rw [if_neg e1, if_neg e1]
  by_cases e2 : x = sS "g"
  · rw [if_pos e2, if_pos e2]; exact .inr ⟨_, _, rfl, rfl, h2⟩
  rw [if_neg e2, if_neg e2]
  by_cases e3 : x = sS "h"
  · rw [if_pos e3, if_pos e3]; exact .inr ⟨_, _, rfl, rfl, h3⟩
  rw [if_neg e3, if_neg e3]; exact .inl ⟨rfl, rfl⟩
theorem S3_of {a b c : Sg} {Q : Sg → Prop} (h1 : Q a) (h2 : Q b) (h3 : Q c) : ∀ f s, S3 a b c f = some s → Q s := fun f s e => by
  unfold S3 at e
  split at e
  · cases e; exact h1
  split at e
  · cases e; exact h2
  split at e
  · cases e; exact h3
  · cases e
theorem rd_bools {G : PM} : ∀ (fs : List Bool), RdGs G (fs.map Value.bool) (fs.map PyData.bool)
  | [] => .nil
  | _ :: fs => .cons .bool (rd_bools fs)
noncomputable def rowD (s : Sg) (ss : List Str) : PyData := .tuple [.tuple (s.flags.map .bool), .tuple (ss.map .str), .bool s.div]
inductive RowA (G : PM) (v : Value) (s : Sg) : Prop
  | mk : ∀ ss, (ss.Perm s.free) → (sortedS ss = true) → (RdG G v (rowD s ss)) → RowA G v s
section
variable {D : Wd} {A : Around} {F : Fn} {G C G' C' : PM} {m : LM} {h : Heap} {env : Env} {pos : Pos}
theorem row_ok {v : Value} {s : Sg} (R : Room A 2) (hv : SigA D G v s) (h1 : s.flags.length ≤ 2) (h2 : s.free.length ≤ 3) : CodeOk D A (.ref 408) [v] G C (fun r G' C' => C' = C ∧ RowA G' r s) := by
  refine codeOk_def (binds := [(sS "self", v)]) (look408 _) (by kernel_rfl) (R.le (by exact Nat.le_of_ble_eq_true rfl : 1 ≤ _)).lt (fun s X => BindsTo.of_eq rfl) (locs rfl) ?_ (by decide)
  intro F hG hC env₀ A₀ m₀ Q₀ q₀
  obtain ⟨a, lf, df, rfl, hi, hlf, hdf⟩ := hv
  refine B.cons ?_
  repeat tb_start
  refine B.tuple ?_
  repeat tb_start
  refine B.tupleOf (.inl hlf) (by rw [List.length_map, sizeLine_eq]; lia) (fun ta G1 g1 hta => ?_)
  repeat tb_start
  refine B.sortedD R.hd (hdf.up g1) (by rw [tt_len]; lia) (fun la G2 vs ss g2 hla hst hpm hso => ?_)
  have hkeys : (tt s.free).map (·.1) = s.free := by unfold tt; rw [List.map_map]; exact List.map_id' _
  rw [hkeys] at hpm
  repeat tb_start
  have hvl : vs.length ≤ 3 := by rw [strsAre_len hst, hpm.length_eq]; exact h2
  refine B.tupleOf (.inl hla) (by rw [sizeLine_eq]; lia) (fun tb G3 g3 htb => ?_)
  repeat tb_start
  refine ⟨Nat.le_of_ble_eq_true rfl, fun tr G4 g4 htr => ?_⟩
  repeat tb_start
  refine ⟨rfl, ss, hpm, hso, ?_⟩
  refine RdG.tuple htr (.cons (RdG.tuple (hta.up ((g2.trans g3).trans g4)) (rd_bools _)) (.cons (RdG.tuple (htb.up g4) (rd_strs hst)) (.cons .bool .nil)))
end
theorem eqv_bools : ∀ (a b : List Bool), PyData.eqvAll (a.map .bool) (b.map .bool) = decide (a = b)
  | [], [] => by simp [PyData.eqvAll]
  | [], _ :: _ => by simp [PyData.eqvAll]
  | _ :: _, [] => by simp [PyData.eqvAll]
  | x :: a, y :: b => by
    simp only [List.map_cons, PyData.eqvAll, eqv_bools a b]
    cases x <;> cases y <;> simp [PyData.eqv]
theorem eqv_strs : ∀ (a b : List Str), PyData.eqvAll (a.map .str) (b.map .str) = decide (a = b)
  | [], [] => by simp [PyData.eqvAll]
  | [], _ :: _ => by simp [PyData.eqvAll]
  | _ :: _, [] => by simp [PyData.eqvAll]
  | x :: a, y :: b => by
    simp only [List.map_cons, PyData.eqvAll, eqv_strs a b]
    by_cases h : x = y
    · simp [PyData.eqv, h]
    · simp [PyData.eqv, h]
theorem row_eqv (s s' : Sg) (ss ss' : List Str) : PyData.eqv (rowD s ss) (rowD s' ss') = decide (s.flags = s'.flags ∧ ss = ss' ∧ s.div = s'.div) := by
  unfold rowD
  simp only [PyData.eqv, PyData.eqvAll, eqv_bools, eqv_strs]
  rw [Bool.eq_iff_iff]
  simp
noncomputable def leS (a b : Str) : Prop := PySem.Spec.ltCps b.cps.toList a.cps.toList = false
theorem leS_anti {a b : Str} (h : leS a b) (k : leS b a) : a = b := by
  unfold leS at h k
  rw [ltCps_eq, decide_eq_false_iff_not] at h k
  have e : a.cps.toList = b.cps.toList := List.le_antisymm h k
  have e2 : a.cps = b.cps := Array.toList_inj.mp e
  cases a; cases b; simp only at e2; rw [e2]
theorem leS_trans {a b c : Str} (h : leS a b) (k : leS b c) : leS a c := by
  unfold leS at h k ⊢
  rw [ltCps_eq, decide_eq_false_iff_not] at h k ⊢
  exact List.le_trans (l₁ := a.cps.toList) (l₂ := b.cps.toList) (l₃ := c.cps.toList) h k
theorem rising_all : ∀ (l : List Str) (p : Str), risingS p l = true → l.Pairwise leS ∧ ∀ x ∈ l, leS p x
  | [], p, _ => ⟨.nil, by simp⟩
  | x :: l, p, h => by
    simp only [risingS, Bool.and_eq_true, Bool.not_eq_true'] at h
    obtain ⟨h1, h2⟩ := rising_all l x h.2
    have hp : leS p x := h.1
    refine ⟨.cons h2 h1, fun y hy => ?_⟩
    rcases List.mem_cons.mp hy with rfl | hy
    · exact hp
    · exact leS_trans hp (h2 y hy)
theorem sorted_pw {l : List Str} (h : sortedS l = true) : l.Pairwise leS := by
  cases l with
  | nil => exact .nil
  | cons x l => obtain ⟨a, b⟩ := rising_all l x h; exact .cons b a
theorem sorted_uniq : ∀ {l k : List Str}, l.Perm k → l.Pairwise leS → k.Pairwise leS → l = k
  | [], k, h, _, _ => (List.nil_perm.mp h).symm
  | x :: l, [], h, _, _ => absurd h.length_eq (by simp)
  | x :: l, y :: k, h, h1, h2 => by
    rw [List.pairwise_cons] at h1 h2
    have hx : x ∈ y :: k := h.mem_iff.mp (by simp)
    have hy : y ∈ x :: l := h.mem_iff.mpr (by simp)
    have e : x = y := by
      rcases List.mem_cons.mp hx with e | hx
      · exact e
      rcases List.mem_cons.mp hy with e | hy
      · exact e.symm
      exact leS_anti (h1.1 y hy) (h2.1 x hx)
    subst e
    rw [sorted_uniq (List.Perm.cons_inv h) h1.2 h2.2]
/-- the rows are alike just when the signatures are -/
theorem row_same {s s' : Sg} (w : SgW s) (w' : SgW s') {ss ss' : List Str} (p : ss.Perm s.free) (p' : ss'.Perm s'.free) (h : sortedS ss = true) (h' : sortedS ss' = true) : (s.flags = s'.flags ∧ ss = ss' ∧ s.div = s'.div) ↔ SameSg s s' := by
  constructor
  · rintro ⟨a, b, c⟩
    subst b
    exact ⟨a, fun x => (p.mem_iff.symm.trans p'.mem_iff), c⟩
  · rintro ⟨a, b, c⟩
    refine ⟨a, ?_, c⟩
    refine sorted_uniq ?_ (sorted_pw h) (sorted_pw h')
    refine p.trans (.trans ?_ p'.symm)
    exact (List.perm_ext_iff_of_nodup w.nd w'.nd).mpr b
noncomputable def tri (a b c : Value) : List (Str × Value) := [(sS "f", a), (sS "g", b), (sS "h", c)]
/-- the first j of three signatures -/
inductive FoundA (D : Wd) (G : PM) (j : Nat) (kvs : List (Str × Value)) (a b c : Sg) : Prop
  | mk : ∀ va vb vc, (kvs = (tri va vb vc).take j) → ((0 < j → SigA D G va a)) → ((1 < j → SigA D G vb b)) → ((2 < j → SigA D G vc c)) → FoundA D G j kvs a b c
theorem FoundA.up {D : Wd} {G G' : PM} {j : Nat} {kvs : List (Str × Value)} {a b c : Sg} (g : GLe G G') (h : FoundA D G j kvs a b c) : FoundA D G' j kvs a b c := by
  obtain ⟨va, vb, vc, e, h1, h2, h3⟩ := h
  exact ⟨va, vb, vc, e, fun z => (h1 z).up g, fun z => (h2 z).up g, fun z => (h3 z).up g⟩
theorem FoundA.sigs {D : Wd} {G : PM} {kvs : List (Str × Value)} {a b c : Sg} (h : FoundA D G 3 kvs a b c) : SigsA D G kvs (S3 a b c) := by
  obtain ⟨va, vb, vc, rfl, h1, h2, h3⟩ := h
  intro x
  unfold S3
  by_cases e1 : x = sS "f"
  · subst e1; rw [if_pos rfl]; exact .inr ⟨_, va, rfl, rfl, h1 (by decide)⟩
  rw [if_neg e1]
  by_cases e2 : x = sS "g"
  · subst e2; rw [if_pos rfl]; exact .inr ⟨_, vb, rfl, rfl, h2 (by decide)⟩
  rw [if_neg e2]
  by_cases e3 : x = sS "h"
  · subst e3; rw [if_pos rfl]; exact .inr ⟨_, vc, rfl, rfl, h3 (by decide)⟩
  rw [if_neg e3]
  refine .inl ⟨rfl, valueAt_none ?_⟩
  simp [tri, e1, e2, e3]
theorem found_zero {D : Wd} {G : PM} {a b c : Sg} : FoundA D G 0 [] a b c := ⟨.none, .none, .none, rfl, fun z => absurd z (by decide), fun z => absurd z (by decide), fun z => absurd z (by decide)⟩
theorem found_step {D : Wd} {G : PM} {i : Nat} {k : Str} {kvs : List (Str × Value)} {v : Value} {a b c : Sg} (h : [sS "f", sS "g", sS "h"][i]? = some k) (fo : FoundA D G i kvs a b c) (hv : ∀ s, [a, b, c][i]? = some s → SigA D G v s) : FoundA D G (i + 1) (stored kvs k v) a b c := by
  obtain ⟨va, vb, vc, rfl, h1, h2, h3⟩ := fo
  match i, h with
  | 0, h => cases h; exact ⟨v, vb, vc, rfl, fun _ => hv a rfl, fun z => absurd z (by decide), fun z => absurd z (by decide)⟩
  | 1, h => cases h; exact ⟨va, v, vc, rfl, fun _ => h1 (by decide), fun _ => hv b rfl, fun z => absurd z (by decide)⟩
  | 2, h => cases h; exact ⟨va, vb, v, rfl, fun _ => h1 (by decide), fun _ => h2 (by decide), fun _ => hv c rfl⟩
  | i + 3, h => simp at h
theorem found_get {D : Wd} {G : PM} {n j : Nat} {k : Str} {kvs : List (Str × Value)} {a b c : Sg} (h : FoundA D G n kvs a b c) (hj : j < n) (hk : [sS "f", sS "g", sS "h"][j]? = some k) : Ex2 fun v s => And3 (valueAt kvs k = some v) ([a, b, c][j]? = some s) (SigA D G v s) := by
  obtain ⟨va, vb, vc, rfl, h1, h2, h3⟩ := h
  match n, j, hj, hk with
  | n + 1, 0, _, hk => cases hk; exact ⟨va, a, by cases n <;> rfl, rfl, h1 (by exact Nat.le_of_ble_eq_true rfl)⟩
  | n + 2, 1, _, hk => cases hk; exact ⟨vb, b, by cases n <;> rfl, rfl, h2 (by exact Nat.le_of_ble_eq_true rfl)⟩
  | n + 3, 2, _, hk => cases hk; exact ⟨vc, c, by cases n <;> rfl, rfl, h3 (by exact Nat.le_of_ble_eq_true rfl)⟩
  | n, j + 3, _, hk => simp at hk
theorem shaped_row {s : Sg} {ss : List Str} (h : ∀ x ∈ ss, PyData.strOk x = true) : PySem.SeqAt.shaped (rowD s ss) = true := by
  have h1 : PyData.canLayAll0 (ss.map .str) = true := by
    induction ss with
    | nil => simp [PyData.canLayAll0]
    | cons x r ih => simp only [List.map_cons, PyData.canLayAll0, PyData.canLay0, h x (by simp), ih fun y hy => h y (by simp [hy]), Bool.and_self]
  have h2 : ∀ ss : List Str, PyData.depthAll (ss.map PyData.str) = 0 := by
    intro ss
    induction ss with
    | nil => simp [PyData.depthAll]
    | cons x r ih => simp [PyData.depthAll, PyData.depth, ih]
  have h3 : ∀ fs : List Bool, PyData.canLayAll0 (fs.map PyData.bool) = true := by
    intro fs
    induction fs with
    | nil => simp [PyData.canLayAll0]
    | cons x r ih => simp [PyData.canLayAll0, PyData.canLay0, ih]
  have h4 : ∀ fs : List Bool, PyData.depthAll (fs.map PyData.bool) = 0 := by
    intro fs
    induction fs with
    | nil => simp [PyData.depthAll]
    | cons x r ih => simp [PyData.depthAll, PyData.depth, ih]
  unfold PySem.SeqAt.shaped rowD
  simp [PyData.canLay0, PyData.canLayAll0, h1, h3, PyData.depth, PyData.depthAll, h2, h4]
/-- the three functions in the heap -/
structure FunsA (D : Wd) (G : PM) (d : Addr) (lf lg lh : Addr) (p : PgL) : Prop where
  d : DcA D G d (tri (.ref lf) (.ref lg) (.ref lh))
  f : LamA G lf p.fps p.fb
  g : LamA G lg p.gps p.gb
  h : LamA G lh p.hps p.hb
theorem FunsA.up {D : Wd} {G G' : PM} {d lf lg lh : Addr} {p : PgL} (g : GLe G G') (k : FunsA D G d lf lg lh p) : FunsA D G' d lf lg lh p := ⟨k.d.up g, k.f.up g, k.g.up g, k.h.up g⟩
theorem PgL.Good.len2 {p : PgL} (h : p.Good) {f : N} {ps : List N} {b : Tm} (e : p.tops f = some ⟨ps, b⟩) : ps.length ≤ 2 := by
  unfold PgL.tops at e
  have h1 := h.f1; have h2 := h.g2; have h3 := h.h2
  split at e
  · cases e; lia
  split at e
  · cases e; lia
  split at e
  · cases e; lia
  · cases e
theorem FunsA.nth {D : Wd} {G : PM} {d lf lg lh : Addr} {p : PgL} (k : FunsA D G d lf lg lh p) {i : Nat} {n : Str} {x : Value} (h : (tri (.ref lf) (.ref lg) (.ref lh))[i]? = some (n, x)) :
    [sS "f", sS "g", sS "h"][i]? = some n ∧ Ex3 fun la ps b => And5 (x = .ref la) (valueAt (tri (.ref lf) (.ref lg) (.ref lh)) n = some (.ref la)) (LamA G la ps b) (p.tops n = some ⟨ps, b⟩) ([(⟨p.fps, p.fb⟩ : Fd), ⟨p.gps, p.gb⟩, ⟨p.hps, p.hb⟩][i]? = some ⟨ps, b⟩) := by
  match i, h with
  | 0, h => cases h; exact ⟨rfl, lf, _, _, rfl, rfl, k.f, rfl, rfl⟩
  | 1, h => cases h; exact ⟨rfl, lg, _, _, rfl, rfl, k.g, rfl, rfl⟩
  | 2, h => cases h; exact ⟨rfl, lh, _, _, rfl, rfl, k.h, rfl, rfl⟩
  | i + 3, h => simp [tri] at h
theorem nth_map {i : Nat} {f g h fd : Fd} {F : Fd → Sg} {s : Sg} (e : [f, g, h][i]? = some fd) (k : [F f, F g, F h][i]? = some s) : s = F fd := by
  match i, e, k with
  | 0, e, k => cases e; cases k; rfl
  | 1, e, k => cases e; cases k; rfl
  | 2, e, k => cases e; cases k; rfl
  | i + 3, e, k => simp at e
theorem tops_mem {p : PgL} {x : N} (h : (p.tops x).isSome = true) : x ∈ [sS "f", sS "g", sS "h"] := by
  unfold PgL.tops at h
  by_cases e1 : x = sS "f"
  · simp [e1]
  by_cases e2 : x = sS "g"
  · simp [e2]
  by_cases e3 : x = sS "h"
  · simp [e3]
  rw [if_neg e1, if_neg e2, if_neg e3] at h; cases h
theorem three {Q : Sg → Prop} {a b c s : Sg} {i : Nat} (h1 : Q a) (h2 : Q b) (h3 : Q c) (h : [a, b, c][i]? = some s) : Q s := by
  match i, h with
  | 0, h => cases h; exact h1
  | 1, h => cases h; exact h2
  | 2, h => cases h; exact h3
  | i + 3, h => simp at h
theorem names_okk {p : PgL} {x : N} (h : (p.tops x).isSome = true) : PyData.strOk x = true := by
  have := tops_mem h
  simp only [List.mem_cons, List.not_mem_nil, or_false] at this
  rcases this with rfl | rfl | rfl <;> decide +kernel
/-- a state of the search: each is well made, and the next is below it -/
structure ST (p : PgL) (a b c : Sg) : Prop where
  pa : SgP p.tops ⟨p.fps, p.fb⟩ a
  pb : SgP p.tops ⟨p.gps, p.gb⟩ b
  pc : SgP p.tops ⟨p.hps, p.hb⟩ c
  la : SgLe (sigOf (S3 a b c) ⟨p.fps, p.fb⟩) a
  lb : SgLe (sigOf (S3 a b c) ⟨p.gps, p.gb⟩) b
  lc : SgLe (sigOf (S3 a b c) ⟨p.hps, p.hb⟩) c
theorem st_zero {p : PgL} (gd : p.Good) : ST p (hopeSg ⟨p.fps, p.fb⟩) (hopeSg ⟨p.gps, p.gb⟩) (hopeSg ⟨p.hps, p.hb⟩) :=
  ⟨hope_p (gd.len2 (f := sS "f") rfl), hope_p (gd.len2 (f := sS "g") rfl), hope_p (gd.len2 (f := sS "h") rfl), hope_top (sigOf_len _ _), hope_top (sigOf_len _ _), hope_top (sigOf_len _ _)⟩
theorem all_same {a b c a' b' c' : Sg} (h1 : SameSg a' a) (h2 : SameSg b' b) (h3 : SameSg c' c) : ∀ i < 3, ∀ s s', [a', b', c'][i]? = some s → [a, b, c][i]? = some s' → SameSg s s' := by
  intro i hi s s' e e'
  match i, hi, e, e' with
  | 0, _, e, e' => cases e; cases e'; exact h1
  | 1, _, e, e' => cases e; cases e'; exact h2
  | 2, _, e, e' => cases e; cases e'; exact h3
theorem same_le {s s' : Sg} (h : SameSg s s') : SgLe s' s := ⟨by rw [h.1], by
  cases q : s.div with
  | true => exact .inl rfl
  | false => exact .inr ⟨h.2.2 ▸ q, fun i e => by rw [h.1]; exact e, fun x hx => (h.2.1 x).mpr hx⟩⟩
theorem same_anti {s s' : Sg} (h : SgLe s s') (k : SgLe s' s) (w : SgW s) (w' : SgW s') : SameSg s s' := by
  rcases sgM_drop h w w' with l | ⟨_, e⟩
  · rcases sgM_drop k w' w with l' | ⟨l', _⟩
    · lia
    · lia
  · exact e
theorem st_next {p : PgL} {a b c : Sg} (st : ST p a b c) (s1 : SgP p.tops ⟨p.fps, p.fb⟩ (sigOf (S3 a b c) ⟨p.fps, p.fb⟩)) (s2 : SgP p.tops ⟨p.gps, p.gb⟩ (sigOf (S3 a b c) ⟨p.gps, p.gb⟩)) (s3 : SgP p.tops ⟨p.hps, p.hb⟩ (sigOf (S3 a b c) ⟨p.hps, p.hb⟩)) :
    ST p (sigOf (S3 a b c) ⟨p.fps, p.fb⟩) (sigOf (S3 a b c) ⟨p.gps, p.gb⟩) (sigOf (S3 a b c) ⟨p.hps, p.hb⟩) :=
  have l := S3_le st.la st.lb st.lc
  ⟨s1, s2, s3, sig_mono l _, sig_mono l _, sig_mono l _⟩
theorem st_cons {p : PgL} {a b c : Sg} (st : ST p a b c) (s1 : SgP p.tops ⟨p.fps, p.fb⟩ (sigOf (S3 a b c) ⟨p.fps, p.fb⟩)) (s2 : SgP p.tops ⟨p.gps, p.gb⟩ (sigOf (S3 a b c) ⟨p.gps, p.gb⟩)) (s3 : SgP p.tops ⟨p.hps, p.hb⟩ (sigOf (S3 a b c) ⟨p.hps, p.hb⟩))
    (n1 : ∀ S : Sgs, (∀ f s, S f = some s → ∀ x ∈ s.free, (p.tops x).isSome = true) → SgP p.tops ⟨p.fps, p.fb⟩ (sigOf S ⟨p.fps, p.fb⟩)) (n2 : ∀ S : Sgs, (∀ f s, S f = some s → ∀ x ∈ s.free, (p.tops x).isSome = true) → SgP p.tops ⟨p.gps, p.gb⟩ (sigOf S ⟨p.gps, p.gb⟩))
    (n3 : ∀ S : Sgs, (∀ f s, S f = some s → ∀ x ∈ s.free, (p.tops x).isSome = true) → SgP p.tops ⟨p.hps, p.hb⟩ (sigOf S ⟨p.hps, p.hb⟩))
    (e1 : SameSg (sigOf (S3 a b c) ⟨p.fps, p.fb⟩) a) (e2 : SameSg (sigOf (S3 a b c) ⟨p.gps, p.gb⟩) b) (e3 : SameSg (sigOf (S3 a b c) ⟨p.hps, p.hb⟩) c) :
    Cons p.tops (S3 (sigOf (S3 a b c) ⟨p.fps, p.fb⟩) (sigOf (S3 a b c) ⟨p.gps, p.gb⟩) (sigOf (S3 a b c) ⟨p.hps, p.hb⟩)) := by
  have l := S3_le st.la st.lb st.lc
  have k := S3_le (same_le e1) (same_le e2) (same_le e3)
  have hm : ∀ f s, S3 (sigOf (S3 a b c) ⟨p.fps, p.fb⟩) (sigOf (S3 a b c) ⟨p.gps, p.gb⟩) (sigOf (S3 a b c) ⟨p.hps, p.hb⟩) f = some s → ∀ x ∈ s.free, (p.tops x).isSome = true := S3_of (Q := fun s => ∀ x ∈ s.free, (p.tops x).isSome = true) s1.m s2.m s3.m
  intro x
  by_cases h1 : x = sS "f"
  · subst h1; exact .inr ⟨_, _, rfl, rfl, same_anti (sig_mono k _) (sig_mono l _) s1.w (n1 _ hm).w⟩
  by_cases h2 : x = sS "g"
  · subst h2; exact .inr ⟨_, _, rfl, rfl, same_anti (sig_mono k _) (sig_mono l _) s2.w (n2 _ hm).w⟩
  by_cases h3 : x = sS "h"
  · subst h3; exact .inr ⟨_, _, rfl, rfl, same_anti (sig_mono k _) (sig_mono l _) s3.w (n3 _ hm).w⟩
  · left
    unfold PgL.tops S3
    rw [if_neg h1, if_neg h2, if_neg h3, if_neg h1, if_neg h2, if_neg h3]
    exact ⟨rfl, rfl⟩
section
variable {D : Wd} {A : Around} {F : Fn} {G C G' C' : PM} {m : LM} {h : Heap} {env : Env} {pos : Pos}
theorem B.eqDictE {a b : Addr} {kvs : List (Str × Value)} {Q : Value → PM → PM → LM → Prop} (ha : DcA D G a kvs) (hb : DcA D G b []) (hk : kvs.length ≠ 0) (hu : A.units < cLine) (q : Q (.bool false) G C m) : B D F A (compareOp .Eq (.ref a) (.ref b)) Q G C m :=
  B.val (· = .bool false) (fun h c Q E tk j => by
    obtain ⟨z1, d1⟩ := rdD c.ok (.inl ha)
    obtain ⟨z2, d2⟩ := rdD c.ok (.inl hb)
    refine keq_eq (s := St D h tk) (r := true) z1 z2 d1 d2 hu (fun z => absurd z hk) ?_
    have e : (kvs.length == ([] : List (Str × Value)).length && true) = false := by simpa using hk
    rw [e]; exact j _ _ rfl) fun _ e => e ▸ q
theorem settled_ok {d e lf lg lh : Addr} {p : PgL} (R : Room A 60) (hf : FunsA D G d lf lg lh p) (he : DcA D G e []) (gd : p.Good) :
    CodeOk D A (.ref 489) [.ref d, .ref e] G C (fun r G' C' => C' = C ∧ Ex5 fun o a b c kvs => And7 (r = .ref o) (DcA D G' o kvs) (FoundA D G' 3 kvs a b c) (SgP p.tops ⟨p.fps, p.fb⟩ a) (SgP p.tops ⟨p.gps, p.gb⟩ b) (SgP p.tops ⟨p.hps, p.hb⟩ c) (Cons p.tops (S3 a b c))) := by
  refine CodeOk.drop ?_
  refine codeOk_cellsB (binds := [(sS "functions", .ref d), (sS "env", .ref e)]) (look489 _) (by kernel_rfl) (R.le (by exact Nat.le_of_ble_eq_true rfl : 1 ≤ _)).lt rfl (by kernel_rfl) ?_
  intro F hG hC G₁ C₁ cs₀ env₀ A₀ m₀ cl Q₀ q₀
  have g0 := cl.g
  have c0 := cl.c
  have k1 := cl.pA (sS "functions") rfl rfl
  have hf1 := hf.up g0
  have he1 := he.up g0
  have R1 : Room A₀ 59 := (R.le (by exact Nat.le_of_ble_eq_true rfl : 59 + 1 ≤ _)).deeper
  refine B.cons ?_
  refine B.asgDictComp (cl := ?cl1) ?x1 ?h11 ?h12 rfl ?h14 rfl rfl rfl rfl ?h15
  case h11 => exact rfl
  case h12 => decide
  case h14 => decide
  case h15 => exact fun _ => rfl
  repeat tb_start
  refine ⟨3, _, fun j ys G' C' => C' = C₁ ∧ FoundA D G' j ys (hopeSg ⟨p.fps, p.fb⟩) (hopeSg ⟨p.gps, p.gb⟩) (hopeSg ⟨p.hps, p.hb⟩), iter_dict R1.h hf1.d, Nat.le_of_ble_eq_true rfl, ⟨rfl, found_zero⟩, ?_, ?_⟩
  · intro j v ys Gj Cj mj Fj hj hFG hFC hgj inv hP
    refine B.opq fun Q₁ q₁ => ?_
    obtain ⟨rfl, fo⟩ := inv
    obtain ⟨k, x, hkx, t, rfl⟩ := hP
    obtain ⟨hk, la, ps, b, rfl, hva, ⟨lp, vb, hi, ⟨vs, hvs, hst⟩, hb⟩, htop, hnth⟩ := (hf1.up hgj).nth hkx
    have hps : ps.length ≤ 2 := gd.len2 htop
    have hlen : vs.length = ps.length := strsAre_len hst
    repeat tb_start
    refine .inl ⟨rfl, ?_⟩
    repeat tb_start
    refine B.itemD (.inl (hf1.d.up hgj)) hva ?_
    repeat tb_start
    refine B.lenL (.inl hvs) (by lia) (fun tk => ?_)
    repeat tb_start
    refine B.callC (hopeful_ok (k := vs.length) (R1.le (by exact Nat.le_of_ble_eq_true rfl)) (by lia)) (fun r2 G3 g3 p2 => ?_)
    obtain ⟨xa, lfl, df, rfl, h1, h2, h3⟩ := p2
    refine ⟨k, t, rfl, rfl, found_step hk (fo.up g3) fun s hs => ?_⟩
    rw [nth_map hnth hs]
    refine ⟨xa, lfl, df, rfl, h1, ?_, h3⟩
    show LsA G3 lfl ((List.replicate ps.length true).map Value.bool)
    rw [List.map_replicate, ← hlen]; exact h2
  · intro ys Gj Cj fo0 Gf hgj inv hgf hlf
    obtain ⟨rfl, fo⟩ := inv
    have g1 : GLe G₁ Gf := hgj.trans hgf
    repeat tb_start
    refine B.dictG (fun ed Ge ge hed => ?_)
    refine B.eqDictE (hf1.d.up (g1.trans ge)) hed (by simp [tri]) (Nat.lt_of_le_of_lt (Nat.le_trans (Nat.le_add_right _ _) R1.u) (by decide : 9800 < cLine)) ?_
    repeat tb_start
    have gz := g1.trans ge
    have hpw : ∀ f ps b, p.tops f = some ⟨ps, b⟩ → ∀ S : Sgs, (∀ f s, S f = some s → ∀ x ∈ s.free, (p.tops x).isSome = true) → SgP p.tops ⟨ps, b⟩ (sigOf S ⟨ps, b⟩) := fun f ps b e S hS => sig_p (ns := [sS "f", sS "g", sS "h"]) (fun x hx => tops_mem hx) (by decide) hS (gd.len2 e) (gd.ps f _ e).2.2.2.1
    refine B.while (1 + 100 + 100 + 100) (fun n G' C' m' => Ex6 fun bm fo kvs a b c => And9 (C' = Cj) (m' (sS "env") = some (.ref e)) (m' (sS "found") = some (.ref fo)) (m' (sS "is_same") = some (.bool bm)) (DcA D G' fo kvs) (FoundA D G' 3 kvs a b c) (ST p a b c) (bm = true → Cons p.tops (S3 a b c)) (n = (if bm then 0 else 1 + sgM a + sgM b + sgM c)))
      ⟨false, fo0, ys, _, _, _, rfl, rfl, rfl, rfl, hlf.up ge, (fo.up hgf).up ge, st_zero gd, fun z => Bool.noConfusion z, rfl⟩ ?_
    intro n Gi Ci mi Fih hg inv Fi
    refine B.opq fun Q₁ q₁ => ?_
    obtain ⟨bm, fo, kvs, a, b, c, rfl, m1, m2, m3, hfo, hfd, st, hcons, hn⟩ := inv
    repeat tb_start
    cases bm with
    | true =>
      repeat tb_start
      exact ⟨c0, fo, a, b, c, kvs, rfl, hfo, hfd, st.pa, st.pb, st.pc, hcons rfl⟩
    | false =>
      repeat tb_start
      obtain ⟨va, vb, vc, hkv, s1, s2, s3⟩ := id hfd
      refine B.asgTupleW (names := [sS "known", sS "is_same"]) R1.h ?_ rfl rfl
      refine B.tuple ?_
      repeat tb_start
      have hk3 : kvs = tri va vb vc := hkv
      refine B.callX (extended_ok (R1.le (by exact Nat.le_of_ble_eq_true rfl)) ((he1.up gz).up hg) hfo (by rw [hk3]; simp [tri])) (fun ka G5 g5 hka => ?_)
      have hka' : DcA D G5 ka kvs := by rw [hk3] at hka ⊢; exact hka
      repeat tb_start
      refine ⟨Nat.le_of_ble_eq_true rfl, fun ta Gt gt htp => ?_⟩
      refine ⟨ta, _, rfl, htp, rfl, ?_⟩
      refine B.inOrder ?_
      repeat tb_start
      refine B.inOrder ?_
      repeat tb_start
      refine B.inOrder0 ?_
      repeat tb_start
      refine B.dictC (fun dl ol hgl hcl hfl hzl hol => ?_)
      repeat tb_start
      refine B.for ?x
      repeat tb_start
      have gt5 := g5.trans gt
      have gzi : GLe G₁ Gt := (gz.trans hg).trans gt5
      have hfun := hf1.up gzi
      have hfd5 := hfd.up gt5
      have hfo5 := hfo.up gt5
      have henv : EnvA D Gt ka (S3 a b c) := ⟨kvs, hka'.up gt, by rw [hk3]; simp [tri], hfd5.sigs⟩
      have hzS : SzS (S3 a b c) := S3_of (Q := fun s => s.free.length ≤ 3 ∧ s.flags.length ≤ 2) ⟨st.pa.w.l3, st.pa.w.l2⟩ ⟨st.pb.w.l3, st.pb.w.l2⟩ ⟨st.pc.w.l3, st.pc.w.l2⟩
      have hmS : ∀ f s, S3 a b c f = some s → ∀ x ∈ s.free, (p.tops x).isSome = true := S3_of (Q := fun s => ∀ x ∈ s.free, (p.tops x).isSome = true) st.pa.m st.pb.m st.pc.m
      refine ⟨3, _, fun j G' C' m' => Ex3 fun ol kl bj => And9 (C' = up Ci dl ol) (ol.IsDictOf (PySem.strKind Pw D.w) kl) (FoundA D G' j kl (sigOf (S3 a b c) ⟨p.fps, p.fb⟩) (sigOf (S3 a b c) ⟨p.gps, p.gb⟩) (sigOf (S3 a b c) ⟨p.hps, p.hb⟩)) (m' (sS "env") = some (.ref e)) (m' (sS "found") = some (.ref fo)) (m' (sS "known") = some (.ref ka)) (m' (sS "later") = some (.ref dl)) (m' (sS "is_same") = some (.bool bj)) (bj = true ↔ ∀ i < j, ∀ s s', [sigOf (S3 a b c) ⟨p.fps, p.fb⟩, sigOf (S3 a b c) ⟨p.gps, p.gb⟩, sigOf (S3 a b c) ⟨p.hps, p.hb⟩][i]? = some s → [a, b, c][i]? = some s' → SameSg s s'), iter_dict R1.h hfun.d,
        ⟨ol, [], true, rfl, hol, found_zero, by walk_at "mine.nm", by walk_at "mine.nm", rfl, rfl, by walk_at "mine.nm", iff_of_true rfl fun i hi => absurd hi (Nat.not_lt_zero _)⟩, ?_, ?_⟩
      · intro j v Gj2 Cj2 mj2 Fjh hj hgj2 inv hP Fj
        refine B.opq fun Q₁ q₁ => ?_
        obtain ⟨ol1, kl, bj, rfl, hol1, hfl1, q1, q2, q3, q4, q5, hbj⟩ := inv
        obtain ⟨k, x, hkx, t, rfl⟩ := hP
        have hfun2 := hfun.up hgj2
        obtain ⟨hk, la, ps, b', rfl, hva, hlam, htop, hnth⟩ := hfun2.nth hkx
        have hgood := gd.ps k _ htop
        have hkl : kl.length ≤ 100 := by obtain ⟨_, _, _, rfl, _⟩ := hfl1; rw [List.length_take]; exact Nat.le_trans (Nat.min_le_right _ _) (Nat.le_of_ble_eq_true rfl)
        repeat tb_start
        refine B.itemD (.inl hfun2.d) hva ?_
        repeat tb_start
        refine B.callC (sig_ok (R1.le (by exact Nat.le_of_ble_eq_true rfl)) hlam (gd.len2 htop) hgood.2.2.1 hgood.2.2.2.2 (henv.up hgj2) hzS) (fun r6 G6 g6 p6 => ?_)
        repeat tb_start
        refine B.setD up_self hol1 (by rw [sizeLine_eq]; lia) (fun o7 ho7 => ?_)
        rw [up_up]
        have hfl2 := found_step hk (hfl1.up g6) (v := r6) fun s hs => by rw [nth_map (F := sigOf (S3 a b c)) hnth hs]; exact p6
        repeat tb_start
        obtain ⟨v1, w1, hv1, hw1, hs1⟩ := found_get hfl2 (Nat.lt_succ_self j) hk
        obtain ⟨v2, w2, hv2, hw2, hs2⟩ := found_get ((hfd5.up hgj2).up g6) hj hk
        have hlow : ∀ i < j + 1, i = j ∨ i < j := fun i hi => by lia
        refine B.boolAnd ?_
        repeat tb_start
        cases bj with
        | false =>
          refine iteF ?_
          repeat tb_start
          refine ⟨o7, _, false, rfl, ho7, hfl2, by walk_at "mine.nm", by walk_at "mine.nm", by walk_at "mine.nm", by walk_at "mine.nm", rfl, ⟨fun z => Bool.noConfusion z, fun z => ?_⟩⟩
          exact hbj.mpr fun i hi => z i (Nat.lt_succ_of_lt hi)
        | true =>
          refine iteT ?_
          refine B.boolOne ?_
          repeat tb_start
          have hs10 := hs1
          have hs20 := hs2
          obtain ⟨xa1, lf1, df1, rfl, hi1, _, _⟩ := hs1
          obtain ⟨xa2, lf2, df2, rfl, hi2, _, _⟩ := hs2
          have sp1 : SgP p.tops ⟨ps, b'⟩ w1 := by
            have e := nth_map (F := sigOf (S3 a b c)) hnth hw1
            rw [e]; exact hpw k ps b' htop _ hmS
          have sp2 : SgW w2 := three (Q := SgW) st.pa.w st.pb.w st.pc.w hw2
          have sm2 : ∀ x ∈ w2.free, (p.tops x).isSome = true := three (Q := fun s => ∀ x ∈ s.free, (p.tops x).isSome = true) st.pa.m st.pb.m st.pc.m hw2
          refine B.itemD (.inr ⟨hzl, o7, up_self, ho7⟩) hv1 ?_
          repeat tb_start
          refine B.getMeth (f := 408) (.inl hi1) rfl ?gm1 ?gm2 ?gm3 ?_
          case gm1 => kernel_rfl
          case gm2 => kernel_rfl
          case gm3 => kernel_rfl
          repeat tb_start
          refine B.callC (row_ok (R1.le (by exact Nat.le_of_ble_eq_true rfl)) hs10 sp1.w.l2 sp1.w.l3) (fun r8 G8 g8 p8 => ?_)
          repeat tb_start
          refine B.itemD (.inl ((hfo5.up hgj2).up (g6.trans g8))) hv2 ?_
          repeat tb_start
          refine B.getMeth (f := 408) (.inl (hi2.up g8)) rfl ?gn1 ?gn2 ?gn3 ?_
          case gn1 => kernel_rfl
          case gn2 => kernel_rfl
          case gn3 => kernel_rfl
          repeat tb_start
          refine B.callC (row_ok (R1.le (by exact Nat.le_of_ble_eq_true rfl)) (hs20.up g8) sp2.l2 sp2.l3) (fun r9 G9 g9 p9 => ?_)
          repeat tb_start
          obtain ⟨ss1, pm1, so1, rd1⟩ := p8
          obtain ⟨ss2, pm2, so2, rd2⟩ := p9
          refine B.eqData (rd1.up g9) rd2 (shaped_row fun x hx => names_okk (sp1.m x (pm1.mem_iff.mp hx))) (shaped_row fun x hx => names_okk (sm2 x (pm2.mem_iff.mp hx))) (Nat.lt_of_le_of_lt (by have := R1.u; exact Nat.le_trans (Nat.add_le_add_left (by decide : 64 ≤ 10 * 59) _) this) (by decide : 9800 < cLine)) ?_
          rw [row_eqv]
          repeat tb_start
          refine ⟨o7, _, _, rfl, ho7, hfl2.up (g8.trans g9), by walk_at "mine.nm", by walk_at "mine.nm", by walk_at "mine.nm", by walk_at "mine.nm", rfl, ?_⟩
          rw [decide_eq_true_iff, row_same sp1.w sp2 pm1 pm2 so1 so2]
          constructor
          · intro hsame i hi s s' e1 e2
            rcases hlow i hi with rfl | hi
            · rw [hw1] at e1; rw [hw2] at e2; cases e1; cases e2; exact hsame
            · exact hbj.mp rfl i hi s s' e1 e2
          · intro hall
            exact hall j (Nat.lt_succ_self j) w1 w2 hw1 hw2
      · intro Gj2 Cj2 mj2 hgj2 inv
        obtain ⟨ol1, kl, bj, rfl, hol1, hfl1, q1, q2, q3, q4, q5, hbj⟩ := inv
        refine Then.next ?_
        refine B.freeze2 up_self hfl (fun G7 g7 h7 => ?_)
        rw [rm_up1 hcl]
        repeat tb_start
        have sp1 : SgP p.tops ⟨p.fps, p.fb⟩ _ := hpw (sS "f") _ _ rfl (S3 a b c) hmS
        have sp2 : SgP p.tops ⟨p.gps, p.gb⟩ _ := hpw (sS "g") _ _ rfl (S3 a b c) hmS
        have sp3 : SgP p.tops ⟨p.hps, p.hb⟩ _ := hpw (sS "h") _ _ rfl (S3 a b c) hmS
        refine ⟨_, ?_, bj, dl, kl, _, _, _, rfl, by walk_at "mine.nm", by walk_at "mine.nm", by walk_at "mine.nm", ⟨hzl, ol1, h7, hol1⟩, hfl1.up g7, st_next st sp1 sp2 sp3, fun hb => ?_, rfl⟩
        · rw [hn]
          cases bj with
          | true => simp only [Bool.false_eq_true, if_false, if_true]; lia
          | false =>
            have hno : ¬ _ := fun z => Bool.noConfusion (hbj.mpr z)
            simp only [Bool.false_eq_true, if_false]
            rcases sgM_drop st.la sp1.w st.pa.w with d1 | ⟨d1, m1⟩ <;> rcases sgM_drop st.lb sp2.w st.pb.w with d2 | ⟨d2, m2⟩ <;> rcases sgM_drop st.lc sp3.w st.pc.w with d3 | ⟨d3, m3⟩ <;> first
              | lia
              | exact absurd (all_same m1 m2 m3) hno
              | fail "measure"
        · have hall := hbj.mp hb
          exact st_cons st sp1 sp2 sp3 (hpw (sS "f") _ _ rfl) (hpw (sS "g") _ _ rfl) (hpw (sS "h") _ _ rfl) (hall 0 (by decide) _ _ rfl rfl) (hall 1 (by decide) _ _ rfl rfl) (hall 2 (by decide) _ _ rfl rfl)
end
section
variable {D : Wd} {A : Around} {F : Fn} {G C G' C' : PM} {m : LM} {h : Heap} {env : Env} {pos : Pos}
/-- what settled tells -/
inductive ToldA (D : Wd) (G : PM) (p : PgL) (o : Addr) (kvs : List (Str × Value)) (a b c : Sg) : Prop
  | mk : (DcA D G o kvs) → (FoundA D G 3 kvs a b c) → (SgP p.tops ⟨p.fps, p.fb⟩ a) → (SgP p.tops ⟨p.gps, p.gb⟩ b) → (SgP p.tops ⟨p.hps, p.hb⟩ c) → (Cons p.tops (S3 a b c)) → ToldA D G p o kvs a b c
theorem PgA.up {lb : Addr} {p : PgL} (g : GLe G G') (h : PgA G lb p) : PgA G' lb p := by
  obtain ⟨t1, t2, t3, t4, t5, lf, lg, lh, vm, vk, k1, k2, k3, k4, k5, hl, h1, h2, h3, h4, h5, f1, f2, f3, m1, m2⟩ := h.of
  exact ⟨t1, t2, t3, t4, t5, lf, lg, lh, vm, vk, k1, k2, k3, k4, k5, hl.up g, h1.up g, h2.up g, h3.up g, h4.up g, h5.up g, f1.up g, f2.up g, f3.up g, m1.up g, m2.up g⟩
theorem PgA.pairs {lb : Addr} {p : PgL} (h : PgA G lb p) : Ex6 fun vs lf lg lh vm vk => And7 (LzA G lb vs) (PySem.Paired (BIsA G) vs [⟨sS "f", .ref lf, true⟩, ⟨sS "g", .ref lg, true⟩, ⟨sS "h", .ref lh, true⟩, ⟨sS "m", vm, false⟩, ⟨sS "k", vk, false⟩]) (LamA G lf p.fps p.fb) (LamA G lg p.gps p.gb) (LamA G lh p.hps p.hb) (TmA G vm p.m) (TmA G vk p.k) := by
  obtain ⟨t1, t2, t3, t4, t5, lf, lg, lh, vm, vk, k1, k2, k3, k4, k5, hl, h1, h2, h3, h4, h5, f1, f2, f3, m1, m2⟩ := h.of
  obtain ⟨am, rfl⟩ := m1.ref
  obtain ⟨ak, rfl⟩ := m2.ref
  refine ⟨_, lf, lg, lh, _, _, hl, .cons ⟨t1, k1, lf, rfl, rfl, h1, .inl ⟨rfl, ?_⟩⟩ (.cons ⟨t2, k2, lg, rfl, rfl, h2, .inl ⟨rfl, ?_⟩⟩ (.cons ⟨t3, k3, lh, rfl, rfl, h3, .inl ⟨rfl, ?_⟩⟩ (.cons ⟨t4, k4, am, rfl, rfl, h4, .inr ⟨rfl, _, m1⟩⟩ (.cons ⟨t5, k5, ak, rfl, rfl, h5, .inr ⟨rfl, _, m2⟩⟩ .nil)))), f1, f2, f3, m1, m2⟩
  · obtain ⟨_, _, i, _⟩ := f1; exact ⟨_, i⟩
  · obtain ⟨_, _, i, _⟩ := f2; exact ⟨_, i⟩
  · obtain ⟨_, _, i, _⟩ := f3; exact ⟨_, i⟩
theorem signatures_ok {pa lb dc : Addr} {mn : Value} {p : PgL} (R : Room A 62) (hi : InA G pa 383 [(sS "binds", .ref lb), (sS "cons", .ref dc), (sS "main", mn)]) (hp : PgA G lb p) (gd : p.Good) :
    CodeOk D A (.ref 513) [.ref pa] G C (fun r G' C' => C' = C ∧ Ex5 fun o a b c kvs => r = .ref o ∧ ToldA D G' p o kvs a b c) := by
  refine codeOk_def (binds := [(sS "program", .ref pa)]) (look513 _) (by kernel_rfl) (R.le (by exact Nat.le_of_ble_eq_true rfl : 1 ≤ _)).lt (fun s X => BindsTo.of_eq rfl) (locs rfl) ?_ (by decide)
  intro F hG hC env₀ A₀ m₀ Q₀ q₀
  obtain ⟨vs, lf, lg, lh, vm, vk, hl, hb, f1, f2, f3, _, _⟩ := hp.pairs
  have R1 : Room A₀ 61 := (R.le (by exact Nat.le_of_ble_eq_true rfl : 61 + 1 ≤ _)).deeper
  refine B.cons ?_
  repeat tb_start
  refine B.callX (functions_ok (R1.le (by exact Nat.le_of_ble_eq_true rfl)) hl.ls hb (show [sS "f", sS "g", sS "h", sS "m", sS "k"].Nodup by decide +kernel) (by simp)) (fun d0 G2 g2 hd0 => ?_)
  repeat tb_start
  refine B.dictG (fun de G3 g3 hde => ?_)
  repeat tb_start
  have hd3 : DcA D G3 d0 (tri (.ref lf) (.ref lg) (.ref lh)) := hd0.up g3
  have g := g2.trans g3
  refine B.callC (settled_ok (R1.le (by exact Nat.le_of_ble_eq_true rfl)) ⟨hd3, f1.up g, f2.up g, f3.up g⟩ hde gd) (fun r4 G4 g4 p4 => ?_)
  obtain ⟨o, a, b, c, kvs, rfl, h1, h2, h3, h4, h5, h6⟩ := p4
  repeat tb_start
  exact ⟨rfl, o, a, b, c, kvs, rfl, h1, h2, h3, h4, h5, h6⟩
inductive FlA (G : PM) (v : Value) (s : Sg) : Prop
  | mk : ∀ l, (v = .ref l) → (LsA G l (s.flags.map .bool)) → FlA G v s
theorem FlA.up {v : Value} {s : Sg} (g : GLe G G') (k : FlA G v s) : FlA G' v s := let ⟨l, e, h⟩ := k; ⟨l, e, h.up g⟩
inductive FlagsA (G : PM) (j : Nat) (kvs : List (Str × Value)) (a b c : Sg) : Prop
  | mk : ∀ va vb vc, (kvs = (tri va vb vc).take j) → ((0 < j → FlA G va a)) → ((1 < j → FlA G vb b)) → ((2 < j → FlA G vc c)) → FlagsA G j kvs a b c
theorem FlagsA.up {j : Nat} {kvs : List (Str × Value)} {a b c : Sg} (g : GLe G G') (h : FlagsA G j kvs a b c) : FlagsA G' j kvs a b c := by
  obtain ⟨va, vb, vc, e, h1, h2, h3⟩ := h
  exact ⟨va, vb, vc, e, fun z => (h1 z).up g, fun z => (h2 z).up g, fun z => (h3 z).up g⟩
theorem flags_zero {a b c : Sg} : FlagsA G 0 [] a b c := ⟨.none, .none, .none, rfl, fun z => absurd z (by decide), fun z => absurd z (by decide), fun z => absurd z (by decide)⟩
theorem flags_step {i : Nat} {k : Str} {kvs : List (Str × Value)} {v : Value} {a b c s : Sg} (h : [sS "f", sS "g", sS "h"][i]? = some k) (fo : FlagsA G i kvs a b c) (hs : [a, b, c][i]? = some s) (hv : FlA G v s) : FlagsA G (i + 1) (stored kvs k v) a b c := by
  obtain ⟨va, vb, vc, rfl, h1, h2, h3⟩ := fo
  match i, h, hs with
  | 0, h, hs => cases h; cases hs; exact ⟨v, vb, vc, rfl, fun _ => hv, fun z => absurd z (by decide), fun z => absurd z (by decide)⟩
  | 1, h, hs => cases h; cases hs; exact ⟨va, v, vc, rfl, fun _ => h1 (by decide), fun _ => hv, fun z => absurd z (by decide)⟩
  | 2, h, hs => cases h; cases hs; exact ⟨va, vb, v, rfl, fun _ => h1 (by decide), fun _ => h2 (by decide), fun _ => hv⟩
  | i + 3, h, _ => simp at h
theorem tri_keys {va vb vc : Value} {i : Nat} {n : Str} {x : Value} (h : (tri va vb vc)[i]? = some (n, x)) : [sS "f", sS "g", sS "h"][i]? = some n := by
  match i, h with
  | 0, h => cases h; rfl
  | 1, h => cases h; rfl
  | 2, h => cases h; rfl
  | i + 3, h => simp [tri] at h
theorem strict_ok {pa lb dc : Addr} {mn : Value} {p : PgL} (R : Room A 64) (hi : InA G pa 383 [(sS "binds", .ref lb), (sS "cons", .ref dc), (sS "main", mn)]) (hp : PgA G lb p) (gd : p.Good) :
    CodeOk D A (.ref 518) [.ref pa] G C (fun r G' C' => C' = C ∧ Ex5 fun o a b c kvs => And7 (r = .ref o) (DcA D G' o kvs) (FlagsA G' 3 kvs a b c) (SgP p.tops ⟨p.fps, p.fb⟩ a) (SgP p.tops ⟨p.gps, p.gb⟩ b) (SgP p.tops ⟨p.hps, p.hb⟩ c) (Cons p.tops (S3 a b c))) := by
  refine CodeOk.drop ?_
  refine codeOk_cellsB (binds := [(sS "program", .ref pa)]) (look518 _) (by kernel_rfl) (R.le (by exact Nat.le_of_ble_eq_true rfl : 1 ≤ _)).lt rfl (by kernel_rfl) ?_
  intro F hG hC G₁ C₁ cs₀ env₀ A₀ m₀ cl Q₀ q₀
  have g0 := cl.g
  have c0 := cl.c
  obtain ⟨oc, hoc, hoc2, hoc3, hoc4⟩ := cl.q (sS "found") _ rfl rfl
  have hi1 := hi.up g0
  have hp1 : PgA G₁ lb p := hp.up g0
  have R1 : Room A₀ 63 := (R.le (by exact Nat.le_of_ble_eq_true rfl : 63 + 1 ≤ _)).deeper
  refine B.cons ?_
  repeat tb_start
  refine B.callC (signatures_ok (R1.le (by exact Nat.le_of_ble_eq_true rfl)) hi1 hp1 gd) (fun r2 G2 g2 p2 => ?_)
  obtain ⟨o, a, b, c, kvs, rfl, ho, hfd, s1, s2, s3, hcons⟩ := p2
  refine B.storeCell (c := F.L + 1) rfl hoc hoc2 (fun o' ho' => ?_)
  have c1 : GLe C (up C₁ (F.L + 1) o') := GLe.upd c0 hoc3
  have clf : ClA (up C₁ (F.L + 1) o') (F.L + 1) (.ref o) := ⟨o', up_self, ho'⟩
  repeat tb_start
  refine B.dictComp (cl := ?cl) ?x1 ?h1 ?h2 rfl ?h4 ?h5
  case h1 => exact rfl
  case h2 => decide
  case h4 => decide
  case h5 => exact fun _ => rfl
  repeat tb_start
  obtain ⟨va, vb, vc, hkv, _, _, _⟩ := id hfd
  have hk3 : kvs = tri va vb vc := hkv
  refine ⟨kvs.length, _, fun j ys G' C' => C' = up C₁ (F.L + 1) o' ∧ FlagsA G' j ys a b c, iter_dict R1.h ho, by rw [hk3]; exact Nat.le_of_ble_eq_true rfl, ⟨rfl, flags_zero⟩, ?_, ?_⟩
  · intro j v ys Gj Cj mj Fj hj hFG hFC hgj inv hP
    refine B.opq fun Q₁ q₁ => ?_
    obtain ⟨rfl, fo⟩ := inv
    obtain ⟨k, x, hkx, t, rfl⟩ := hP
    have hk := tri_keys (by rw [hk3] at hkx; exact hkx)
    have hj3 : j < 3 := by rw [hk3] at hj; exact hj
    obtain ⟨v2, w2, hv2, hw2, hs2⟩ := found_get (hfd.up hgj) hj3 hk
    obtain ⟨xa, lf, df, rfl, hi2, hlf, _⟩ := hs2
    have hl2 : w2.flags.length ≤ 2 := (three (Q := SgW) s1.w s2.w s3.w hw2).l2
    repeat tb_start
    refine .inl ⟨rfl, ?_⟩
    repeat tb_start
    refine B.itemD (.inl (ho.up hgj)) hv2 ?_
    repeat tb_start
    refine B.listOf (.inl hlf) (by rw [List.length_map, sizeLine_eq]; lia) (fun l3 G3 g3 hl3 => ?_)
    exact ⟨k, t, rfl, rfl, flags_step hk (fo.up g3) hw2 ⟨l3, rfl, hl3⟩⟩
  · intro ys Gj Cj d Gd hgj inv hgd hd
    obtain ⟨rfl, fo⟩ := inv
    have e3 : kvs.length = 3 := by rw [hk3]; rfl
    rw [e3] at fo
    repeat tb_start
    exact ⟨c1, d, a, b, c, ys, rfl, hd, fo.up hgd, s1, s2, s3, hcons⟩
end
noncomputable def doneB : Tm → Bool
  | .var _ => true
  | .lit _ => true
  | _ => false
section
variable {D : Wd} {A : Around} {F : Fn} {G C G' C' : PM} {m : LM} {h : Heap} {env : Env} {pos : Pos}
theorem done_ok {v : Value} {t : Tm} (R : Room A 1) (ht : TmA G v t) : CodeOk D A (.ref 525) [v] G C (fun r G' C' => C' = C ∧ r = .bool (doneB t)) := by
  refine codeOk_def (binds := [(sS "expr", v)]) (look525 _) (by kernel_rfl) R.lt (fun s X => BindsTo.of_eq rfl) (locs rfl) ?_ (by decide)
  intro F hG hC env₀ A₀ m₀ Q₀ q₀
  refine B.cons ?_
  repeat tb_start
  cases t with
  | var x =>
    obtain ⟨a, _, rfl, hi⟩ := ht
    refine B.tuple ?_
    repeat tb_start
    refine ⟨Nat.le_of_ble_eq_true rfl, fun ta Gt gt htp => ?_⟩
    repeat tb_start
    walk_at "mine.tyes"
    repeat tb_start
    exact ⟨rfl, rfl⟩
  | lit x =>
    obtain ⟨a, _, _, rfl, hi⟩ := ht
    refine B.tuple ?_
    repeat tb_start
    refine ⟨Nat.le_of_ble_eq_true rfl, fun ta Gt gt htp => ?_⟩
    repeat tb_start
    walk_at "mine.tyes"
    repeat tb_start
    exact ⟨rfl, rfl⟩
  | err =>
    obtain ⟨a, _, _, _, _, _, _, rfl, hi, _⟩ := ht
    refine B.tuple ?_
    repeat tb_start
    refine ⟨Nat.le_of_ble_eq_true rfl, fun ta Gt gt htp => ?_⟩
    repeat tb_start
    walk_at "mine.tno"
    repeat tb_start
    exact ⟨rfl, rfl⟩
  | add x y =>
    obtain ⟨a, _, _, _, _, rfl, hi, _⟩ := ht
    refine B.tuple ?_
    repeat tb_start
    refine ⟨Nat.le_of_ble_eq_true rfl, fun ta Gt gt htp => ?_⟩
    repeat tb_start
    walk_at "mine.tno"
    repeat tb_start
    exact ⟨rfl, rfl⟩
  | case =>
    obtain ⟨a, _, _, _, _, _, _, _, _, _, _, _, rfl, hi, _⟩ := ht
    refine B.tuple ?_
    repeat tb_start
    refine ⟨Nat.le_of_ble_eq_true rfl, fun ta Gt gt htp => ?_⟩
    repeat tb_start
    walk_at "mine.tno"
    repeat tb_start
    exact ⟨rfl, rfl⟩
  | seq =>
    obtain ⟨a, _, _, _, _, rfl, hi, _⟩ := ht
    refine B.tuple ?_
    repeat tb_start
    refine ⟨Nat.le_of_ble_eq_true rfl, fun ta Gt gt htp => ?_⟩
    repeat tb_start
    walk_at "mine.tno"
    repeat tb_start
    exact ⟨rfl, rfl⟩
  | lt =>
    obtain ⟨a, _, _, _, _, _, rfl, hi, _⟩ := ht
    refine B.tuple ?_
    repeat tb_start
    refine ⟨Nat.le_of_ble_eq_true rfl, fun ta Gt gt htp => ?_⟩
    repeat tb_start
    walk_at "mine.tno"
    repeat tb_start
    exact ⟨rfl, rfl⟩
  | ap1 =>
    obtain ⟨a, _, _, _, _, rfl, hi, _⟩ := ht
    refine B.tuple ?_
    repeat tb_start
    refine ⟨Nat.le_of_ble_eq_true rfl, fun ta Gt gt htp => ?_⟩
    repeat tb_start
    walk_at "mine.tno"
    repeat tb_start
    exact ⟨rfl, rfl⟩
  | ap2 =>
    obtain ⟨a, _, _, _, _, _, rfl, hi, _⟩ := ht
    refine B.tuple ?_
    repeat tb_start
    refine ⟨Nat.le_of_ble_eq_true rfl, fun ta Gt gt htp => ?_⟩
    repeat tb_start
    walk_at "mine.tno"
    repeat tb_start
    exact ⟨rfl, rfl⟩
end
/-! the names that forced makes -/
theorem num_inj {a b : Nat} (h : Str.ofString (toString (a : Int)) = Str.ofString (toString (b : Int))) : a = b := by
  have e : (Str.ofString (toString (a : Int))).cps.toList = (Str.ofString (toString (b : Int))).cps.toList := by rw [h]
  rw [PySem.W.KIN.signs_num, PySem.W.KIN.signs_num] at e
  have := congrArg PySem.NumText.digitsVal e
  rwa [PySem.W.KIN.val_back, PySem.W.KIN.val_back] at this
theorem num_len (n : Nat) : (Str.ofString (toString (n : Int))).length ≤ n + 1 := by
  show (Str.ofString (toString (n : Int))).cps.size ≤ _
  rw [← Array.length_toList, PySem.W.KIN.signs_num, List.length_map]
  exact tDigits_len_le 10 n
theorem nm_arg (n : Nat) : NmA (nm "arg" n) := by
  show ((sS "arg").cps ++ (sS ".").cps ++ _)[1]? = some 114
  rw [Array.append_assoc, Array.getElem?_append_left (by decide)]
  rfl
theorem nm_arg_ne {a b : Nat} (h : a ≠ b) : nm "arg" a ≠ nm "arg" b := fun e => h (num_inj (by
  have e : (nm "arg" a).cps.toList = (nm "arg" b).cps.toList := by rw [e]
  have l : ∀ k, (nm "arg" k).cps.toList = [97, 114, 103, 46] ++ (Str.ofString (toString (k : Int))).cps.toList := fun k => by
    show ((sS "arg").cps ++ (sS ".").cps ++ _).toList = _
    rw [Array.toList_append]; rfl
  rw [l, l] at e
  have := List.append_cancel_left e
  have h2 : (Str.ofString (toString (a : Int))).cps = (Str.ofString (toString (b : Int))).cps := Array.toList_inj.mp this
  generalize Str.ofString (toString (a : Int)) = x at *
  generalize Str.ofString (toString (b : Int)) = y at *
  cases x; cases y; cases h2; rfl))
section
variable {D : Wd} {A : Around} {F : Fn} {G C G' C' : PM} {m : LM} {h : Heap} {env : Env} {pos : Pos}
theorem B.methRfind {x : Str} {t : Tok} {pl : Sem Bool} {Q : Value × List Value → PM → PM → LM → Prop} (q : Q (.builtin "str.rfind", [.str x t]) G C m) : B D F A (getMethod (.str x t) "rfind" pl) Q G C m :=
  B.val (· = (.builtin "str.rfind", [.str x t])) (fun h c Q E tk j => PySem.GM.rfind (j _ _ rfl)) fun _ e => e ▸ q
theorem B.rfind {x z : Str} {t u : Tok} {i : Int} {Q : Value → PM → PM → LM → Prop} (e : (Txt.rfind x z : Int) = i) (q : ∀ t, Q (.int i t) G C m) : B D F A (PySem.call (.builtin "str.rfind") [.str x t, .str z u]) Q G C m :=
  B.val (fun v => ∃ t, v = .int i t) (fun h c Q E tk j => PySem.W.KXw.rfind e (fun t' k => j k _ ⟨t', rfl⟩)) fun _ ⟨t, e⟩ => e ▸ q t
theorem B.gc {α : Type} {t : Sem α} {Q : α → PM → PM → LM → Prop} {a : Addr} {o : Obj} (e : C a = some o) (q : G a = none → B D F A t Q G C m) : B D F A t Q G C m := fun hh c tk => q (c.ok.gc _ _ e) hh c tk
/-- xs[::-1] -/
theorem B.revList {value st : PySem.Expr} {p : Pos} {Q : Value → PM → PM → LM → Prop}
    (x : B D F A (eval value env) (fun o => B D F A (eval st env) (fun sv G C m => Ex3 fun l vs t => And5 (o = .ref l) (sv = .int (-1) t) (Rd G C fun M => LsA M l vs) (vs.length ≤ sizeLine) (∀ a G', GLe G G' → LsA G' a vs.reverse → Q (.ref a) G' C m))) G C m)
    (ht : ∀ o r, letTemporaryGo value o r = Pure.pure () := by intro _ _; rfl) : B D F A (eval (.Subscript value (.Slice none none (some st) p) pos) env) Q G C m := fun hh c tk => by
  refine wpAny_Subscript_Slice_step (T := "list") list_getitem_lookup (wpAny_mono (x hh c tk) (fun o s₁ q => ?_) fun _ _ z => z) ht
  obtain ⟨h1, tk1, rfl, G1, C1, m1, c1, q⟩ := q
  refine wpAny_Slice ?_
  rw [evalPart_none, evalPart_some]
  refine wpAny_pure (wpAny_pure (wpAny_mono (q h1 c1 tk1) (fun sv s₂ q => ?_) fun _ _ z => z))
  obtain ⟨h2, tk2, rfl, G2, C2, m2, c2, l, vs, t, rfl, rfl, hl, hz, fin⟩ := q
  have hls := rdL c2.ok hl
  refine ⟨(hls.push _).typeIs, ?_⟩
  refine wpAny_getItem_list_slice (hls.push _) (Heap.IsSliceOf.new ..) .none .none (.int (-1) t) (by decide) ?_ (by simpa using hz)
  rw [krv_pick]
  have hk : ∀ x o, h2.get? x = some o → (h2.push { cls := .type "slice", data := .fields #[.none, .none, .int (-1) t] }).get? x = some o := fun x o e => Heap.get?_push_of_some _ e
  have c3 := c2.after (c2.ok.grow hk) (.grow hk)
  refine ⟨_, tk2, rfl, _, C2, m2, c3.pushG (get_size _) (Heap.get?_push_size _ rfl) (fun x o e => Heap.get?_push_of_some _ e), fin _ _ (.up (c3.ok.fresh_g (get_size _))) ⟨_, up_self, rfl, 0, ?_⟩⟩
  simp
end
section
variable {D : Wd} {A : Around} {F : Fn} {G C G' C' : PM} {m : LM} {h : Heap} {env : Env} {pos : Pos}
theorem base_ok {t : Tok} (R : Room A 1) : CodeOk D A (.ref 578) [.str (sS "arg") t] G C (fun r G' C' => And3 (G' = G) (C' = C) (∃ t, r = .str (sS "arg") t)) := by
  refine codeOk_def (binds := [(sS "name", .str (sS "arg") t)]) (look578 _) (by kernel_rfl) R.lt (fun s X => BindsTo.of_eq rfl) (locs rfl) ?_ (by decide)
  intro F hG hC env₀ A₀ m₀ Q₀ q₀
  refine B.cons ?_
  repeat tb_start
  refine B.methRfind ?_
  repeat tb_start
  refine B.rfind (i := -1) (by decide +kernel) (fun _ => ?_)
  repeat tb_start
  rw [show decide ((-1 : Int) > 0) = false from rfl]
  repeat tb_start
  exact ⟨rfl, rfl, _, rfl⟩
noncomputable def NumO (D : Wd) (o : Obj) (n : Nat) : Prop := (n = 0 ∧ o.IsDictOf (PySem.strKind Pw D.w) []) ∨ (0 < n ∧ ∃ t, o.IsDictOf (PySem.strKind Pw D.w) [(sS "arg", .int n t)])
/-- the maker of names -/
inductive FrS (D : Wd) (G C : PM) (fr dn : Addr) (n : Nat) : Prop
  | mk : ∀ da l on, (InA G fr 611 [(sS "avoided", .ref da), (sS "numbers", .ref dn)]) → (DcA D G da (tt l)) → ((∀ x ∈ l, ¬NmA x)) → ((dn == sysModules) = false) → (C dn = some on) → (NumO D on n) → FrS D G C fr dn n
theorem FrS.up {fr dn : Addr} {n : Nat} (g : GLe G G') (k : FrS D G C fr dn n) : FrS D G' C fr dn n := let ⟨da, l, on, i, d, x, z, e, o⟩ := k; ⟨da, l, on, i.up g, d.up g, x, z, e, o⟩
theorem next_ok {fr dn : Addr} {n : Nat} {t : Tok} (R : Room A 2) (hs : FrS D G C fr dn n) (hn : n < 100000) : CodeOk D A (.ref 608) [.ref fr, .str (sS "arg") t] G C (fun r G' C' => And3 (∃ t, r = .str (nm "arg" (n + 1)) t) (FrS D G' C' fr dn (n + 1)) (CK C C' [dn])) := by
  obtain ⟨da, l, on, hi, hda, hl, hz, hon, hno⟩ := hs
  refine codeOk_def (binds := [(sS "self", .ref fr), (sS "base", .str (sS "arg") t)]) (look608 _) (by kernel_rfl) R.lt (fun s X => BindsTo.of_eq rfl) (locs rfl) ?_ (by decide)
  intro F hG hC env₀ A₀ m₀ Q₀ q₀
  have R1 : Room A₀ 1 := R.deeper
  refine B.cons ?_
  repeat tb_start
  refine B.callOk (base_ok (R1.le (by exact Nat.le_of_ble_eq_true rfl))).call (fun r G' C' g p => ?_)
  obtain ⟨rfl, rfl, t1, rfl⟩ := p
  repeat tb_start
  obtain ⟨kvs, hkv, hget, hst, hkl⟩ : ∃ kvs, And4 (on.IsDictOf (PySem.strKind Pw D.w) kvs) (∀ dt, ∃ t, (valueAt kvs (sS "arg")).getD (.int 0 dt) = .int n t) (∀ v, stored kvs (sS "arg") v = [(sS "arg", v)]) (kvs.length ≤ 1) := by
    rcases hno with ⟨rfl, h⟩ | ⟨_, t, h⟩
    · exact ⟨_, h, fun dt => ⟨dt, rfl⟩, fun v => rfl, Nat.zero_le _⟩
    · exact ⟨_, h, fun dt => ⟨t, rfl⟩, fun v => rfl, Nat.le_refl _⟩
  refine B.methD PySem.F.slot_dict_get PySem.F.type_dict_get (.inr ⟨hz, on, hon, hkv⟩) ?_
  repeat tb_start
  refine B.dictGet2 (.inr ⟨hz, on, hon, hkv⟩) ?_
  obtain ⟨tg, hg⟩ := hget _
  rw [hg]
  repeat tb_start
  have hn1 : ((n : Int) + 1) = ((n + 1 : Nat) : Int) := by lia
  have hlog : ((n : Int) + 1).natAbs.log2 < 1920 := by
    refine (Nat.log2_lt (by lia)).mpr ?_
    have : ((n : Int) + 1).natAbs < 2 ^ 17 := by exact Nat.lt_of_le_of_lt (by assumption) (Nat.le_of_ble_eq_true rfl)
    exact Nat.lt_of_lt_of_le this (Nat.pow_le_pow_right (by decide) (by decide))
  have hl1 : (sS "arg").length + (sS ".").length ≤ sizeLine := by rw [sizeLine_eq]; decide
  have hl2 : (sS "arg" ++ sS ".").length + (Str.ofString (toString ((n : Int) + 1))).length ≤ sizeLine := by
    have := num_len (n + 1)
    rw [hn1, sizeLine_eq, show (sS "arg" ++ sS ".").length = 4 from rfl]
    lia
  have hnm : (valueAt (tt l) (nm "arg" (n + 1))).isSome = false := by
    rw [tt_at, decide_eq_false_iff_not]
    exact fun z => hl _ z (nm_arg _)
  refine B.while 0 (fun _ _ Cw m' => And4 (Cw = C') (m' (sS "self") = some (.ref fr)) (m' (sS "told") = some (.str (sS "arg") t1)) (∃ t, m' (sS "number") = some (.int ((n : Int) + 1) t))) ⟨rfl, rfl, rfl, _, rfl⟩ ?_
  intro k Gi Ci mi Fih hg2 inv Fi
  refine B.opq fun Q₁ q₁ => ?_
  obtain ⟨rfl, m1, m2, tn, m3⟩ := inv
  repeat tb_start
  refine B.addStr hl1 (fun _ => ?_)
  repeat tb_start
  refine B.strInt hlog (fun _ => ?_)
  refine B.addStr hl2 (fun _ => ?_)
  repeat tb_start
  refine B.inD (.inl (hda.up hg2)) ?_
  rw [hn1]
  rw [show (valueAt (tt l) (sS "arg" ++ sS "." ++ Str.ofString (toString (((n + 1 : Nat) : Int))))).isSome = false from hnm]
  repeat tb_start
  rw [hn1] at m3
  refine B.setD hon hkv (by rw [sizeLine_eq]; lia) (fun o' ho' => ?_)
  rw [hst] at ho'
  repeat tb_start
  refine B.addStr hl1 (fun _ => ?_)
  repeat tb_start
  rw [hn1] at hlog hl2
  refine B.strInt hlog (fun _ => ?_)
  refine B.addStr hl2 (fun _ => ?_)
  repeat tb_start
  exact ⟨⟨_, rfl⟩, ⟨da, l, o', hi.up hg2, hda.up hg2, hl, hz, up_self, .inr ⟨Nat.succ_pos _, _, ho'⟩⟩, CK.refl.up (.head _)⟩
theorem avoid_ok {x dx da la : Addr} {v : Value} {es : List DictEntry} {k : Nat} {oa : Obj} {vs : List Value} {ns : List Str} (R : Room A 2) (hx : C x = some (instObj 611 dx)) (hdx : C dx = some (dictOf es k)) (hf : Flds es [(sS "avoided", .ref da), (sS "numbers", v)]) (hl : LsA G la vs) (hns : StrsAre vs ns)
    (ha : ∀ x ∈ ns, ¬NmA x) (hlen : ns.length < 100) (hda : C da = some oa) (hoa : oa.IsDictOf (PySem.strKind Pw D.w) (tt [])) (hax : da ≠ x) (hadx : da ≠ dx) : CodeOk D A (.ref 601) [.ref x, .ref la] G C (fun r G' C' => And3 (r = .none) (CK C C' [da]) (Ex2 fun o l => And3 (C' da = some o) (o.IsDictOf (PySem.strKind Pw D.w) (tt l)) (∀ x ∈ l, ¬NmA x))) := by
  refine codeOk_def (binds := [(sS "self", .ref x), (sS "names", .ref la)]) (look601 _) (by kernel_rfl) R.lt (fun s X => BindsTo.of_eq rfl) (locs rfl) ?_ (by decide)
  intro F hG hC env₀ A₀ m₀ Q₀ q₀
  have R1 : Room A₀ 1 := R.deeper
  refine B.cons ?_
  repeat tb_start
  refine B.for ?x
  repeat tb_start
  refine ⟨vs.length, _, fun j G' C' m' => Ex2 fun o l => And5 (C' = up C da o) (o.IsDictOf (PySem.strKind Pw D.w) (tt l)) (l.length ≤ j) (∀ x ∈ l, ¬NmA x) (m' (sS "self") = some (.ref x)), iter_list R1.h hl, ⟨oa, [], (by funext y; by_cases e : y = da; subst e; rw [up_self, hda]; rw [up_ne e]), hoa, Nat.zero_le _, by simp, rfl⟩, ?_, ?_⟩
  · intro j v Gj Cj mj Fjh hj hgj inv hP Fj
    refine B.opq fun Q₁ q₁ => ?_
    obtain ⟨o, l, rfl, ho, hlj, hla, hms⟩ := inv
    obtain ⟨p, tp, hp, rfl⟩ := strs_get hns hP
    have hin : InA (up C da o) x 611 [(sS "avoided", .ref da), (sS "numbers", v)] := ⟨dx, es, k, by rw [up_ne (Ne.symm hax)]; exact hx, by rw [up_ne (Ne.symm hadx)]; exact hdx, hf⟩
    repeat tb_start
    have hvl := strsAre_len hns
    refine B.setD up_self ho (by rw [tt_len, sizeLine_eq]; lia) (fun o' ho' => ?_)
    rw [up_up]
    rw [tt_stored] at ho'
    repeat tb_start
    refine ⟨o', _, rfl, ho', ?_, fun y hy => ?_, by walk_at "mine.nm"⟩
    · have : (addTo l p).length ≤ l.length + 1 := by unfold addTo; split <;> simp
      lia
    · rcases mem_addTo.mp hy with hy | rfl
      · exact hla y hy
      · exact ha _ (List.mem_of_getElem? hp)
  · intro Gj Cj mj hgj inv
    obtain ⟨o, l, rfl, ho, hlj, hla, hms⟩ := inv
    repeat tb_start
    exact ⟨rfl, CK.refl.up (.head _), o, l, up_self, ho, hla⟩
theorem up_none {α : Type} {f : Nat → Option α} {a b : Nat} {o : α} (h : up f a o b = none) : b ≠ a ∧ f b = none := by
  by_cases e : b = a
  · subst e; rw [up_self] at h; cases h
  · rw [up_ne e] at h; exact ⟨e, h⟩
theorem look587 (P : Params) : (K P).lookup 587 = some (k587 P) := by kernel_rfl
theorem mk_Fresh {la : Addr} {vs : List Value} {ns : List Str} (R : Room A 4) (hl : LsA G la vs) (hns : StrsAre vs ns) (ha : ∀ x ∈ ns, ¬NmA x) (hlen : ns.length < 100) :
    CodeOk D A (.ref 611) [.ref la] G C (fun r G' C' => Ex2 fun fr dn => And4 (r = .ref fr) (FrS D G' C' fr dn 0) (C dn = none) (GLe C C')) := by
  refine codeOk_cls (fI := 594) (by kernel_rfl) (by kernel_rfl) (by kernel_rfl) fun x dx gx cx gd cd ne => ?_
  refine codeOk_def (binds := (Str.ofString "self", .ref x) :: [(Str.ofString "avoided", .ref la)]) (look594 _) (by kernel_rfl) (by have := R.d; show A.depth + 1 < 1000; lia) (fun s X => PySem.W.binds_K X rfl (look587 _) rfl rfl rfl) (locs rfl) ?_ (by decide)
  intro F hG hC env₀ A₀ m₀ Q₀ q₀
  have R1 : Room A₀ 2 := ⟨R.h, by have := R.d; show A.depth + 1 + 1 + 2 ≤ 990; lia, by have := R.u; show A.units + _ + 3 + 10 * 2 ≤ 9800; exact Nat.le_trans (m := A.units + 10 * 4) (by first | decide | (show A.units + 1 + 3 + 10 * 2 ≤ _; lia) | (show A.units + 0 + 3 + 10 * 2 ≤ _; lia) | (show A.units + 3 + 3 + 10 * 2 ≤ _; lia)) this⟩
  refine B.cons ?_
  repeat tb_start
  refine B.dictC (fun da oa hga hca hfa hza hoa => ?_)
  repeat tb_start
  have nax : x ≠ da := fun z => by rw [← z, up_self] at hca; cases hca
  have nadx : dx ≠ da := fun z => by rw [← z, up_ne (Ne.symm ne), up_self] at hca; cases hca
  refine B.setAttr (c := 611) (dx := dx) (es := []) (n := 0) (fs := []) (by rw [up_ne nax]; exact up_self) (by rw [up_ne nadx, up_ne (Ne.symm ne)]; exact up_self) .nil (by kernel_rfl) (by kernel_rfl) (by kernel_rfl) (by kernel_rfl) rfl (by simp) (fun es1 n1 fl1 => ?_)
  repeat tb_start
  refine B.dictC (fun dn on hgn hcn hfn hzn hon => ?_)
  repeat tb_start
  obtain ⟨n1', hq1⟩ := up_none hcn
  obtain ⟨n2', hq2⟩ := up_none hq1
  obtain ⟨n3', hq3⟩ := up_none hq2
  obtain ⟨n4', hq4⟩ := up_none hq3
  refine B.setAttr (c := 611) (dx := dx) (es := es1) (n := n1) (fs := [(Str.ofString "avoided", .ref da)]) (by rw [up_ne (Ne.symm n3'), up_ne ne, up_ne nax]; exact up_self) (by rw [up_ne (Ne.symm n1')]; exact up_self) fl1 (by kernel_rfl) (by kernel_rfl) (by kernel_rfl) (by kernel_rfl) rfl (by simp) (fun es2 n2 fl2 => ?_)
  repeat tb_start
  generalize hC5 : up (up (up (up (up (up C dx emptyDict) x (instObj 611 dx)) da oa) dx (dictOf es1 n1)) dn on) dx (dictOf es2 n2) = C5
  have c5x : C5 x = some (instObj 611 dx) := by rw [← hC5, up_ne ne, up_ne (Ne.symm n3'), up_ne ne, up_ne nax]; exact up_self
  have c5d : C5 dx = some (dictOf es2 n2) := by rw [← hC5]; exact up_self
  have c5a : C5 da = some oa := by rw [← hC5, up_ne (Ne.symm nadx), up_ne (Ne.symm n2'), up_ne (Ne.symm nadx)]; exact up_self
  have c5n : C5 dn = some on := by rw [← hC5, up_ne n1']; exact up_self
  have c5k : GLe C C5 := fun a o e => by
    rw [← hC5]
    have h1 : a ≠ dx := fun z => by rw [z, cd] at e; cases e
    have h2 : a ≠ x := fun z => by rw [z, cx] at e; cases e
    have h3 : a ≠ da := fun z => by
      obtain ⟨_, h⟩ := up_none hca
      obtain ⟨_, h⟩ := up_none h
      rw [z, h] at e; cases e
    have h4 : a ≠ dn := fun z => by rw [z, hq4] at e; cases e
    rw [up_ne h1, up_ne h4, up_ne h1, up_ne h3, up_ne h2, up_ne h1]; exact e
  have hin : InA C5 x 611 [(sS "avoided", .ref da), (sS "numbers", .ref dn)] := ⟨dx, es2, n2, c5x, c5d, fl2⟩
  refine B.getMeth (f := 601) (.inr hin) rfl ?gm1 ?gm2 ?gm3 ?_
  case gm1 => kernel_rfl
  case gm2 => kernel_rfl
  case gm3 => kernel_rfl
  repeat tb_start
  refine B.callOk (avoid_ok R1 c5x c5d fl2 hl hns ha hlen c5a hoa (Ne.symm nax) (Ne.symm nadx)).call (fun r6 G6 C6 g6 p6 => ?_)
  obtain ⟨rfl, ck6, o6, l6, h6, ho6, hl6⟩ := p6
  refine Then.next ?_
  have nda : ∀ {a : Addr}, a ≠ da → a ∉ [da] := fun h z => h (List.mem_singleton.mp z)
  refine B.freeze2 h6 hfa (fun G7 g7 h7 => ?_)
  have e7x : rm C6 da x = some (instObj 611 dx) := by rw [rm_ne nax]; exact ck6 _ _ c5x (nda nax)
  have e7d : rm C6 da dx = some (dictOf es2 n2) := by rw [rm_ne nadx]; exact ck6 _ _ c5d (nda nadx)
  have e7n : rm C6 da dn = some on := by rw [rm_ne n2']; exact ck6 _ _ c5n (nda n2')
  refine B.gc e7x (fun gx7 => ?_)
  refine B.gc e7d (fun gd7 => ?_)
  refine B.nil ?_
  refine q₀.at ?_
  refine ⟨rfl, es2, n2, e7x, e7d, gx7, gd7, _, fl2, fun G'' g'' hi'' => ⟨x, dn, rfl, ⟨da, l6, on, hi'', ⟨hza, o6, g'' _ _ h7, ho6⟩, hl6, hzn, ?_, .inl ⟨rfl, hon⟩⟩, hq4, fun a o e => ?_⟩⟩
  · rw [rm_ne n3', rm_ne n1']; exact e7n
  · have h1 : a ≠ dx := fun z => by rw [z, cd] at e; cases e
    have h2 : a ≠ x := fun z => by rw [z, cx] at e; cases e
    have h3 : a ≠ da := fun z => by
      obtain ⟨_, h⟩ := up_none hca
      obtain ⟨_, h⟩ := up_none h
      rw [z, h] at e; cases e
    rw [rm_ne h2, rm_ne h1, rm_ne h3]; exact ck6 _ _ (c5k _ _ e) (nda h3)
end
/-! lists made by a comprehension that may be written -/
section
variable {D : Wd} {A : Around} {F : Fn} {G C : PM} {m : LM}
theorem B.listCompC {elt target iter : PySem.Expr} {scope : Scope} {cl : List (Str × Addr)} {pos : Pos} {env : Env} {Q : Value → PM → PM → LM → Prop}
    (x : B D F A (eval iter env) (LcP D A target elt scope cl env fun Inv n G' m' => ∀ ys G₁ C₁ a o, GLe G' G₁ → Inv n ys G₁ C₁ → G₁ a = none → C₁ a = none → F.C a = none → PlO o ys → Q (.ref a) G₁ (Mine.up C₁ a o) m') G C m)
    (hclos : closureFor scope env = Pure.pure cl) (hcell : ∀ y ∈ scope.names, y.2 ≠ .cell) (hkind : scope.kind = .function) (hnames : ∀ x ∈ scope.names, x.2 = .local → scope.names.lookup x.1 = some .local)
    
    (hs : ∀ x, foldedSetIterable iter env x = Pure.pure x := by intro _; rfl) : B D F A (eval (.ListComp elt [⟨target, iter, [], 0⟩] scope pos) env) Q G C m := fun h cx tk => by
  rw [eval_ListComp]
  refine wpAny_comprehension_free (use := none) rfl hs hclos hkind hnames (wpAny_mono (x h cx tk) (fun xv s₁ hx => ?_) fun _ _ z => z)
  obtain ⟨h1, tk1, rfl, G', C', m', c1, n, P, Inv, it, hn, h0, step, fin⟩ := hx
  refine it h1 c1.ok.g _ _ tk1 fun I fp wr Md S h2 T al self st hk hw hf => ?_
  refine comp_block_list (hb := h1) (RR := fun acc Lc => compPost (model Pw D.w) A (fun _ _ => False) none _ acc Lc) c1.ok ⟨T, al, self, st, hk, hw, hf⟩ hn h0 (fun i v ys G₁ C₁ m₁ h F' hi hG hC hg hI c hP tk => ?_) (fun ac Lc h' tk' mc ys G₁ C₁ hz na nL ne hns ok ext hg hI hacc ga ca gL cL => ?_) hcell hkind
  · refine wpAny_mono (step i v ys G₁ C₁ m₁ F' hi hG hC hg hI hP h c tk) (fun _ s q => ?_) fun _ _ z => z
    obtain ⟨h', tk', rfl, G₂, C₂, m₂, c2, q⟩ := q
    exact ⟨h', tk', rfl, G₂, C₂, m₂, c2, q⟩
  · obtain ⟨en, ea⟩ := hacc
    have acis : PlO { cls := .type "list", data := .seq ys.toArray en } ys := ⟨_, rfl⟩
    generalize ho : ({ cls := .type "list", data := .seq ys.toArray en } : Obj) = o at *
    have hk1 : ∀ {a o}, h1.get? a = some o → a ≠ ac ∧ a ≠ Lc := fun {a o} e => ⟨(fun z => by rw [z, na] at e; cases e), (fun z => by rw [z, nL] at e; cases e)⟩
    have okU : Ok D G₁ (Mine.up C₁ ac o) h' :=
      { x := ok.x, t := ok.t, z := ok.z, gb := ok.gb, g := ok.g
        c := fun a q e => by
          by_cases z : a = ac
          · subst z; rw [up_self] at e; cases e; exact ea
          · rw [up_ne z] at e; exact ok.c a q e
        gc := fun a q e => by
          by_cases z : a = ac
          · subst z; exact ga
          · rw [up_ne z] at e; exact ok.gc a q e }
    have extU : Ext G' C' h1 G₁ (Mine.up C₁ ac o) h' := ⟨ext.gs, fun a q e => by rw [up_ne (hk1 e).1]; exact ext.cs a q e, ext.keep⟩
    refine ⟨mc, hns, fun h'' hs'' => ?_⟩
    have hL' : ∀ a q, a ≠ Lc → h'.get? a = some q → h''.get? a = some q := fun a q n e => hs''.extBut a q n e
    refine ⟨h'', tk', rfl, G₁, Mine.up C₁ ac o, m', ?_, fin ys G₁ C₁ ac _ hg hI ga ca (c1.own na) acis⟩
    refine c1.after (G' := G₁) (C' := Mine.up C₁ ac o) ?_ ⟨extU.gs, extU.cs, fun a q e hc => hL' a q (hk1 e).2 (extU.keep a q e hc)⟩
    exact
      { x := ok.x, t := ok.t, z := ok.z, gb := okU.gb, gc := okU.gc
        g := fun a q e => hL' a q (fun z => by rw [z, gL] at e; cases e) (okU.g a q e)
        c := fun a q e => hL' a q (fun z => by rw [z, up_ne (Ne.symm ne), cL] at e; cases e) (okU.c a q e) }

theorem B.asgListCompC {elt target iter : PySem.Expr} {scope : Scope} {cl : List (Str × Addr)} {pos : Pos} {env : Env} {Q : Flow → PM → PM → LM → Prop} {y : Str} {py spos : Pos}
    (x : B D F A (eval iter env) (LcP D A target elt scope cl env fun Inv n G' m' => ∀ ys G₁ C₁ a o, GLe G' G₁ → Inv n ys G₁ C₁ → G₁ a = none → C₁ a = none → F.C a = none → PlO o ys → Q .next G₁ (Mine.up C₁ a o) (upS m' y (.ref a))) G C m)
    (hclos : closureFor scope env = Pure.pure cl) (hcell : ∀ y ∈ scope.names, y.2 ≠ .cell) (hkind : scope.kind = .function) (hnames : ∀ x ∈ scope.names, x.2 = .local → scope.names.lookup x.1 = some .local)
    (hsw : swapsWith (.ListComp elt [⟨target, iter, [], 0⟩] scope pos) (some (.Name y py)) spos.line env = Pure.pure true) (hy : env.kindOf y = some .local) (hfk : env.scope.kind = .function) (hL : env.locals = F.L)
    (hs : ∀ x, foldedSetIterable iter env x = Pure.pure x := by intro _; rfl) : B D F A (exec (.Assign [.Name y py] (.ListComp elt [⟨target, iter, [], 0⟩] scope pos) spos) env) Q G C m := fun h cx tk => by
  rw [exec_Assign_Name_used _ _ _ _ hsw]
  refine wpAny_bind (wpAny_standAt (wpAny_bind ?_))
  show wpAny _ A (do let _ ← comprehension (.ListComp elt [⟨target, iter, [], 0⟩] scope pos) scope env _ (newList []) false (eval iter env) (some (PySem.assign (.Name y py) env))) _ _ _
  refine wpAny_bind (wpAny_mono (wpAny_comprehension_free (use := some (PySem.assign (.Name y py) env)) (Q := fun _ s' => WP D (BP D F Q) .next s') rfl hs hclos hkind hnames (wpAny_mono (x h cx tk) (fun xv s₁ hx => ?_) fun _ _ z => z)) (fun _ s' hq => wpAny_pure (wpAny_pure hq)) fun _ _ z => z)
  obtain ⟨h1, tk1, rfl, G', C', m', c1, n, P, Inv, it, hn, h0, step, fin⟩ := hx
  refine it h1 c1.ok.g _ _ tk1 fun I fp wr Md S h2 T al self st hk hw hf => ?_
  refine comp_block_list (hb := h1) (RR := fun acc Lc => compPost (model Pw D.w) A (fun _ _ => False) (some (PySem.assign (.Name y py) env)) (fun _ s' => WP D (BP D F Q) .next s') acc Lc) c1.ok ⟨T, al, self, st, hk, hw, hf⟩ hn h0 (fun i v ys G₁ C₁ m₁ h F' hi hG hC hg hI c hP tk => ?_) (fun ac Lc h' tk' mc ys G₁ C₁ hz na nL ne hns ok ext hg hI hacc ga ca gL cL => ?_) hcell hkind
  · refine wpAny_mono (step i v ys G₁ C₁ m₁ F' hi hG hC hg hI hP h c tk) (fun _ s q => ?_) fun _ _ z => z
    obtain ⟨h', tk', rfl, G₂, C₂, m₂, c2, q⟩ := q
    exact ⟨h', tk', rfl, G₂, C₂, m₂, c2, q⟩
  · obtain ⟨en, ea⟩ := hacc
    have acis : PlO { cls := .type "list", data := .seq ys.toArray en } ys := ⟨_, rfl⟩
    generalize ho : ({ cls := .type "list", data := .seq ys.toArray en } : Obj) = o at *
    have hk1 : ∀ {a o}, h1.get? a = some o → a ≠ ac ∧ a ≠ Lc := fun {a o} e => ⟨(fun z => by rw [z, na] at e; cases e), (fun z => by rw [z, nL] at e; cases e)⟩
    have okU : Ok D G₁ (Mine.up C₁ ac o) h' :=
      { x := ok.x, t := ok.t, z := ok.z, gb := ok.gb, g := ok.g
        c := fun a q e => by
          by_cases z : a = ac
          · subst z; rw [up_self] at e; cases e; exact ea
          · rw [up_ne z] at e; exact ok.c a q e
        gc := fun a q e => by
          by_cases z : a = ac
          · subst z; exact ga
          · rw [up_ne z] at e; exact ok.gc a q e }
    have extU : Ext G' C' h1 G₁ (Mine.up C₁ ac o) h' := ⟨ext.gs, fun a q e => by rw [up_ne (hk1 e).1]; exact ext.cs a q e, ext.keep⟩
    have cU := c1.after okU extU
    have nFL : F.L ≠ Lc := fun z => by obtain ⟨o', _, _, e, _⟩ := c1.ns; rw [z, nL] at e; cases e
    refine wpAny_assign_Name (wpAny_storeName_local (s := St D h' tk') (env := env) hy (hL ▸ cU.ns) (fun h'' hn'' hs'' => ?_) (by rw [hfk]; rfl))
    have cV := cU.set (hL ▸ hn'') (fun a o n e => (hs''.2 a (hL ▸ n)).trans e)
    refine ⟨mc, hns.sameBut hs'' (fun z => nFL (hL ▸ z.symm)), fun h₃ hs₃ => ?_⟩
    have hL' : ∀ a q, a ≠ Lc → h''.get? a = some q → h₃.get? a = some q := fun a q n e => hs₃.extBut a q n e
    refine ⟨h₃, _, rfl, G₁, Mine.up C₁ ac o, _, ?_, fin ys G₁ C₁ ac _ hg hI ga ca (c1.own na) acis⟩
    obtain ⟨oL, es, ep, eL, r⟩ := cV.ns
    have oldF : ∀ {a o}, a ≠ F.L → F.h.get? a = some o → a ≠ Lc := fun {a o} n e z => by
      obtain ⟨o', e'⟩ := c1.ext.alive c1.ok n e
      rw [z, nL] at e'; cases e'
    exact
      { ok := { x := ok.x, t := ok.t, z := ok.z, gb := okU.gb, gc := okU.gc
                g := fun a q e => hL' a q (fun z => by rw [z, gL] at e; cases e) (cV.ok.g a q e)
                c := fun a q e => hL' a q (fun z => by rw [z, up_ne (Ne.symm ne), cL] at e; cases e) (cV.ok.c a q e) }
        ext := { gs := cV.ext.gs, cs := cV.ext.cs, keep := fun a q n e hc => hL' a q (oldF n e) (cV.ext.keep a q n e hc) }
        ns := ⟨oL, es, ep, hL' _ _ nFL eL, r⟩, lg := cV.lg, lc := cV.lc, lg0 := cV.lg0, lc0 := cV.lc0, lb := cV.lb, ok0 := cV.ok0 }

end
/-! the Forcer -/
noncomputable def acN : Tm → Nat
  | .var _ => 0
  | .lit _ => 0
  | .err => 0
  | .add a b => acN a + acN b
  | .case v _ _ a o => acN a + acN o + acN v
  | .seq _ _ _ => 0
  | .lt _ v b => acN b + acN v
  | .ap1 _ a => acN a + 1
  | .ap2 _ a b => acN a + acN b + 2
theorem pow_max3 (a b c : Nat) : 3 ^ a ≤ 3 ^ max a (max b c) ∧ 3 ^ b ≤ 3 ^ max a (max b c) ∧ 3 ^ c ≤ 3 ^ max a (max b c) :=
  ⟨Nat.pow_le_pow_right (by decide) (Nat.le_max_left _ _), Nat.pow_le_pow_right (by decide) (Nat.le_trans (Nat.le_max_left _ _) (Nat.le_max_right _ _)), Nat.pow_le_pow_right (by decide) (Nat.le_trans (Nat.le_max_right _ _) (Nat.le_max_right _ _))⟩
theorem pow_max2 (a b : Nat) : 3 ^ a ≤ 3 ^ max a b ∧ 3 ^ b ≤ 3 ^ max a b := ⟨Nat.pow_le_pow_right (by decide) (Nat.le_max_left _ _), Nat.pow_le_pow_right (by decide) (Nat.le_max_right _ _)⟩
theorem acN_le : ∀ t, acN t + 1 ≤ 3 ^ ht t
  | .var _ => Nat.le_refl _
  | .lit _ => Nat.le_refl _
  | .err => by show 0 + 1 ≤ 3 ^ 1; decide
  | .seq .. => Nat.pos_of_ne_zero (by simp)
  | .add a b => r2 (pw (by decide) (acN_le a) (Nat.le_max_left _ _)) (pw (by decide) (acN_le b) (Nat.le_max_right _ _))
  | .case v _ _ a o => r3 (pw (by decide) (acN_le a) m2) (pw (by decide) (acN_le o) m3) (pw (by decide) (acN_le v) m1)
  | .lt _ v b => r2 (pw (by decide) (acN_le b) (Nat.le_max_right _ _)) (pw (by decide) (acN_le v) (Nat.le_max_left _ _))
  | .ap1 _ a => r1 (acN_le a)
  | .ap2 _ a b => r4 (pw (by decide) (acN_le a) (Nat.le_max_left _ _)) (pw (by decide) (acN_le b) (Nat.le_max_right _ _))
section
variable {D : Wd} {A : Around} {F : Fn} {G C G' C' : PM} {m : LM} {h : Heap} {env : Env} {pos : Pos}
inductive FPost (D : Wd) (S : Sgs) (fr dn : Addr) (t : Tm) (n : Nat) (C : PM) (r : Value) (G' C' : PM) : Prop
  | mk : ∀ t' n', (TmA G' r t') → (Fo S t t') → (FrS D G' C' fr dn n') → (n ≤ n') → (n' ≤ n + acN t) → (CK C C' [dn]) → FPost D S fr dn t n C r G' C'
noncomputable def ForceOk (D : Wd) (d : Nat) : Prop := ∀ {A : Around} {G C : PM} {fo fr dn ea : Addr} {v : Value} {t : Tm} {S : Sgs} {n : Nat}, Room A (10 * d + 60) → InA G fo 562 [(sS "fresh", .ref fr)] → FrS D G C fr dn n → n + acN t < 90000 → TmA G v t → Src t → ht t ≤ d → d ≤ 6 → EnvA D G ea S → SzS S →
  CodeOk D A (.ref 544) [.ref fo, v, .ref ea] G C (FPost D S fr dn t n C)
theorem FrS.ck {fr dn : Addr} {n : Nat} {C₁ : PM} (k : FrS D G C fr dn n) (e : GLe C C₁) : FrS D G C₁ fr dn n := let ⟨da, l, on, i, d, x, z, c, o⟩ := k; ⟨da, l, on, i, d, x, z, e _ _ c, o⟩
theorem FrS.cell (k : FrS D G C fr dn n) : ∃ o, C dn = some o := let ⟨_, _, on, _, _, _, _, c, _⟩ := k; ⟨on, c⟩
inductive AInv (D : Wd) (S : Sgs) (fr dn : Addr) (kt ln : Value) (p : Tm) (n : Nat) (C : PM) (i : Nat) (ys : List Value) (G' C' : PM) : Prop
  | mk : ∀ n', (FrS D G' C' fr dn n') → (n ≤ n') → (n' ≤ n + i * acN p) → (CK C C' [dn]) → (((i = 0 ∧ ys = []) ∨ (i = 1 ∧ Ex3 fun al va' p' => And4 (ys = [.ref al]) (InA G' al 242 [(sS "key", kt), (sS "names", ln), (sS "body", va')]) (TmA G' va' p') (Fo S p p')))) → AInv D S fr dn kt ln p n C i ys G' C'
theorem fcase_ok {d : Nat} (ih : ForceOk D d) {fo fr dn ea : Addr} {v : Value} {e p o : Tm} {y : N} {k : Int} {S : Sgs} {n : Nat} (R : Room A (10 * d + 63)) (hf : InA G fo 562 [(sS "fresh", .ref fr)]) (hs : FrS D G C fr dn n) (hn : n + acN (.case e y k p o) < 90000) (ht : TmA G v (.case e y k p o))
    (hsrc : Src e ∧ Src p ∧ Src o) (h1 : Mine.ht e ≤ d) (h2 : Mine.ht p ≤ d) (h3 : Mine.ht o ≤ d) (hd : d ≤ 6) (he : EnvA D G ea S) (hz : SzS S) :
    CodeOk D A (.ref 549) [.ref fo, v, .ref ea] G C (FPost D S fr dn (.case e y k p o) n C) := by
  obtain ⟨a, ve, t, la, al, kt, ln, va, vo, t1, t2, t3, rfl, hi, hla, hal, hkt, hln, hve, hva, hvo⟩ := ht
  obtain ⟨ao, rfl⟩ := hvo.ref
  obtain ⟨ap, rfl⟩ := hva.ref
  obtain ⟨ae, rfl⟩ := hve.ref
  refine codeOk_cellsB (binds := [(sS "self", .ref fo), (sS "expr", .ref a), (sS "env", .ref ea)]) (look549 _) (by kernel_rfl) (R.le (by exact Nat.le_of_ble_eq_true rfl : 1 ≤ _)).lt rfl (by kernel_rfl) ?_
  intro F hG hC G₁ C₁ cs₀ env₀ A₀ m₀ cl Q₀ q₀
  have k1 := cl.pA (sS "self") rfl rfl
  have k2 := cl.pA (sS "env") rfl rfl
  have g0 := cl.g
  have hf1 := hf.up g0
  have hs1 : FrS D G₁ C₁ fr dn n := (hs.up g0).ck cl.c
  have ck0 := cl.ck (as := [dn])
  have hi1 := hi.up g0
  have hla1 := hla.up g0
  have R1 : Room A₀ (10 * d + 62) := (R.le (by exact Nat.lt_succ_self _ : (10 * d + 62) + 1 ≤ _)).deeper
  have hac : acN (.case e y k p o) = acN p + acN o + acN e := rfl
  refine B.cons ?_
  refine B.asgListComp (cl := ?cl1) ?x1 ?h11 ?h12 rfl ?h14 rfl rfl rfl rfl ?h15
  case h11 => exact rfl
  case h12 => decide
  case h14 => decide
  case h15 => exact fun _ => rfl
  repeat tb_start
  refine ⟨1, _, AInv D S fr dn (.ref kt) (.ref ln) p n C, iter_list R1.h hla1, Nat.le_of_ble_eq_true rfl, ⟨n, hs1, Nat.le_refl _, by exact Nat.le_add_right _ _, ck0, .inl ⟨rfl, rfl⟩⟩, ?_, ?_⟩
  · intro j x ys Gj Cj mj Fj hj hFG hFC hgj inv hP
    refine B.opq fun Q₁ q₁ => ?_
    have hj0 : j = 0 := by exact Nat.lt_one_iff.mp (by assumption)
    subst hj0
    cases hP
    obtain ⟨n', hs2, hn1, hn2, ck2, hc⟩ := inv
    rcases hc with ⟨_, rfl⟩ | ⟨z, _⟩
    case inr => exact absurd z (by decide)
    have gj := g0.trans hgj
    have hal2 := hal.up gj
    have hva2 := hva.up gj
    have hf2 := hf.up gj
    repeat tb_start
    walk_at "mine.me"
    repeat tb_start
    refine B.callOk (ih (R1.le (by exact le1 rfl)) hf2 hs2 (by lia) hva2 hsrc.2.1 h2 hd (he.up gj) hz).call (fun r3 G3 C3 g3 p3 => ?_)
    obtain ⟨p', n3, tm3, fo3, hs3, hn3, hn4, ck3⟩ := p3
    repeat tb_start
    refine B.callC (mk_Alt (R1.le (by exact Nat.le_of_ble_eq_true rfl)) _ _ _) (fun r4 G4 g4 p4 => ?_)
    obtain ⟨al', rfl, hal'⟩ := p4
    repeat tb_start
    exact ⟨n3, hs3.up g4, by exact Nat.le_trans (by assumption) (by assumption), by lia, ck2.trans ck3, .inr ⟨rfl, al', r3, p', rfl, hal', tm3.up g4, fo3⟩⟩
  · intro ys Gj Cj la' G2 hgj inv hg2 hla'
    obtain ⟨n', hs2, hn1, hn2, ck2, hc⟩ := inv
    rcases hc with ⟨z, _⟩ | ⟨_, al', va', p', rfl, hal', hva', fop⟩
    case inl => exact absurd z (by decide)
    have gj := (g0.trans hgj).trans hg2
    have hi2 := hi.up gj
    have hf2 := hf.up gj
    have k1b := (k1.up hgj).up hg2
    have k2b := (k2.up hgj).up hg2
    repeat tb_start
    refine B.isNoneF ?_
    repeat tb_start
    walk_at "mine.me"
    repeat tb_start
    refine B.callOk (ih (R1.le (by exact le1 rfl)) hf2 (hs2.up hg2) (by lia) (hvo.up gj) hsrc.2.2 h3 hd (he.up gj) hz).call (fun r3 G3 C3 g3 p3 => ?_)
    obtain ⟨o', n3, tm3, fo3, hs3, hn3, hn4, ck3⟩ := p3
    have hf3 := hf2.up g3
    have k1c := k1b.up g3
    have k2c := k2b.up g3
    have hi3 := hi2.up g3
    repeat tb_start
    walk_at "mine.me"
    repeat tb_start
    refine B.callOk (ih (R1.le (by exact le1 rfl)) hf3 hs3 (by lia) ((hve.up gj).up g3) hsrc.1 h1 hd ((he.up gj).up g3) hz).call (fun r5 G5 C5 g5 p5 => ?_)
    obtain ⟨e', n5, tm5, fo5, hs5, hn5, hn6, ck5⟩ := p5
    have hi5 := (hi2.up g3).up g5
    repeat tb_start
    refine B.callX (mk_Case (R1.le (by exact Nat.le_of_ble_eq_true rfl)) _ _ _ _) (fun x G6 g6 hx => ?_)
    repeat tb_start
    have g35 := g3.trans (g5.trans g6)
    have gall := gj.trans g35
    exact ⟨.case e' y k p' o', n5, ⟨x, r5, t, la', al', kt, ln, va', r3, t1, t2, t3, rfl, hx, hla'.up g35, hal'.up (hg2.trans g35), hkt.up gall, hln.up gall, tm5.up g6, hva'.up (hg2.trans g35), tm3.up (g5.trans g6)⟩, .case fo5 fop fo3, hs5.up g6, by lia, by lia, (ck2.trans ck3).trans ck5⟩
end
section
variable {D : Wd} {A : Around} {F : Fn} {G C G' C' : PM} {m : LM} {h : Heap} {env : Env} {pos : Pos}
theorem FrS.ne {fr dn a : Addr} {n : Nat} (k : FrS D G C fr dn n) (h : C a = none) : a ≠ dn := fun z => by
  obtain ⟨o, ho⟩ := k.cell
  rw [z, ho] at h; cases h
theorem FrS.nm {fr dn a : Addr} {n : Nat} (k : FrS D G C fr dn n) (h : C a = none) : a ∉ [dn] := fun z => k.ne h (List.mem_singleton.mp z)
theorem FrS.upA {fr dn a : Addr} {n : Nat} {o : Obj} (k : FrS D G C fr dn n) (h : a ≠ dn) : FrS D G (Mine.up C a o) fr dn n :=
  let ⟨da, l, on, i, d, x, z, c, q⟩ := k; ⟨da, l, on, i, d, x, z, by rw [up_ne (Ne.symm h)]; exact c, q⟩
inductive LInv (D : Wd) (S : Sgs) (fr dn : Addr) (y : N) (e : Tm) (n : Nat) (C : PM) (i : Nat) (ys : List Value) (G' C' : PM) : Prop
  | mk : ∀ n', (FrS D G' C' fr dn n') → (n ≤ n') → (n' ≤ n + i * acN e) → (CK C C' [dn]) → (((i = 0 ∧ ys = []) ∨ (i = 1 ∧ Ex4 fun tp ty ve e' => And4 (ys = [.ref tp]) (TpA G' tp [.str y ty, ve]) (TmA G' ve e') (Fo S e e')))) → LInv D S fr dn y e n C i ys G' C'
theorem flet_ok {d : Nat} (ih : ForceOk D d) {fo fr dn ea : Addr} {v : Value} {e b : Tm} {y : N} {S : Sgs} {n : Nat} (R : Room A (10 * d + 63)) (hf : InA G fo 562 [(sS "fresh", .ref fr)]) (hs : FrS D G C fr dn n) (hn : n + acN (.lt y e b) < 90000) (ht : TmA G v (.lt y e b))
    (hsrc : Src e ∧ Src b) (h1 : Mine.ht e ≤ d) (h2 : Mine.ht b ≤ d) (hd : d ≤ 6) (he : EnvA D G ea S) (hz : SzS S) :
    CodeOk D A (.ref 554) [.ref fo, v, .ref ea] G C (FPost D S fr dn (.lt y e b) n C) := by
  obtain ⟨a, lb, tp, t, ve, vb, rfl, hi, hlb, htp, hve, hvb⟩ := ht
  obtain ⟨ab, rfl⟩ := hvb.ref
  have hveT := hve
  obtain ⟨ae, rfl⟩ := hve.ref
  refine codeOk_cellsB (binds := [(sS "self", .ref fo), (sS "expr", .ref a), (sS "env", .ref ea)]) (look554 _) (by kernel_rfl) (R.le (by exact Nat.le_of_ble_eq_true rfl : 1 ≤ _)).lt rfl (by kernel_rfl) ?_
  intro F hG hC G₁ C₁ cs₀ env₀ A₀ m₀ cl Q₀ q₀
  have k1 := cl.pA (sS "self") rfl rfl
  obtain ⟨oc, hoc, hoc2, hoc3, hoc4⟩ := cl.q (sS "own") _ rfl rfl
  have g0 := cl.g
  have hs1 : FrS D G₁ C₁ fr dn n := (hs.up g0).ck cl.c
  have ck0 := cl.ck (as := [dn])
  have hi1 := hi.up g0
  have R1 : Room A₀ (10 * d + 62) := (R.le (by exact Nat.lt_succ_self _ : (10 * d + 62) + 1 ≤ _)).deeper
  have hac : acN (.lt y e b) = acN b + acN e := rfl
  refine B.cons ?_
  repeat tb_start
  refine B.callX (bound_ok (R1.le (by exact Nat.le_of_ble_eq_true rfl)) hi1 (hlb.up g0) (htp.up g0) (hve.up g0) (he.up g0)) (fun ia G2 g2 hia => ?_)
  repeat tb_start
  refine B.asgTupleS ?_ rfl rfl
  refine B.tuple ?_
  have k1b := k1.up g2
  have hi2 := hi1.up g2
  have hf2 := (hf.up g0).up g2
  repeat tb_start
  walk_at "mine.me"
  repeat tb_start
  refine B.callOk (ih (R1.le (by exact le1 rfl)) hf2 (hs1.up g2) (by lia) ((hvb.up g0).up g2) hsrc.2 h2 hd hia hz).call (fun r3 G3 C3 g3 p3 => ?_)
  obtain ⟨b', n3, tm3, fo3, hs3, hn3, hn4, ck3⟩ := p3
  have hi3 := hi2.up g3
  have k1c := k1b.up g3
  repeat tb_start
  refine ⟨Nat.le_of_ble_eq_true rfl, fun ta Gt gt htt => ?_⟩
  refine B.asgTuple R1.h htt rfl rfl ?_
  refine B.inOrder ?_
  repeat tb_start
  refine B.inOrder ?_
  repeat tb_start
  have C3c := ck3 _ _ hoc (hs.nm hoc3)
  refine B.storeCell rfl C3c hoc2 (fun o' ho' => ?_)
  have hs4 : FrS D Gt (Mine.up C3 (F.L + 1 + 1) o') fr dn n3 := (hs3.up gt).upA (hs.ne hoc3)
  have ck4 : CK C (Mine.up C3 (F.L + 1 + 1) o') [dn] := (ck0.trans ck3).upD hoc3
  have k2 : ClA (Mine.up C3 (F.L + 1 + 1) o') (F.L + 1 + 1) (.ref ea) := ⟨o', up_self, ho'⟩
  generalize hC4 : Mine.up C3 (F.L + 1 + 1) o' = C4 at hs4 ck4 k2
  have k1d := k1c.up gt
  have hi4 := hi3.up gt
  have gg4 := ((g0.trans g2).trans g3).trans gt
  have hlb4 := (hlb.up gg4).ls
  have htp4 := htp.up gg4
  have hve4 := hveT.up gg4
  have hf4 := hf.up gg4
  have he4 := he.up gg4
  have hia4 := (hia.up g3).up gt
  have tm4 := tm3.up gt
  have hvb4 := hvb.up gg4
  clear gg4
  refine B.inOrder0 ?_
  repeat tb_start
  refine B.asgListCompZ (cl := ?cl1) ?x1 ?h11 ?h12 rfl ?h14 rfl rfl rfl rfl ?h15
  case h11 => exact rfl
  case h12 => decide
  case h14 => decide
  case h15 => exact fun _ => rfl
  repeat tb_start
  refine ⟨1, _, LInv D S fr dn y e n3 C4, iter_list R1.h hlb4, Nat.le_of_ble_eq_true rfl, ⟨n3, hs4, Nat.le_refl _, by exact Nat.le_add_right _ _, CK.refl, .inl ⟨rfl, rfl⟩⟩, ?_, ?_⟩
  · intro j x ys Gj Cj mj Fj hj hFG hFC hgj inv hP
    refine B.opq fun Q₁ q₁ => ?_
    have hj0 : j = 0 := by exact Nat.lt_one_iff.mp (by assumption)
    subst hj0
    cases hP
    obtain ⟨n', hs5, hn5, hn6, ck5, hc⟩ := inv
    rcases hc with ⟨_, rfl⟩ | ⟨z, _⟩
    case inr => exact absurd z (by decide)
    have k2j : ClA Cj (F.L + 1 + 1) (.ref ea) := let ⟨o, e1, e2⟩ := k2; ⟨o, ck5 _ _ e1 (hs.nm hoc3), e2⟩
    have hf5 := hf4.up hgj
    refine B.asgTuple R1.h (htp4.up hgj) rfl rfl ?_
    refine B.inOrder ?_
    repeat tb_start
    refine B.inOrder ?_
    repeat tb_start
    refine B.inOrder0 ?_
    refine q₁.at ?_
    refine B.tuple ?_
    repeat tb_start
    walk_at "mine.me"
    repeat tb_start
    refine B.callOk (ih (R1.le (by exact le1 rfl)) hf5 hs5 (by lia) (hve4.up hgj) hsrc.1 h1 hd (he4.up hgj) hz).call (fun r6 G6 C6 g6 p6 => ?_)
    obtain ⟨e', n7, tm7, fo7, hs7, hn7, hn8, ck7⟩ := p6
    repeat tb_start
    refine ⟨Nat.le_of_ble_eq_true rfl, fun tp' G8 g8 htp' => ?_⟩
    exact ⟨n7, hs7.up g8, by exact Nat.le_trans (by assumption) (by assumption), by lia, ck5.trans ck7, .inr ⟨rfl, tp', t, r6, e', rfl, htp', tm7.up g8, fo7⟩⟩
  · intro ys Gj Cj lb' G8 hgj inv hg8 hlb'
    obtain ⟨n5, hs5, hn5, hn6, ck5, hc⟩ := inv
    rcases hc with ⟨z, _⟩ | ⟨_, tp', t', ve', e', rfl, htp', hve', foe⟩
    case inl => exact absurd z (by decide)
    have g48 := hgj.trans hg8
    have hi8 := hi4.up g48
    have hlb8 := hlb4.up g48
    have htp8 := htp4.up g48
    have hve8 := hve4.up g48
    have tm8 := tm4.up g48
    have hvb8 := hvb4.up g48
    have hia8 := hia4.up g48
    have hs8 := hs5.up hg8
    have htp8' := htp'.up hg8
    have hve8' := hve'.up hg8
    clear g48
    have endL : ∀ {G9 : PM} (g9 : GLe G8 G9) {x : Addr}, InA G9 x 221 [(sS "binds", .ref lb'), (sS "body", r3), (sS "is_rec", .bool false)] → FPost D S fr dn (.lt y e b) n C (.ref x) G9 Cj := fun {G9} g9 {x} hx =>
      ⟨.lt y e' b', n5, ⟨x, lb', tp', t', ve', r3, rfl, hx, hlb'.up g9, htp8'.up g9, hve8'.up g9, tm8.up g9⟩, .lt foe fo3, hs8.up g9, by exact Nat.le_trans (by assumption) (by assumption), by lia, ck4.trans ck5⟩
    repeat tb_start
    refine B.lenL (.inl hlb'.ls) (by simp) (fun _ => ?_)
    repeat tb_start
    rw [show decide ((([Value.ref tp'].length : Nat) : Int) = 1) = true from rfl]
    repeat tb_start
    refine B.itemL (.inl hlb8) (by decide) (by decide) rfl ?_
    repeat tb_start
    refine B.itemT htp8 (j := 1) (by decide) (by decide) rfl rfl ?_
    repeat tb_start
    refine B.callC (done_ok (R1.le (by exact Nat.le_of_ble_eq_true rfl)) hve8) (fun r9 G9 g9 p9 => ?_)
    subst p9
    have hi9 := hi8.up g9
    cases hdone : doneB e
    · repeat tb_start
      refine B.callC (need_okk d (R1.le (by lia)) (hvb8.up g9) hsrc.2 h2 hd (hia8.up g9) hz) (fun rn Gn gn pn => ?_)
      have hin := hi9.up gn
      repeat tb_start
      cases hne : need S b with
      | none =>
        rw [hne] at pn
        cases pn
        refine B.notNoneT ?_
        repeat tb_start
        refine B.callX (mk_Let (R1.le (by exact Nat.le_of_ble_eq_true rfl)) _ _ _) (fun x Gx gx hx => ?_)
        repeat tb_start
        exact endL ((g9.trans gn).trans gx) hx
      | some l =>
        rw [hne] at pn
        obtain ⟨na, rfl, hna⟩ := pn
        have gn9 := g9.trans gn
        have hlbn := hlb'.ls.up gn9
        have htpn := htp8'.up gn9
        clear gn9
        refine B.notNoneF ?_
        repeat tb_start
        refine B.itemL (.inl hlbn) (by decide) (by decide) rfl ?_
        repeat tb_start
        refine B.itemT htpn (j := 0) (by decide) (by decide) rfl rfl ?_
        repeat tb_start
        refine B.inD (.inl hna) ?_
        rw [tt_at]
        cases hyl : decide (y ∈ l)
        · repeat tb_start
          refine B.callX (mk_Let (R1.le (by exact Nat.le_of_ble_eq_true rfl)) _ _ _) (fun x Gx gx hx => ?_)
          repeat tb_start
          exact endL ((g9.trans gn).trans gx) hx
        · repeat tb_start
          refine B.itemL (.inl hlbn) (by decide) (by decide) rfl ?_
          repeat tb_start
          refine B.itemT htpn (j := 1) (by decide) (by decide) rfl rfl ?_
          repeat tb_start
          refine B.itemL (.inl hlbn) (by decide) (by decide) rfl ?_
          repeat tb_start
          refine B.itemT htpn (j := 0) (by decide) (by decide) rfl rfl ?_
          repeat tb_start
          refine B.list ?_
          repeat tb_start
          refine ⟨Nat.le_of_ble_eq_true rfl, fun la Gl gl hla => ?_⟩
          repeat tb_start
          refine B.callX (mk_Case (R1.le (by exact Nat.le_of_ble_eq_true rfl)) _ _ _ _) (fun x Gx gx hx => ?_)
          repeat tb_start
          have gz := ((g9.trans gn).trans gl).trans gx
          exact ⟨.seq e' y b', n5, ⟨x, ve', t', la, r3, rfl, hx, hla.up gx, hve8'.up gz, tm8.up gz⟩, .ltS hne (of_decide_eq_true hyl) foe fo3, hs8.up gz, by exact Nat.le_trans (by assumption) (by assumption), by lia, ck4.trans ck5⟩
    · repeat tb_start
      refine B.callX (mk_Let (R1.le (by exact Nat.le_of_ble_eq_true rfl)) _ _ _) (fun x Gx gx hx => ?_)
      repeat tb_start
      exact endL (g9.trans gx) hx
end
/-- which arguments are put ahead -/
class inductive Sel (S : Sgs) (f : N) (n0 : Nat) (ts : List Tm) : Nat → Nat → List Tm → List (N × Tm) → Prop
  | zero : Sel S f n0 ts 0 n0 ts []
  | skip {i n us hp} : Sel S f n0 ts i n us hp → Sel S f n0 ts (i + 1) n us hp
  | take {i n us hp u} : Sel S f n0 ts i n us hp → Flag S f i → us[i]? = some u → Sel S f n0 ts (i + 1) (n + 1) (us.set i (.var (nm "arg" (n + 1)))) (hp ++ [(nm "arg" (n + 1), u)])
inductive Sel0 (n0 : Nat) (ts : List Tm) : Nat → List Tm → List (N × Tm) → Prop
  | zero : Sel0 n0 ts n0 ts []
inductive Sel1 (S : Sgs) (f : N) (n0 : Nat) (ts : List Tm) (i : Nat) : Nat → List Tm → List (N × Tm) → Prop
  | skip {n us hp} : Sel S f n0 ts i n us hp → Sel1 S f n0 ts i n us hp
  | take {n us hp u} : Sel S f n0 ts i n us hp → Flag S f i → us[i]? = some u → Sel1 S f n0 ts i (n + 1) (us.set i (.var (nm "arg" (n + 1)))) (hp ++ [(nm "arg" (n + 1), u)])
noncomputable def SelI (S : Sgs) (f : N) (n0 : Nat) (ts : List Tm) : Nat → Nat → List Tm → List (N × Tm) → Prop
  | 0 => Sel0 n0 ts
  | i + 1 => Sel1 S f n0 ts i
theorem Sel.inv {S : Sgs} {f : N} {n0 : Nat} {ts : List Tm} {i n us hp} (h : Sel S f n0 ts i n us hp) : SelI S f n0 ts i n us hp := by
  induction h with
  | zero => exact Sel0.zero
  | skip h => exact Sel1.skip h
  | take h a b => exact Sel1.take h a b
theorem Sel.inv0 {S : Sgs} {f : N} {n0 : Nat} {ts : List Tm} {n us hp} (h : Sel S f n0 ts 0 n us hp) : Sel0 n0 ts n us hp := h.inv
theorem Sel.inv1 {S : Sgs} {f : N} {n0 : Nat} {ts : List Tm} {i n us hp} (h : Sel S f n0 ts (i + 1) n us hp) : Sel1 S f n0 ts i n us hp := h.inv
theorem Sel.len {S : Sgs} {f : N} {n0 : Nat} {ts : List Tm} {i n : Nat} {us : List Tm} {hp : List (N × Tm)} (h : Sel S f n0 ts i n us hp) : us.length = ts.length := by
  induction h with
  | zero => rfl
  | skip _ ih => exact ih
  | take _ _ _ ih => rw [List.length_set]; exact ih
theorem Sel.le {S : Sgs} {f : N} {n0 : Nat} {ts : List Tm} {i n : Nat} {us : List Tm} {hp : List (N × Tm)} (h : Sel S f n0 ts i n us hp) : n0 ≤ n ∧ n ≤ n0 + i ∧ hp.length ≤ i := by
  induction h with
  | zero => exact ⟨Nat.le_refl _, Nat.le_refl _, Nat.le_refl _⟩
  | skip _ ih => lia
  | take _ _ _ ih => simp only [List.length_append, List.length_cons, List.length_nil]; lia
noncomputable def wrapT (l : List (N × Tm)) (b : Tm) : Tm := l.foldl (fun t p => .seq p.2 p.1 t) b
noncomputable def apT (f : N) : List Tm → Tm
  | [u] => .ap1 f u
  | [u, w] => .ap2 f u w
  | _ => .err
theorem sel_one {S : Sgs} {f : N} {n0 k n : Nat} {p p' : Tm} {us : List Tm} {hp : List (N × Tm)} (hk : k ≤ 1) (fo : Fo S p p') (h : Sel S f n0 [p'] k n us hp) : Fo S (.ap1 f p) (wrapT hp.reverse (apT f us)) := by
  match k, hk with
  | 0, _ => replace h := h.inv0; induction h; exact .ap1 fo
  | 1, _ =>
    replace h := h.inv1; induction h with
    | skip h => replace h := h.inv0; induction h; exact .ap1 fo
    | take h fl hu => replace h := h.inv0; induction h; cases hu; exact .ap1S fl (nm_arg _) fo
theorem sel_two {S : Sgs} {f : N} {n0 k n : Nat} {p p' q q' : Tm} {us : List Tm} {hp : List (N × Tm)} (hk : k ≤ 2) (fo : Fo S p p') (fq : Fo S q q') (h : Sel S f n0 [p', q'] k n us hp) : Fo S (.ap2 f p q) (wrapT hp.reverse (apT f us)) := by
  match k, hk with
  | 0, _ => replace h := h.inv0; induction h; exact .ap2 fo fq
  | 1, _ =>
    replace h := h.inv1; induction h with
    | skip h => replace h := h.inv0; induction h; exact .ap2 fo fq
    | take h fl hu => replace h := h.inv0; induction h; cases hu; exact .ap2L fl (nm_arg _) fo fq
  | 2, _ =>
    replace h := h.inv1; induction h with
    | skip h =>
      replace h := h.inv1; induction h with
      | skip h => replace h := h.inv0; induction h; exact .ap2 fo fq
      | take h fl hu => replace h := h.inv0; induction h; cases hu; exact .ap2L fl (nm_arg _) fo fq
    | take h fl hu =>
      replace h := h.inv1; induction h with
      | skip h => replace h := h.inv0; induction h; cases hu; exact .ap2R fl (nm_arg _) fo fq
      | take h fl2 hu2 => replace h := h.inv0; induction h; cases hu2; cases hu; exact .ap2B fl2 fl (nm_arg _) (nm_arg _) (nm_arg_ne (by lia)) fo fq
section
variable {D : Wd} {A : Around} {F : Fn} {G C G' C' : PM} {m : LM} {h : Heap} {env : Env} {pos : Pos}
/-- the arguments as they are worked on -/
inductive FInv (D : Wd) (S : Sgs) (fr dn : Addr) (ts : List Tm) (n : Nat) (C : PM) (i : Nat) (ys : List Value) (G' C' : PM) : Prop
  | mk : ∀ ts' n', (PySem.Paired (TmA G') ys ts') → (PySem.Paired (Fo S) (ts.take i) ts') → (FrS D G' C' fr dn n') → (n ≤ n') → (n' ≤ n + ((ts.take i).map acN).sum) → (CK C C' [dn]) → FInv D S fr dn ts n C i ys G' C'
theorem FInv.next {S : Sgs} {fr dn : Addr} {ts : List Tm} {n n' n'' i : Nat} {C₀ C' : PM} {ys : List Value} {ts' : List Tm} {r : Value} {t t' : Tm} (hp : PySem.Paired (TmA G) ys ts') (hq : PySem.Paired (Fo S) (ts.take i) ts') (h1 : n ≤ n') (h2 : n' ≤ n + ((ts.take i).map acN).sum) (ck : CK C₀ C [dn]) (ht : ts[i]? = some t)
    (g : GLe G G') (tm : TmA G' r t') (fo : Fo S t t') (hs : FrS D G' C' fr dn n'') (h3 : n' ≤ n'') (h4 : n'' ≤ n' + acN t) (ck' : CK C C' [dn]) : FInv D S fr dn ts n C₀ (i + 1) (ys ++ [r]) G' C' := by
  have e : ts.take (i + 1) = ts.take i ++ [t] := by rw [List.take_add_one, ht]; rfl
  exact ⟨ts' ++ [t'], n'', (Paired.imp (fun _ _ h => h.up g) hp).snoc tm, by rw [e]; exact hq.snoc fo, hs, by exact Nat.le_trans (by assumption) (by assumption), by rw [e, List.map_append, List.sum_append]; simp only [List.map_cons, List.map_nil, List.sum_cons, List.sum_nil]; lia, ck.trans ck'⟩
theorem sum_take (l : List Nat) (i : Nat) : (l.take i).sum ≤ l.sum := by
  induction l generalizing i with
  | nil => simp
  | cons a l ih => cases i with
    | zero => simp
    | succ i => have := ih i; simp; lia
theorem apT_is {x vf la : Addr} {f : N} {t : Tok} {as : List Value} {us : List Tm} (hx : InA G x 141 [(sS "fun", .ref vf), (sS "args", .ref la)]) (hv : InA G vf 59 [(sS "name", .str f t)]) (hl : LsA G la as) (hp : PySem.Paired (TmA G) as us) (hn : us.length = 1 ∨ us.length = 2) : TmA G (.ref x) (apT f us) := by
  rcases hn with hn | hn
  · obtain ⟨w, u, rfl, rfl, p⟩ := paired_one hp hn
    exact ⟨x, vf, t, la, w, rfl, hx, hv, hl, p⟩
  · obtain ⟨w, w', u, u', rfl, rfl, p, p'⟩ := paired_two hp hn
    exact ⟨x, vf, t, la, w, w', rfl, hx, hv, hl, p, p'⟩
end
section
variable {D : Wd} {A : Around} {F : Fn} {G C G' C' : PM} {m : LM} {h : Heap} {env : Env} {pos : Pos}
/-- what call does: the arguments, the ones put ahead -/
inductive CPost (D : Wd) (S : Sgs) (f : N) (fr dn : Addr) (ts : List Tm) (n : Nat) (C : PM) (r : Value) (G' C' : PM) : Prop
  | mk : ∀ ts' n1 k n2 us hp, (PySem.Paired (Fo S) ts ts') → (Sel S f n1 ts' k n2 us hp) → (k ≤ ts.length) → (TmA G' r (wrapT hp.reverse (apT f us))) → (FrS D G' C' fr dn n2) → (n ≤ n2) → (n2 ≤ n + (ts.map acN).sum + ts.length) → (CK C C' [dn]) → CPost D S f fr dn ts n C r G' C'
theorem paired_set {α β : Type} {R : α → β → Prop} {x : α} {y : β} : ∀ {l : List α} {k : List β} {i : Nat}, PySem.Paired R l k → R x y → PySem.Paired R (l.set i x) (k.set i y)
  | _, _, _, .nil, _ => .nil
  | _, _, 0, .cons _ h, r => .cons r h
  | _, _, i + 1, .cons a h, r => .cons a (paired_set h r)
theorem paired_rev {α β : Type} {R : α → β → Prop} : ∀ {l : List α} {k : List β}, PySem.Paired R l k → PySem.Paired R l.reverse k.reverse
  | _, _, .nil => .nil
  | _, _, .cons a h => by rw [List.reverse_cons, List.reverse_cons]; exact (paired_rev h).snoc a
theorem force_var {fo vf ea : Addr} {f : N} {t : Tok} (R : Room A 2) (hv : InA G vf 59 [(sS "name", .str f t)]) : CodeOk D A (.ref 544) [.ref fo, .ref vf, .ref ea] G C (fun r G' C' => C' = C ∧ r = .ref vf) := by
  refine CodeOk.drop ?_
  refine codeOk_cellsB (binds := [(sS "self", .ref fo), (sS "expr", .ref vf), (sS "env", .ref ea)]) (look544 _) (by kernel_rfl) R.lt rfl (by kernel_rfl) ?_
  intro F hG hC G₁ C₁ cs₀ env₀ A₀ m₀ cl Q₀ q₀
  have c0 := cl.c
  have hv1 := hv.up cl.g
  refine B.cons ?_
  repeat tb_start
  refine B.tuple ?_
  repeat tb_start
  refine ⟨Nat.le_of_ble_eq_true rfl, fun ta Gt gt htp => ?_⟩
  repeat tb_start
  walk_at "mine.tyes"
  repeat tb_start
  exact ⟨c0, rfl⟩
/-- behind the loop that puts arguments ahead -/
inductive MidA (D : Wd) (S : Sgs) (f : N) (fr dn la lh : Addr) (ts' : List Tm) (n1 kk : Nat) (C : PM) (k : Nat) (G' C' : PM) : Prop
  | mk : ∀ n2 us hp as hs oa oh, (Sel S f n1 ts' k n2 us hp) → (k ≤ kk) → (PySem.Paired (TmA G') as us) → (PySem.Paired (fun (x : Value) (p : N × Tm) => Ex3 fun tp t w => And3 (x = .ref tp) (TpA G' tp [.str p.1 t, w]) (TmA G' w p.2)) hs hp) → (C' la = some oa) → (LsO oa as) → (C' lh = some oh) → (PlO oh hs) → (FrS D G' C' fr dn n2) → (CK C C' [dn]) → MidA D S f fr dn la lh ts' n1 kk C k G' C'
theorem fcall_ok {d : Nat} (ih : ForceOk D d) {fo fr dn ea a vf l : Addr} {f : N} {tf : Tok} {ws : List Value} {ts : List Tm} {S : Sgs} {n : Nat} (R : Room A (10 * d + 63)) (hf : InA G fo 562 [(sS "fresh", .ref fr)]) (hs : FrS D G C fr dn n) (hn : n + (ts.map acN).sum + ts.length < 90000)
    (hi : InA G a 141 [(sS "fun", .ref vf), (sS "args", .ref l)]) (hv : InA G vf 59 [(sS "name", .str f tf)]) (hl : LsA G l ws) (hw : PySem.Paired (TmA G) ws ts) (hlen : ts.length = 1 ∨ ts.length = 2) (hsrc : ∀ t ∈ ts, Src t ∧ Mine.ht t ≤ d) (hd : d ≤ 6) (he : EnvA D G ea S) (hz : SzS S) :
    CodeOk D A (.ref 559) [.ref fo, .ref a, .ref ea] G C (CPost D S f fr dn ts n C) := by
  refine codeOk_cellsB (binds := [(sS "self", .ref fo), (sS "expr", .ref a), (sS "env", .ref ea)]) (look559 _) (by kernel_rfl) (R.le (by exact Nat.le_of_ble_eq_true rfl : 1 ≤ _)).lt rfl (by kernel_rfl) ?_
  intro F hG hC G₁ C₁ cs₀ env₀ A₀ m₀ cl Q₀ q₀
  have k1 := cl.pA (sS "self") rfl rfl
  have k2 := cl.pA (sS "env") rfl rfl
  have g0 := cl.g
  have hs1 : FrS D G₁ C₁ fr dn n := (hs.up g0).ck cl.c
  have ck0 := cl.ck (as := [dn])
  have hi1 := hi.up g0
  have hl1 := hl.up g0
  have hwl : ws.length = ts.length := hw.length
  have R1 : Room A₀ (10 * d + 62) := (R.le (by exact Nat.lt_succ_self _ : (10 * d + 62) + 1 ≤ _)).deeper
  refine B.cons ?_
  refine B.asgTupleW (names := [sS "args", sS "ahead"]) R1.h ?_ rfl rfl
  refine B.tuple ?_
  repeat tb_start
  refine B.listCompC (cl := ?cl1) ?x1 ?h11 ?h12 rfl ?h14 ?h15
  case h11 => exact rfl
  case h12 => decide
  case h14 => decide
  case h15 => exact fun _ => rfl
  repeat tb_start
  refine ⟨ws.length, _, FInv D S fr dn ts n C, iter_list R1.h hl1, by rw [sizeLine_eq]; lia, ⟨[], n, .nil, by simpa using PySem.Paired.nil, hs1, Nat.le_refl _, by simp, ck0⟩, ?_, ?_⟩
  · intro j x ys Gj Cj mj Fj hj hFG hFC hgj inv hP
    refine B.opq fun Q₁ q₁ => ?_
    obtain ⟨ts', n', hp1, hp2, hs2, hn1, hn2, ck2⟩ := inv
    obtain ⟨t, ht, htm⟩ := paired_get hw hP
    have htt := hsrc t (List.mem_of_getElem? ht)
    have hj1 : ((ts.take j).map acN).sum + acN t ≤ (ts.map acN).sum := by
      have := sum_take (ts.map acN) (j + 1)
      rw [← List.map_take, List.take_add_one, ht, List.map_append, List.sum_append] at this
      simpa using this
    obtain ⟨ax, rfl⟩ := htm.ref
    have gj := g0.trans hgj
    have hf2 := hf.up gj
    have htm2 := htm.up gj
    have he2 := he.up gj
    clear gj
    repeat tb_start
    walk_at "mine.me"
    repeat tb_start
    refine B.callOk (ih (R1.le (by exact le1 rfl)) hf2 hs2 (by lia) htm2 htt.1 htt.2 hd he2 hz).call (fun r3 G3 C3 g3 p3 => ?_)
    obtain ⟨t', n3, tm3, fo3, hs3, hn3, hn4, ck3⟩ := p3
    exact FInv.next hp1 hp2 hn1 hn2 ck2 ht g3 tm3 fo3 hs3 hn3 hn4 ck3
  · intro ys Gj Cj la oa hgj inv hga hca hfa hpa
    obtain ⟨ts', n1, hp1, hp2, hs2, hn1, hn2, ck2⟩ := inv
    rw [hwl, List.take_length] at hp2 hn2
    repeat tb_start
    refine B.listC ?_
    repeat tb_start
    refine ⟨Nat.le_of_ble_eq_true rfl, fun lh oh hgh hch hfh hph => ?_⟩
    repeat tb_start
    refine ⟨Nat.le_of_ble_eq_true rfl, fun ta Gt gt htt => ?_⟩
    refine ⟨ta, _, rfl, htt, rfl, ?_⟩
    have nea : la ≠ dn := hs2.ne hca
    have neh0 : C lh = none := by rw [← hC]; exact hfh
    have nea0 : C la = none := by rw [← hC]; exact hfa
    obtain ⟨nlh, hch⟩ := up_none hch
    have neh : lh ≠ dn := hs2.ne hch
    have gg := (g0.trans hgj).trans gt
    have hf2 := hf.up gg
    have hi2 := hi.up gg
    have hv2 := hv.up gg
    have hl2 := hl.up gg
    have hw2 := Paired.imp (fun _ _ h => h.up gg) hw
    have he2 := he.up gg
    have k1b := (k1.up hgj).up gt
    have k2b := (k2.up hgj).up gt
    have hp1b := Paired.imp (fun _ _ (h : TmA Gj _ _) => h.up gt) hp1
    clear gg
    have hs3 : FrS D Gt (Mine.up (Mine.up Cj la oa) lh oh) fr dn n1 := ((hs2.up gt).upA nea).upA neh
    have ck3 : CK C (Mine.up (Mine.up Cj la oa) lh oh) [dn] := (ck2.upD nea0).upD neh0
    have ca3 : Mine.up (Mine.up Cj la oa) lh oh la = some oa := by rw [up_ne (Ne.symm nlh), up_self]
    have ch3 : Mine.up (Mine.up Cj la oa) lh oh lh = some oh := up_self
    generalize hC3 : Mine.up (Mine.up Cj la oa) lh oh = C3 at hs3 ck3 ca3 ch3 ⊢
    refine B.inOrder ?_
    repeat tb_start
    refine B.inOrder ?_
    repeat tb_start
    refine B.inOrder0 ?_
    repeat tb_start
    walk_at "mine.yes"
    repeat tb_start
    obtain ⟨kvs, hkd, hkl, hks⟩ := id he2
    refine B.methD PySem.F.slot_dict_get PySem.F.type_dict_get (.inl hkd) ?_
    repeat tb_start
    refine B.dictGet1 (.inl hkd) ?_
    tb_start
    have hlen' : ts'.length = ts.length := hp2.length.symm
    refine Then.next (B.cons (B.mono (Q := fun fl G' C' m' => fl = .next ∧ ∃ k, And5 (MidA D S f fr dn la lh ts' n1 ts.length C k G' C') (GLe Gt G') (m' (sS "args") = some (.ref la)) (m' (sS "ahead") = some (.ref lh)) (m' (sS "expr") = some (.ref a))) ?first ?rest))
    case rest =>
      intro fl G5 C5 m5 hq
      obtain ⟨rfl, k, ⟨n2, us, hp, as, hs', oa', oh', sel, hik, pau, phs, ca', loa, ch', plh, hsi', cki⟩, g5, q1, q2, q3⟩ := hq
      refine Then.next ?_
      refine B.freeze2 ca' hfa (fun G6 g6 h6 => ?_)
      have hla6 : LsA G6 la as := ⟨oa', h6, loa⟩
      have gg := g5.trans g6
      have hf6 := hf2.up gg
      have hi6 := hi2.up gg
      have hv6 := hv2.up gg
      have k1c := k1b.up gg
      have k2c := k2b.up gg
      clear gg
      have ck6 : CK C (rm C5 la) [dn] := fun b o e n => by
        rw [rm_ne (fun z => by rw [z, nea0] at e; cases e)]; exact cki b o e n
      have ch6 : rm C5 la lh = some oh' := by rw [rm_ne nlh]; exact ch'
      have hs6 : FrS D G6 (rm C5 la) fr dn n2 := by
        obtain ⟨da, l0, on, i0, d0, x0, z0, c0, o0⟩ := hsi'.up g6
        exact ⟨da, l0, on, i0, d0, x0, z0, by rw [rm_ne (Ne.symm nea)]; exact c0, o0⟩
      generalize rm C5 la = C6 at *
      repeat tb_start
      walk_at "mine.me"
      repeat tb_start
      refine B.callOk (force_var (R1.le (by exact Nat.le_of_ble_eq_true rfl)) hv6).call (fun r7 G7 C7 g7 p7 => ?_)
      obtain ⟨rfl, rfl⟩ := p7
      repeat tb_start
      refine B.callX (mk_App (R1.le (by exact Nat.le_of_ble_eq_true rfl)) _ _) (fun x8 G8 g8 hx8 => ?_)
      have g68 := g7.trans g8
      have hbase : TmA G8 (.ref x8) (apT f us) := apT_is hx8 (hv6.up g68) (hla6.up g68) (Paired.imp (fun _ _ h => h.up (g6.trans g68)) pau) (by rw [sel.len, hlen']; exact hlen)
      have phs8 := Paired.imp (fun _ _ (h : Ex3 fun tp t w => And3 (_ = Value.ref tp) (TpA G5 tp [.str _ t, w]) (TmA G5 w _)) => (let ⟨tp, t, w, e, h1, h2⟩ := h; (⟨tp, t, w, e, h1.up (g6.trans g68), h2.up (g6.trans g68)⟩ : Ex3 fun tp t w => And3 (_ = Value.ref tp) (TpA G8 tp [.str _ t, w]) (TmA G8 w _)))) phs
      have sell := sel.le
      repeat tb_start
      refine B.for ?x5
      refine B.revList ?_
      repeat tb_start
      refine B.negInt (fun _ => ?_)
      refine ⟨lh, hs', _, rfl, rfl, .inr ⟨oh', ch6, plh.ls⟩, by rw [phs.length, sizeLine_eq]; lia, fun lr G9 g9 hlr => ?_⟩
      refine ⟨hs'.reverse.length, _, fun i G' C' m' => C' = C7 ∧ ∃ fv, m' (sS "found") = some fv ∧ TmA G' fv (wrapT (hp.reverse.take i) (apT f us)), iter_list R1.h hlr, ⟨rfl, _, rfl, hbase.up g9⟩, ?_, ?_⟩
      · intro i v Gi Ci mi Fih hi' hg inv hP Fi
        refine B.opq fun Q₁ q₁ => ?_
        obtain ⟨rfl, fv, hfv, htmf⟩ := inv
        obtain ⟨⟨nx, tx⟩, hpi, tp, t, w, rfl, htp, htw⟩ := paired_get (paired_rev phs8) hP
        refine B.asgTuple R1.h ((htp.up g9).up hg) rfl rfl ?_
        refine B.inOrder ?_
        repeat tb_start
        refine B.inOrder ?_
        repeat tb_start
        refine B.inOrder0 ?_
        repeat tb_start
        refine B.list ?_
        repeat tb_start
        refine ⟨Nat.le_of_ble_eq_true rfl, fun lo Gl gl hlo => ?_⟩
        repeat tb_start
        refine B.callX (mk_Case (R1.le (by exact Nat.le_of_ble_eq_true rfl)) _ _ _ _) (fun x Gx gx hx => ?_)
        repeat tb_start
        refine ⟨rfl, _, rfl, ?_⟩
        rw [List.take_add_one, hpi]
        show TmA Gx (.ref x) (wrapT (hp.reverse.take i ++ [(nx, tx)]) (apT f us))
        unfold wrapT
        rw [List.foldl_append]
        exact ⟨x, w, t, lo, fv, rfl, hx, hlo.up gx, (((htw.up g9).up hg).up gl).up gx, (htmf.up gl).up gx⟩
      · intro Gi Ci mi hg inv
        obtain ⟨rfl, fv, hfv, htmf⟩ := inv
        repeat tb_start
        have el : hs'.reverse.length = hp.reverse.length := by rw [List.length_reverse, List.length_reverse, phs.length]
        rw [el, List.take_length] at htmf
        exact ⟨ts', n1, k, n2, us, hp, hp2, sel, hik, htmf, ((hs6.up (g7.trans g8)).up g9).up hg, by lia, by lia, ck6⟩
    case first =>
      have hyl : ys.length = ts.length := by rw [hp1.length, hlen']
      have mid0 : ∀ {G'}, GLe Gt G' → MidA D S f fr dn la lh ts' n1 ts.length C 0 G' C3 := fun {G'} g => ⟨n1, ts', [], ys, [], oa, oh, .zero, Nat.zero_le _, Paired.imp (fun _ _ h => h.up g) hp1b, .nil, ca3, hpa.ls, ch3, hph, hs3.up g, ck3⟩
      rcases hks f with ⟨e1, e2⟩ | ⟨s, vs, e1, e2, sg⟩
      · rw [e2, Option.getD_none]
        repeat tb_start
        refine B.notNoneT ?_
        repeat tb_start
        exact ⟨rfl, 0, mid0 .rfl, .rfl, rfl, rfl, rfl⟩
      · obtain ⟨sa, lf, df, rfl, hsi, hlf, hdf⟩ := sg
        rw [show (valueAt kvs f).getD Value.none = .ref sa by rw [e2]; rfl]
        have hzf := hz f s e1
        repeat tb_start
        refine B.notNoneF ?_
        repeat tb_start
        cases hdv : s.div
        · rw [hdv] at hsi
          repeat tb_start
          refine B.lenL (.inr ⟨oa, ca3, hpa.ls⟩) (by lia) (fun _ => ?_)
          repeat tb_start
          refine B.lenL (.inl hlf) (by simp; lia) (fun _ => ?_)
          repeat tb_start
          have hfl : (s.flags.map Value.bool).length = s.flags.length := List.length_map _
          cases hge : decide (((ys.length : Nat) : Int) ≥ (((s.flags.map Value.bool).length : Nat) : Int))
          · repeat tb_start
            exact ⟨rfl, 0, mid0 .rfl, .rfl, rfl, rfl, rfl⟩
          · have hge' : s.flags.length ≤ ts.length := by rw [decide_eq_true_iff, hfl, hyl] at hge; lia
            repeat tb_start
            refine B.for ?x
            repeat tb_start
            refine B.lenL (.inl hlf) (by simp; lia) (fun _ => ?_)
            repeat tb_start
            refine B.range (fun ra Gr gr hr => ?_)
            refine ⟨(s.flags.map Value.bool).length, _, fun i G' C' m' => And5 (MidA D S f fr dn la lh ts' n1 ts.length C i G' C') (m' (sS "args") = some (.ref la)) (m' (sS "ahead") = some (.ref lh)) (m' (sS "expr") = some (.ref a)) (m' (sS "known") = some (.ref sa)), iter_range R1.h (by lia) hr, ⟨mid0 gr, rfl, rfl, rfl, rfl⟩, ?_, ?_⟩
            · intro i v Gi Ci mi Fih hi' hg inv hP Fi
              refine B.opq fun Q₁ q₁ => ?_
              obtain ⟨⟨n2, us, hp, as, hs', oa', oh', sel, hik, pau, phs, ca', loa, ch', plh, hsi', cki⟩, q1, q2, q3, q4⟩ := inv
              obtain ⟨t, rfl⟩ := hP
              have hsiG := (hsi.up gr).up hg
              have hlfG := (hlf.up gr).up hg
              have hi3 := (hi2.up gr).up hg
              have hl3 := (hl2.up gr).up hg
              have hw3 := Paired.imp (fun _ _ h => (h.up gr).up hg) hw2
              have hf3 := (hf2.up gr).up hg
              have k1i := (k1b.up gr).up hg
              have hil : i < s.flags.length := by lia
              have hfi : (s.flags.map Value.bool)[((i : Nat) : Int).toNat]? = some (.bool s.flags[i]) := by rw [Int.toNat_natCast, List.getElem?_map, List.getElem?_eq_getElem hil]; rfl
              repeat tb_start
              refine B.itemL (.inl hlfG) (by exact Int.natCast_nonneg _) (by lia) hfi ?_
              repeat tb_start
              cases hflag : s.flags[i]
              · repeat tb_start
                exact ⟨⟨n2, us, hp, as, hs', oa', oh', .skip sel, by exact Nat.le_trans (by assumption) (by assumption), pau, phs, ca', loa, ch', plh, hsi', cki⟩, by walk_at "mine.nm", by walk_at "mine.nm", by walk_at "mine.nm", by walk_at "mine.nm"⟩
              · repeat tb_start
                have hiw : i < ws.length := by lia
                obtain ⟨tt', htt', htmw⟩ := paired_get hw3 (List.getElem?_eq_getElem hiw)
                refine B.itemL (.inl hl3) (by exact Int.natCast_nonneg _) (by lia) (by rw [Int.toNat_natCast]; exact List.getElem?_eq_getElem hiw) ?_
                repeat tb_start
                refine B.callC (done_ok (R1.le (by exact Nat.le_of_ble_eq_true rfl)) htmw) (fun r5 G5 g5 p5 => ?_)
                subst p5
                have k1j := k1i.up g5
                cases hdone : doneB tt'
                · have selL := sel.le
                  have hf5 := hf3.up g5
                  have hs5 := hsi'.up g5
                  obtain ⟨da, lav, on, hfr, _⟩ := id hs5
                  repeat tb_start
                  refine B.getMeth (f := 608) (.inl hfr) rfl ?gm1 ?gm2 ?gm3 ?_
                  case gm1 => kernel_rfl
                  case gm2 => kernel_rfl
                  case gm3 => kernel_rfl
                  repeat tb_start
                  refine B.callOk (next_ok (R1.le (by exact Nat.le_of_ble_eq_true rfl)) hs5 (by lia)).call (fun r6 G6 C6 g6 p6 => ?_)
                  obtain ⟨⟨t6, rfl⟩, hs6, ck6⟩ := p6
                  have nna : la ∉ [dn] := fun z => nea (List.mem_singleton.mp z)
                  have nnh : lh ∉ [dn] := fun z => neh (List.mem_singleton.mp z)
                  have ca6 := ck6 _ _ ca' nna
                  have ch6 := ck6 _ _ ch' nnh
                  repeat tb_start
                  refine B.methAppend ch6 plh ?_
                  repeat tb_start
                  refine B.tuple ?_
                  repeat tb_start
                  have has : as.length = ts.length := by rw [pau.length, sel.len, hlen']
                  have hias : i < as.length := by lia
                  obtain ⟨u, hu, hau⟩ := paired_get pau (List.getElem?_eq_getElem hias)
                  refine B.itemL (.inr ⟨oa', ca6, loa⟩) (by exact Int.natCast_nonneg _) (by lia) (by rw [Int.toNat_natCast]; exact List.getElem?_eq_getElem hias) ?_
                  repeat tb_start
                  refine ⟨Nat.le_of_ble_eq_true rfl, fun tp G7 g7 htp => ?_⟩
                  repeat tb_start
                  refine B.append ch6 plh (by rw [phs.length, sizeLine_eq]; lia) (fun o8 ho8 => ?_)
                  repeat tb_start
                  refine B.callX (mk_Var (R1.le (by exact Nat.le_of_ble_eq_true rfl)) _) (fun x9 G9 g9 hx9 => ?_)
                  repeat tb_start
                  refine B.setL (by rw [up_ne (Ne.symm nlh)]; exact ca6) loa (by exact Int.natCast_nonneg _) (by lia) (by lia) (fun o10 ho10 => ?_)
                  repeat tb_start
                  rw [Int.toNat_natCast] at ho10
                  have g69 := (g6.trans g7).trans g9
                  have g59 := g5.trans g69
                  refine ⟨⟨n2 + 1, _, _, _, _, o10, o8, .take sel ⟨s, e1, hdv, by rw [List.getElem?_eq_getElem hil, hflag]⟩ hu, by lia, paired_set (Paired.imp (fun _ _ h => h.up g59) pau) ⟨x9, _, rfl, hx9⟩, (Paired.imp (fun _ _ ⟨tp, t, w, e, h1, h2⟩ => ⟨tp, t, w, e, h1.up g59, h2.up g59⟩) phs).snoc ⟨tp, _, _, rfl, htp.up g9, hau.up g59⟩, up_self, ho10, by rw [up_ne nlh]; exact up_self, ho8, ((hs6.up (g7.trans g9)).upA neh).upA nea, ((cki.trans ck6).upD neh0).upD nea0⟩, by walk_at "mine.nm", by walk_at "mine.nm", by walk_at "mine.nm", by walk_at "mine.nm"⟩
                · repeat tb_start
                  exact ⟨⟨n2, us, hp, as, hs', oa', oh', .skip sel, by lia, Paired.imp (fun _ _ h => h.up g5) pau, Paired.imp (fun _ _ ⟨tp, t, w, e, h1, h2⟩ => ⟨tp, t, w, e, h1.up g5, h2.up g5⟩) phs, ca', loa, ch', plh, hsi'.up g5, cki⟩, by walk_at "mine.nm", by walk_at "mine.nm", by walk_at "mine.nm", by walk_at "mine.nm"⟩
            · intro Gi Ci mi hg inv
              obtain ⟨hm, q1, q2, q3, q4⟩ := inv
              repeat tb_start
              exact ⟨rfl, _, hm, gr.trans hg, q1, q2, q3⟩
        · rw [hdv] at hsi
          repeat tb_start
          exact ⟨rfl, 0, mid0 .rfl, .rfl, rfl, rfl, rfl⟩
end
section
variable {D : Wd} {A : Around} {F : Fn} {G C G' C' : PM} {m : LM} {h : Heap} {env : Env} {pos : Pos}
theorem FPost.from {C₀ : PM} {S : Sgs} {fr dn : Addr} {t : Tm} {n : Nat} {r : Value} (ck : CK C₀ C [dn]) (p : FPost D S fr dn t n C r G' C') : FPost D S fr dn t n C₀ r G' C' := let ⟨t', n', a, b, c, d, e, f⟩ := p; ⟨t', n', a, b, c, d, e, ck.trans f⟩
theorem CPost.one {C₀ : PM} {S : Sgs} {fr dn : Addr} {f : N} {p : Tm} {n : Nat} {r : Value} (ck : CK C₀ C [dn]) (h : CPost D S f fr dn [p] n C r G' C') : FPost D S fr dn (.ap1 f p) n C₀ r G' C' := by
  obtain ⟨ts', n1, k, n2, us, hp, h1, h2, h3, h4, h5, h6, h7, h8⟩ := h
  obtain ⟨p', e⟩ : ∃ p', ts' = [p'] ∧ Fo S p p' := by
    cases h1 with
    | cons a b => cases b; exact ⟨_, rfl, a⟩
  obtain ⟨rfl, fo⟩ := e
  exact ⟨_, n2, h4, sel_one h3 fo h2, h5, h6, by simpa [acN, Nat.add_assoc] using h7, ck.trans h8⟩
theorem CPost.two {C₀ : PM} {S : Sgs} {fr dn : Addr} {f : N} {p q : Tm} {n : Nat} {r : Value} (ck : CK C₀ C [dn]) (h : CPost D S f fr dn [p, q] n C r G' C') : FPost D S fr dn (.ap2 f p q) n C₀ r G' C' := by
  obtain ⟨ts', n1, k, n2, us, hp, h1, h2, h3, h4, h5, h6, h7, h8⟩ := h
  obtain ⟨p', q', e⟩ : Ex2 fun p' q' => And3 (ts' = [p', q']) (Fo S p p') (Fo S q q') := by
    cases h1 with
    | cons a b =>
      cases b with
      | cons b c => cases c; exact ⟨_, _, rfl, a, b⟩
  obtain ⟨rfl, fo, fq⟩ := e
  refine ⟨_, n2, h4, sel_two h3 fo fq h2, h5, h6, ?_, ck.trans h8⟩
  simp only [List.map_cons, List.map_nil, List.sum_cons, List.sum_nil, List.length_cons, List.length_nil] at h7
  show n2 ≤ n + (acN p + acN q + 2)
  lia
theorem force_step (d : Nat) (ih : ∀ d', d = d' + 1 → ForceOk D d') : ForceOk D d := by
  intro A G C fo fr dn ea v t S n R hf hs hn ht hsrc hh hd he hz
  obtain ⟨av, rfl⟩ := ht.ref
  refine codeOk_cellsB (binds := [(sS "self", .ref fo), (sS "expr", .ref av), (sS "env", .ref ea)]) (look544 _) (by kernel_rfl) (R.le (by exact Nat.le_of_ble_eq_true rfl : 1 ≤ _)).lt rfl (by kernel_rfl) ?_
  intro F hG hC G₁ C₁ cs₀ env₀ A₀ m₀ cl Q₀ q₀
  have k1 := cl.pA (sS "self") rfl rfl
  have k2 := cl.pA (sS "env") rfl rfl
  have g0 := cl.g
  have hf1 := hf.up g0
  have he1 := he.up g0
  have hs1 : FrS D G₁ C₁ fr dn n := (hs.up g0).ck cl.c
  have ck0 := cl.ck (as := [dn])
  have ht1 := ht.up g0
  have R1 : Room A₀ (10 * d + 59) := (R.le (by exact Nat.lt_succ_self _ : (10 * d + 59) + 1 ≤ _)).deeper
  clear ht hf he hs g0
  refine B.cons ?_
  repeat tb_start
  refine B.tuple ?_
  repeat tb_start
  refine ⟨Nat.le_of_ble_eq_true rfl, fun ta Gt gt htp => ?_⟩
  repeat tb_start
  have ht2 := ht1.up gt
  have hf2 := hf1.up gt
  have he2 := he1.up gt
  have hs2 := hs1.up gt
  clear ht1 hf1 he1 hs1
  cases t with
  | seq v x o => exact hsrc.elim
  | var x =>
    have ht0 := ht2
    obtain ⟨a, tx, e, hi⟩ := ht2
    obtain rfl := Value.ref.inj e
    walk_at "mine.tyes"
    repeat tb_start
    exact ⟨.var x, n, ht0, .var, hs2, Nat.le_refl _, by exact Nat.le_add_right _ _, ck0⟩
  | lit i =>
    have ht0 := ht2
    obtain ⟨a, tx, ty, e, hi⟩ := ht2
    obtain rfl := Value.ref.inj e
    walk_at "mine.tyes"
    repeat tb_start
    exact ⟨.lit i, n, ht0, .lit, hs2, Nat.le_refl _, by exact Nat.le_add_right _ _, ck0⟩
  | err =>
    obtain ⟨d', rfl⟩ : ∃ d', d = d' + 1 := ⟨d - 1, by have : 1 ≤ d := hh; lia⟩
    obtain ⟨a, t1, l, w, b, t2, t3, e, hi, hl, rfl, hb⟩ := ht2
    obtain rfl := Value.ref.inj e
    walk_at "mine.tno"
    repeat tb_start
    walk_at "mine.no"
    repeat tb_start
    walk_at "mine.no"
    repeat tb_start
    walk_at "mine.yes"
    repeat tb_start
    refine B.listComp (cl := ?cl1) ?x1 ?h11 ?h12 rfl ?h14 ?h15
    case h11 => exact rfl
    case h12 => decide
    case h14 => decide
    case h15 => exact fun _ => rfl
    repeat tb_start
    refine ⟨1, _, FInv D S fr dn [.lit 0] n C, iter_list R1.h hl, by rw [sizeLine_eq]; lia, ⟨[], n, .nil, by simpa using PySem.Paired.nil, hs2, Nat.le_refl _, by simp, ck0⟩, ?_, ?_⟩
    · intro j x ys Gj Cj mj Fj hj hFG hFC hgj inv hP
      refine B.opq fun Q₁ q₁ => ?_
      obtain ⟨ts', n', hp1, hp2, hs3, hn1, hn2, ck2⟩ := inv
      have hj0 : j = 0 := by exact Nat.lt_one_iff.mp (by assumption)
      subst hj0
      cases hP
      have hf3 := hf2.up hgj
      have hl0 : acN (.lit 0) = 0 := rfl
      repeat tb_start
      walk_at "mine.me"
      repeat tb_start
      refine B.callOk (ih d' rfl (t := .lit 0) (R1.le (by exact le3 rfl)) hf3 hs3 (by simp at hn2; lia) ⟨b, t2, t3, rfl, hb.up hgj⟩ trivial (Nat.zero_le _) (by exact Nat.le_of_succ_le (by assumption)) (he2.up hgj) hz).call (fun r3 G3 C3 g3 p3 => ?_)
      obtain ⟨t', n3, tm3, fo3, hs3, hn3, hn4, ck3⟩ := p3
      exact FInv.next hp1 hp2 hn1 hn2 ck2 rfl g3 tm3 fo3 hs3 hn3 hn4 ck3
    · intro ys Gj Cj la G2 hgj inv hg2 hla
      obtain ⟨ts', n', hp1, hp2, hs3, hn1, hn2, ck2⟩ := inv
      obtain ⟨r3, u, rfl, rfl, tm3⟩ := paired_one hp1 hp2.length.symm
      cases hp2 with
      | cons fo3 _ =>
        cases fo3
        repeat tb_start
        refine B.callX (mk_Prim (R1.le (by exact Nat.le_of_ble_eq_true rfl)) _ _) (fun x G4 g4 hx => ?_)
        repeat tb_start
        obtain ⟨b', t4, t5, rfl, hb'⟩ := tm3
        exact ⟨.err, n', ⟨x, t1, la, .ref b', b', t4, t5, rfl, hx, hla.up g4, rfl, hb'.up (hg2.trans g4)⟩, .err, (hs3.up hg2).up g4, hn1, by simpa [acN] using hn2, ck2⟩
  | add p q =>
    have hh' : max (Mine.ht p) (Mine.ht q) + 1 ≤ d := hh
    obtain ⟨d', rfl⟩ : ∃ d', d = d' + 1 := ⟨d - 1, by exact ds1 (by assumption)⟩
    obtain ⟨a, t1, l, w, w', e, hi, hl, hp, hq⟩ := ht2
    obtain rfl := Value.ref.inj e
    walk_at "mine.tno"
    repeat tb_start
    walk_at "mine.no"
    repeat tb_start
    walk_at "mine.no"
    repeat tb_start
    walk_at "mine.yes"
    repeat tb_start
    refine B.listComp (cl := ?cl2) ?x2 ?h21 ?h22 rfl ?h24 ?h25
    case h21 => exact rfl
    case h22 => decide
    case h24 => decide
    case h25 => exact fun _ => rfl
    repeat tb_start
    have hac : acN (.add p q) = acN p + acN q := rfl
    refine ⟨2, _, FInv D S fr dn [p, q] n C, iter_list R1.h hl, by rw [sizeLine_eq]; lia, ⟨[], n, .nil, by simpa using PySem.Paired.nil, hs2, Nat.le_refl _, by simp, ck0⟩, ?_, ?_⟩
    · intro j x ys Gj Cj mj Fj hj hFG hFC hgj inv hP
      refine B.opq fun Q₁ q₁ => ?_
      obtain ⟨ts', n', hp1, hp2, hs3, hn1, hn2, ck2⟩ := inv
      have hf3 := hf2.up hgj
      obtain ⟨t, ax, ht, rfl, htm, hts, hth, htn⟩ : Ex2 fun t ax => And6 ([p, q][j]? = some t) (x = .ref ax) (TmA Gj x t) (Src t) (Mine.ht t ≤ d') (n' + acN t < 90000) := by
        match j, hj, hP with
        | 0, _, hP =>
          cases hP
          obtain ⟨ax, e⟩ := hp.ref
          refine ⟨p, ax, rfl, e, hp.up hgj, hsrc.1, by exact mx1 (by assumption), ?_⟩
          simp at hn2; lia
        | 1, _, hP =>
          cases hP
          obtain ⟨ax, e⟩ := hq.ref
          refine ⟨q, ax, rfl, e, hq.up hgj, hsrc.2, by exact mx2 (by assumption), ?_⟩
          simp at hn2; lia
      repeat tb_start
      walk_at "mine.me"
      repeat tb_start
      refine B.callOk (ih d' rfl (R1.le (by exact le3 rfl)) hf3 hs3 htn htm hts hth (by exact Nat.le_of_succ_le (by assumption)) (he2.up hgj) hz).call (fun r3 G3 C3 g3 p3 => ?_)
      obtain ⟨t', n3, tm3, fo3, hs3, hn3, hn4, ck3⟩ := p3
      exact FInv.next hp1 hp2 hn1 hn2 ck2 ht g3 tm3 fo3 hs3 hn3 hn4 ck3
    · intro ys Gj Cj la G2 hgj inv hg2 hla
      obtain ⟨ts', n', hp1, hp2, hs3, hn1, hn2, ck2⟩ := inv
      obtain ⟨r3, r4, u, u', rfl, rfl, tm3, tm4⟩ := paired_two hp1 hp2.length.symm
      cases hp2 with
      | cons fo3 hp2 =>
        cases hp2 with
        | cons fo4 _ =>
          repeat tb_start
          refine B.callX (mk_Prim (R1.le (by exact Nat.le_of_ble_eq_true rfl)) _ _) (fun x G4 g4 hx => ?_)
          repeat tb_start
          have g24 := hg2.trans g4
          refine ⟨.add u u', n', ⟨x, t1, la, r3, r4, rfl, hx, hla.up g4, tm3.up g24, tm4.up g24⟩, .add fo3 fo4, hs3.up g24, hn1, ?_, ck2⟩
          simp at hn2; lia
  | case e y k p o =>
    have ht0 := ht2
    obtain ⟨a, ve, t, la, al, kt, ln, va, vo, t1, t2, t3, ev, hi, hrest⟩ := ht2
    cases ev
    have hh' : max (Mine.ht e) (max (Mine.ht p) (Mine.ht o)) + 1 ≤ d := hh
    obtain ⟨d', rfl⟩ : ∃ d', d = d' + 1 := ⟨d - 1, by exact ds1 (by assumption)⟩
    walk_at "mine.tno"
    repeat tb_start
    walk_at "mine.no"
    repeat tb_start
    walk_at "mine.no"
    repeat tb_start
    walk_at "mine.no"
    repeat tb_start
    walk_at "mine.no"
    repeat tb_start
    walk_at "mine.yes"
    repeat tb_start
    walk_at "mine.me"
    repeat tb_start
    refine B.callOk (fcase_ok (ih d' rfl) (R1.le (by exact le3 rfl)) hf2 hs2 hn ht0 ⟨hsrc.1, hsrc.2.2.1, hsrc.2.2.2⟩ (by exact mx1 (by assumption)) (by exact mx3 (by assumption)) (by exact mx4 (by assumption)) (by exact Nat.le_of_succ_le (by assumption)) he2 hz).call (fun r2 G2 C2 g2 p2 => ?_)
    repeat tb_start
    exact p2.from ck0
  | lt y e b =>
    have ht0 := ht2
    obtain ⟨a, lb, tp, t, ve, vb, ev, hi, hrest⟩ := ht2
    cases ev
    have hh' : max (Mine.ht e) (Mine.ht b) + 1 ≤ d := hh
    obtain ⟨d', rfl⟩ : ∃ d', d = d' + 1 := ⟨d - 1, by exact ds1 (by assumption)⟩
    walk_at "mine.tno"
    repeat tb_start
    walk_at "mine.no"
    repeat tb_start
    walk_at "mine.no"
    repeat tb_start
    walk_at "mine.no"
    repeat tb_start
    walk_at "mine.no"
    repeat tb_start
    walk_at "mine.no"
    repeat tb_start
    walk_at "mine.me"
    repeat tb_start
    refine B.callOk (flet_ok (ih d' rfl) (R1.le (by exact le3 rfl)) hf2 hs2 hn ht0 ⟨hsrc.1, hsrc.2.2.2⟩ (by exact mx1 (by assumption)) (by exact mx2 (by assumption)) (by exact Nat.le_of_succ_le (by assumption)) he2 hz).call (fun r2 G2 C2 g2 p2 => ?_)
    repeat tb_start
    exact p2.from ck0
  | ap1 f p =>
    obtain ⟨a, vf, t, l, w, ev, hi, hfv, hl, hp⟩ := ht2
    cases ev
    have hh' : Mine.ht p + 1 ≤ d := hh
    obtain ⟨d', rfl⟩ : ∃ d', d = d' + 1 := ⟨d - 1, by exact ds1 (by assumption)⟩
    have hac : acN (.ap1 f p) = acN p + 1 := rfl
    walk_at "mine.tno"
    repeat tb_start
    walk_at "mine.no"
    repeat tb_start
    walk_at "mine.no"
    repeat tb_start
    walk_at "mine.no"
    repeat tb_start
    walk_at "mine.yes"
    repeat tb_start
    walk_at "mine.me"
    repeat tb_start
    refine B.callOk (fcall_ok (ih d' rfl) (ts := [p]) (R1.le (by exact le3 rfl)) hf2 hs2 (by simp; lia) hi hfv hl (.cons hp .nil) (by simp) (by intro t ht; simp at ht; subst ht; exact ⟨hsrc, by exact Nat.le_of_succ_le_succ (by assumption)⟩) (by exact Nat.le_of_succ_le (by assumption)) he2 hz).call (fun r2 G2 C2 g2 p2 => ?_)
    repeat tb_start
    exact p2.one ck0
  | ap2 f p q =>
    obtain ⟨a, vf, t, l, w, w', ev, hi, hfv, hl, hp, hq⟩ := ht2
    cases ev
    have hh' : max (Mine.ht p) (Mine.ht q) + 1 ≤ d := hh
    obtain ⟨d', rfl⟩ : ∃ d', d = d' + 1 := ⟨d - 1, by exact ds1 (by assumption)⟩
    have hac : acN (.ap2 f p q) = acN p + acN q + 2 := rfl
    walk_at "mine.tno"
    repeat tb_start
    walk_at "mine.no"
    repeat tb_start
    walk_at "mine.no"
    repeat tb_start
    walk_at "mine.no"
    repeat tb_start
    walk_at "mine.yes"
    repeat tb_start
    walk_at "mine.me"
    repeat tb_start
    refine B.callOk (fcall_ok (ih d' rfl) (ts := [p, q]) (R1.le (by exact le3 rfl)) hf2 hs2 (by simp; lia) hi hfv hl (.cons hp (.cons hq .nil)) (by simp) (by intro t ht; simp at ht; rcases ht with rfl | rfl; exact ⟨hsrc.1, by exact mx1 (by assumption)⟩; exact ⟨hsrc.2, by exact mx2 (by assumption)⟩) (by exact Nat.le_of_succ_le (by assumption)) he2 hz).call (fun r2 G2 C2 g2 p2 => ?_)
    repeat tb_start
    exact p2.two ck0
theorem force_okk : ∀ d, ForceOk D d
  | 0 => force_step 0 fun _ e => absurd e (by lia)
  | d + 1 => force_step (d + 1) fun d' e => by cases e; exact force_okk d
end
section
variable {D : Wd} {A : Around} {F : Fn} {G C G' C' : PM} {m : LM} {h : Heap} {env : Env} {pos : Pos}
theorem force_lam {fo fr dn ea a : Addr} {ps : List N} {b : Tm} {S : Sgs} {n : Nat} (R : Room A 130) (hf : InA G fo 562 [(sS "fresh", .ref fr)]) (hs : FrS D G C fr dn n) (hn : n + acN b < 90000) (hl : LamA G a ps b) (hsrc : Src b) (hh : Mine.ht b ≤ 6) (he : EnvA D G ea S) (hz : SzS S) :
    CodeOk D A (.ref 544) [.ref fo, .ref a, .ref ea] G C (fun r G' C' => Ex3 fun a' b' n' => And7 (r = .ref a') (LamA G' a' ps b') (Fo S b b') (FrS D G' C' fr dn n') (n ≤ n') (n' ≤ n + acN b) (CK C C' [dn])) := by
  refine codeOk_cellsB (binds := [(sS "self", .ref fo), (sS "expr", .ref a), (sS "env", .ref ea)]) (look544 _) (by kernel_rfl) (R.le (by exact Nat.le_of_ble_eq_true rfl : 1 ≤ _)).lt rfl (by kernel_rfl) ?_
  intro F hG hC G₁ C₁ cs₀ env₀ A₀ m₀ cl Q₀ q₀
  have k1 := cl.pA (sS "self") rfl rfl
  have k2 := cl.pA (sS "env") rfl rfl
  have g0 := cl.g
  obtain ⟨lp, vb, hi, hnm, hvb⟩ := hl.up g0
  obtain ⟨ab, rfl⟩ := hvb.ref
  have hf1 := hf.up g0
  have he1 := he.up g0
  have hs1 : FrS D G₁ C₁ fr dn n := (hs.up g0).ck cl.c
  have ck0 := cl.ck (as := [dn])
  have R1 : Room A₀ 129 := R.deeper
  clear hl hf he hs g0
  refine B.cons ?_
  repeat tb_start
  refine B.tuple ?_
  repeat tb_start
  refine ⟨Nat.le_of_ble_eq_true rfl, fun ta Gt gt htp => ?_⟩
  repeat tb_start
  walk_at "mine.tno"
  repeat tb_start
  walk_at "mine.yes"
  have hf2 := hf1.up gt
  repeat tb_start
  walk_at "mine.me"
  repeat tb_start
  refine B.callOk (force_okk 6 (R1.le (by exact Nat.le_of_ble_eq_true rfl)) hf2 (hs1.up gt) hn (hvb.up gt) hsrc hh (by exact Nat.le_of_ble_eq_true rfl) (he1.up gt) hz).call (fun r3 G3 C3 g3 p3 => ?_)
  obtain ⟨b', n3, tm3, fo3, hs3, hn3, hn4, ck3⟩ := p3
  repeat tb_start
  refine B.callX (mk_Lam (R1.le (by exact Nat.le_of_ble_eq_true rfl)) _ _) (fun x G4 g4 hx => ?_)
  repeat tb_start
  exact ⟨x, b', n3, rfl, ⟨lp, r3, hx, ((hnm.up gt).up g3).up g4, tm3.up g4⟩, fo3, hs3.up g4, hn3, hn4, ck0.trans ck3⟩
/-! the program's five pairs -/
inductive It
  | fn (k : N) (ps : List N) (b : Tm)
  | ex (k : N) (t : Tm)
noncomputable def It.k : It → N
  | .fn k _ _ => k
  | .ex k _ => k
noncomputable def It.t : It → Tm
  | .fn _ _ b => b
  | .ex _ t => t
noncomputable def ItV (G : PM) (a : Addr) : It → Prop
  | .fn _ ps b => LamA G a ps b
  | .ex _ t => TmA G (.ref a) t
inductive ItA (G : PM) (v : Value) (i : It) : Prop
  | mk : ∀ tp ty a, (v = .ref tp) → (TpA G tp [.str i.k ty, .ref a]) → (ItV G a i) → ItA G v i
noncomputable def ItF (S : Sgs) : It → It → Prop
  | .fn k ps b, .fn k' ps' b' => And3 (k' = k) (ps' = ps) (Fo S b b')
  | .ex k t, .ex k' t' => k' = k ∧ Fo S t t'
  | _, _ => False
theorem ItF.k {S : Sgs} : ∀ {i j : It}, ItF S i j → j.k = i.k
  | .fn .., .fn .., h => h.1
  | .ex .., .ex .., h => h.1
theorem ItV.up {a : Addr} (g : GLe G G') : ∀ {i : It}, ItV G a i → ItV G' a i
  | .fn .., h => LamA.up g h
  | .ex .., h => TmA.up g h
theorem ItA.up {v : Value} {i : It} (g : GLe G G') (h : ItA G v i) : ItA G' v i := let ⟨tp, ty, a, e, t, w⟩ := h; ⟨tp, ty, a, e, t.up g, w.up g⟩
noncomputable def PgL.items (p : PgL) : List It := [.fn (sS "f") p.fps p.fb, .fn (sS "g") p.gps p.gb, .fn (sS "h") p.hps p.hb, .ex (sS "m") p.m, .ex (sS "k") p.k]
theorem PgA.items {lb : Addr} {p : PgL} (h : PgA G lb p) : ∃ vs, LzA G lb vs ∧ PySem.Paired (ItA G) vs p.items := by
  obtain ⟨t1, t2, t3, t4, t5, lf, lg, lh, vm, vk, k1, k2, k3, k4, k5, hl, h1, h2, h3, h4, h5, f1, f2, f3, m1, m2⟩ := h.of
  obtain ⟨am, rfl⟩ := m1.ref
  obtain ⟨ak, rfl⟩ := m2.ref
  exact ⟨_, hl, .cons ⟨t1, k1, lf, rfl, h1, f1⟩ (.cons ⟨t2, k2, lg, rfl, h2, f2⟩ (.cons ⟨t3, k3, lh, rfl, h3, f3⟩ (.cons ⟨t4, k4, am, rfl, h4, m1⟩ (.cons ⟨t5, k5, ak, rfl, h5, m2⟩ .nil))))⟩
structure FoP (S : Sgs) (p p' : PgL) : Prop where
  fp : p'.fps = p.fps
  gp : p'.gps = p.gps
  hp : p'.hps = p.hps
  f : Fo S p.fb p'.fb
  g : Fo S p.gb p'.gb
  h : Fo S p.hb p'.hb
  m : Fo S p.m p'.m
  k : Fo S p.k p'.k
theorem itF_fn {S : Sgs} {k : N} {ps : List N} {b : Tm} : ∀ {j : It}, ItF S (.fn k ps b) j → ∃ b', j = .fn k ps b' ∧ Fo S b b'
  | .fn _ _ b', ⟨h1, h2, h3⟩ => ⟨b', by rw [h1, h2], h3⟩
theorem itF_ex {S : Sgs} {k : N} {b : Tm} : ∀ {j : It}, ItF S (.ex k b) j → ∃ b', j = .ex k b' ∧ Fo S b b'
  | .ex _ b', ⟨h1, h2⟩ => ⟨b', by rw [h1], h2⟩
theorem paired5L {α β : Type} {R : α → β → Prop} {a1 a2 a3 a4 a5 : α} {k : List β} (h : PySem.Paired R [a1, a2, a3, a4, a5] k) : Ex5 fun b1 b2 b3 b4 b5 => And6 (k = [b1, b2, b3, b4, b5]) (R a1 b1) (R a2 b2) (R a3 b3) (R a4 b4) (R a5 b5) := by
  have one : ∀ {a : α} {l : List α} {k : List β}, PySem.Paired R (a :: l) k → Ex2 fun b k' => And3 (k = b :: k') (R a b) (PySem.Paired R l k') := fun h => by
    cases h with
    | cons h1 h2 => exact ⟨_, _, rfl, h1, h2⟩
  obtain ⟨b1, k1, e1, h1, h⟩ := one h
  obtain ⟨b2, k2, e2, h2, h⟩ := one h
  obtain ⟨b3, k3, e3, h3, h⟩ := one h
  obtain ⟨b4, k4, e4, h4, h⟩ := one h
  obtain ⟨b5, k5, e5, h5, h⟩ := one h
  have e6 : k5 = [] := by cases h; rfl
  exact ⟨b1, b2, b3, b4, b5, by rw [e1, e2, e3, e4, e5, e6], h1, h2, h3, h4, h5⟩
theorem paired_flip {α β : Type} {R : α → β → Prop} {l : List α} {k : List β} (h : PySem.Paired R l k) : PySem.Paired (fun b a => R a b) k l := by
  induction h with
  | nil => exact .nil
  | cons h _ ih => exact .cons h ih
theorem items_back {S : Sgs} {p : PgL} {is : List It} (h : PySem.Paired (ItF S) p.items is) : ∃ p', is = p'.items ∧ FoP S p p' := by
  obtain ⟨i1, i2, i3, i4, i5, rfl, h1, h2, h3, h4, h5⟩ := paired5L h
  obtain ⟨b1, rfl, f1⟩ := itF_fn h1
  obtain ⟨b2, rfl, f2⟩ := itF_fn h2
  obtain ⟨b3, rfl, f3⟩ := itF_fn h3
  obtain ⟨b4, rfl, f4⟩ := itF_ex h4
  obtain ⟨b5, rfl, f5⟩ := itF_ex h5
  exact ⟨⟨p.fps, b1, p.gps, b2, p.hps, b3, b4, b5⟩, rfl, ⟨rfl, rfl, rfl, f1, f2, f3, f4, f5⟩⟩
theorem PgA.of_items {lb : Addr} {p : PgL} {vs : List Value} (hl : LzA G lb vs) (h : PySem.Paired (ItA G) vs p.items) : PgA G lb p := by
  obtain ⟨i1, i2, i3, i4, i5, rfl, h1, h2, h3, h4, h5⟩ := paired5L (paired_flip h)
  obtain ⟨t1, y1, a1, rfl, p1, w1⟩ := h1
  obtain ⟨t2, y2, a2, rfl, p2, w2⟩ := h2
  obtain ⟨t3, y3, a3, rfl, p3, w3⟩ := h3
  obtain ⟨t4, y4, a4, rfl, p4, w4⟩ := h4
  obtain ⟨t5, y5, a5, rfl, p5, w5⟩ := h5
  exact ⟨t1, t2, t3, t4, t5, a1, a2, a3, _, _, y1, y2, y3, y4, y5, hl, p1, p2, p3, p4, p5, w1, w2, w3, w4, w5⟩
theorem PgL.Good.item {p : PgL} (gd : p.Good) {i : It} (h : i ∈ p.items) : Src i.t ∧ Mine.ht i.t ≤ 6 := by
  have e1 := gd.ps (sS "f") ⟨p.fps, p.fb⟩ rfl
  have e2 := gd.ps (sS "g") ⟨p.gps, p.gb⟩ rfl
  have e3 := gd.ps (sS "h") ⟨p.hps, p.hb⟩ rfl
  simp only [PgL.items, List.mem_cons, List.not_mem_nil, or_false] at h
  rcases h with rfl | rfl | rfl | rfl | rfl
  · exact ⟨e1.2.2.1, e1.2.2.2.2⟩
  · exact ⟨e2.2.2.1, e2.2.2.2.2⟩
  · exact ⟨e3.2.2.1, e3.2.2.2.2⟩
  · exact ⟨gd.m.1, gd.m.2.2⟩
  · exact ⟨gd.k.1, gd.k.2.2⟩
theorem acN_big {t : Tm} (h : Mine.ht t ≤ 6) : acN t ≤ 729 := by
  have h1 := acN_le t
  have h2 : 3 ^ Mine.ht t ≤ 3 ^ 6 := Nat.pow_le_pow_right (by decide) h
  have : (3 : Nat) ^ 6 = 729 := by decide
  lia
theorem force_item {fo fr dn ea a : Addr} {i : It} {S : Sgs} {n : Nat} (R : Room A 130) (hf : InA G fo 562 [(sS "fresh", .ref fr)]) (hs : FrS D G C fr dn n) (hn : n < 80000) (hl : ItV G a i) (hg : Src i.t ∧ Mine.ht i.t ≤ 6) (he : EnvA D G ea S) (hz : SzS S) :
    CodeOk D A (.ref 544) [.ref fo, .ref a, .ref ea] G C (fun r G' C' => Ex3 fun a' i' n' => And7 (r = .ref a') (ItV G' a' i') (ItF S i i') (FrS D G' C' fr dn n') (n ≤ n') (n' ≤ n + 729) (CK C C' [dn])) := by
  have hb := acN_big hg.2
  cases i with
  | fn k ps b =>
    refine (force_lam R hf hs (by show n + acN b < 90000; have : acN b ≤ 729 := hb; lia) hl hg.1 hg.2 he hz).mono fun r G' C' _ p => ?_
    obtain ⟨a', b', n', e, h1, h2, h3, h4, h5, h6⟩ := p
    exact ⟨a', .fn k ps b', n', e, h1, ⟨rfl, rfl, h2⟩, h3, h4, Nat.le_trans h5 (Nat.add_le_add_left hb _), h6⟩
  | ex k t =>
    refine (force_okk 6 (R.le (by exact Nat.le_of_ble_eq_true rfl)) hf hs (by have : acN t ≤ 729 := hb; lia) hl hg.1 hg.2 (by exact Nat.le_of_ble_eq_true rfl) he hz).mono fun r G' C' _ p => ?_
    obtain ⟨t', n', h1, h2, h3, h4, h5, h6⟩ := p
    obtain ⟨a', e⟩ := h1.ref
    subst e
    exact ⟨a', .ex k t', n', rfl, h1, ⟨rfl, h2⟩, h3, h4, Nat.le_trans h5 (Nat.add_le_add_left hb _), h6⟩
inductive GInv (D : Wd) (S : Sgs) (fr dn : Addr) (is : List It) (C : PM) (i : Nat) (ys : List Value) (G' C' : PM) : Prop
  | mk : ∀ is' n', (PySem.Paired (ItA G') ys is') → (PySem.Paired (ItF S) (is.take i) is') → (FrS D G' C' fr dn n') → (n' ≤ i * 729) → (CK C C' [dn]) → GInv D S fr dn is C i ys G' C'
theorem told_env {p : PgL} {o : Addr} {kvs : List (Str × Value)} {a b c : Sg} (h : ToldA D G p o kvs a b c) : EnvA D G o (S3 a b c) ∧ SzS (S3 a b c) := by
  obtain ⟨h1, h2, s1, s2, s3, _⟩ := h
  refine ⟨⟨kvs, h1, ?_, h2.sigs⟩, S3_of (Q := fun s => s.free.length ≤ 3 ∧ s.flags.length ≤ 2) ⟨s1.w.l3, s1.w.l2⟩ ⟨s2.w.l3, s2.w.l2⟩ ⟨s3.w.l3, s3.w.l2⟩⟩
  obtain ⟨va, vb, vc, e, _⟩ := h2
  have e : kvs = tri va vb vc := e
  rw [e]; exact Nat.le_of_ble_eq_true rfl
theorem forced_ok {pa lb dc fr dn : Addr} {mn : Value} {p : PgL} (R : Room A 140) (hi : InA G pa 383 [(sS "binds", .ref lb), (sS "cons", .ref dc), (sS "main", mn)]) (hp : PgA G lb p) (gd : p.Good) (hs : FrS D G C fr dn 0) (hm : handedIn mn = true) :
    CodeOk D A (.ref 571) [.ref pa, .ref fr] G C (fun r G' C' => Ex6 fun x lb' p' a b c => And6 (r = .ref x) (InA G' x 383 [(sS "binds", .ref lb'), (sS "cons", .ref dc), (sS "main", mn)]) (PgA G' lb' p') (FoP (S3 a b c) p p') (Cons p.tops (S3 a b c)) (CK C C' [dn])) := by
  refine codeOk_cellsB (binds := [(sS "program", .ref pa), (sS "fresh", .ref fr)]) (look571 _) (by kernel_rfl) (R.le (by exact Nat.le_of_ble_eq_true rfl : 1 ≤ _)).lt rfl (by kernel_rfl) ?_
  intro F hG hC G₁ C₁ cs₀ env₀ A₀ m₀ cl Q₀ q₀
  obtain ⟨oc, hoc, hoc2, hoc3, hoc4⟩ := cl.q (sS "env") _ rfl rfl
  obtain ⟨od, hod, hod2, hod3, hod4⟩ := cl.q (sS "forcer") _ rfl rfl
  have g0 := cl.g
  have hi1 := hi.up g0
  have hp1 := hp.up g0
  have hs1 : FrS D G₁ C₁ fr dn 0 := (hs.up g0).ck cl.c
  have ck0 := cl.ck (as := [dn])
  have R1 : Room A₀ 139 := R.deeper
  refine B.cons ?_
  refine B.asgTupleS ?_ rfl rfl
  refine B.tuple ?_
  repeat tb_start
  refine B.callC (signatures_ok (R1.le (by exact Nat.le_of_ble_eq_true rfl)) hi1 hp1 gd) (fun r2 G2 g2 p2 => ?_)
  obtain ⟨o, a, b, c, kvs, rfl, told⟩ := p2
  repeat tb_start
  refine B.callX (mk_Forcer (R1.le (by exact Nat.le_of_ble_eq_true rfl)) _) (fun fo G3 g3 hfo => ?_)
  repeat tb_start
  refine ⟨Nat.le_of_ble_eq_true rfl, fun ta Gt gt htt => ?_⟩
  refine B.asgTuple R1.h htt rfl rfl ?_
  refine B.inOrder ?_
  repeat tb_start
  refine B.storeCell rfl hoc hoc2 (fun o1 ho1 => ?_)
  refine B.inOrder ?_
  repeat tb_start
  have hod' : Mine.up C₁ (F.L + 1) o1 (F.L + 1 + 1) = some od := by rw [up_ne (Nat.succ_ne_self _)]; exact hod
  refine B.storeCell rfl hod' hod2 (fun o2 ho2 => ?_)
  have n12 : F.L + 1 ≠ F.L + 1 + 1 := Ne.symm (Nat.succ_ne_self _)
  have g3t := g3.trans gt
  have hs4 : FrS D Gt (Mine.up (Mine.up C₁ (F.L + 1) o1) (F.L + 1 + 1) o2) fr dn 0 := ((hs1.up (g2.trans g3t)).upA (hs.ne hoc3)).upA (hs.ne hod3)
  have ck4 : CK C (Mine.up (Mine.up C₁ (F.L + 1) o1) (F.L + 1 + 1) o2) [dn] := (ck0.upD hoc3).upD hod3
  have kE : ClA (Mine.up (Mine.up C₁ (F.L + 1) o1) (F.L + 1 + 1) o2) (F.L + 1) (.ref o) := ⟨o1, by rw [up_ne n12, up_self], ho1⟩
  have kF : ClA (Mine.up (Mine.up C₁ (F.L + 1) o1) (F.L + 1 + 1) o2) (F.L + 1 + 1) (.ref fo) := ⟨o2, up_self, ho2⟩
  generalize hC4 : Mine.up (Mine.up C₁ (F.L + 1) o1) (F.L + 1 + 1) o2 = C4 at hs4 ck4 kE kF
  obtain ⟨hea, hz⟩ := told_env told
  have hea4 := hea.up g3t
  have hfo4 : InA Gt fo 562 [(sS "fresh", .ref fr)] := hfo.up gt
  have hcons : Cons p.tops (S3 a b c) := let ⟨_, _, _, _, _, z⟩ := told; z
  obtain ⟨vs, hlb, hits⟩ := hp1.items
  have g2t := g2.trans g3t
  have hlb4 := hlb.up g2t
  have hits4 := Paired.imp (fun _ _ h => ItA.up g2t h) hits
  have hi4 := hi1.up g2t
  clear g3t g2t
  have hvl : vs.length = 5 := hits.length
  refine B.inOrder0 ?_
  repeat tb_start
  refine B.asgListCompZ (cl := ?cl1) ?x1 ?h11 ?h12 rfl ?h14 rfl rfl rfl rfl ?h15
  case h11 => exact rfl
  case h12 => decide
  case h14 => decide
  case h15 => exact fun _ => rfl
  repeat tb_start
  refine ⟨vs.length, _, GInv D (S3 a b c) fr dn p.items C4, iter_list R1.h hlb4.ls, by rw [hvl]; exact Nat.le_of_ble_eq_true rfl, ⟨[], 0, .nil, by simpa using PySem.Paired.nil, hs4, by exact Nat.le_of_ble_eq_true rfl, CK.refl⟩, ?_, ?_⟩
  · intro j x ys Gj Cj mj Fj hj hFG hFC hgj inv hP
    refine B.opq fun Q₁ q₁ => ?_
    obtain ⟨is', n', hp1, hp2, hs5, hn5, ck5⟩ := inv
    obtain ⟨i, hi, tp, ty, ax, rfl, htp, hit⟩ := paired_get hits4 hP
    have hg := gd.item (List.mem_of_getElem? hi)
    have kEj : ClA Cj (F.L + 1) (.ref o) := let ⟨q, e1, e2⟩ := kE; ⟨q, ck5 _ _ e1 (hs.nm hoc3), e2⟩
    have kFj : ClA Cj (F.L + 1 + 1) (.ref fo) := let ⟨q, e1, e2⟩ := kF; ⟨q, ck5 _ _ e1 (hs.nm hod3), e2⟩
    have hf5 := hfo4.up hgj
    refine B.asgTuple R1.h (htp.up hgj) rfl rfl ?_
    refine B.inOrder ?_
    repeat tb_start
    refine B.inOrder ?_
    repeat tb_start
    refine B.inOrder0 ?_
    refine q₁.at ?_
    refine B.tuple ?_
    repeat tb_start
    walk_at "mine.me"
    repeat tb_start
    refine B.callOk (force_item (R1.le (by exact Nat.le_of_ble_eq_true rfl)) hf5 hs5 (by lia) (hit.up hgj) hg (hea4.up hgj) hz).call (fun r6 G6 C6 g6 p6 => ?_)
    obtain ⟨a', i', n7, rfl, hv7, hf7, hs7, hn7, hn8, ck7⟩ := p6
    repeat tb_start
    refine ⟨Nat.le_of_ble_eq_true rfl, fun tp' G8 g8 htp' => ?_⟩
    have e : p.items.take (j + 1) = p.items.take j ++ [i] := by rw [List.take_add_one, hi]; rfl
    refine ⟨is' ++ [i'], n7, (Paired.imp (fun _ _ h => ItA.up (g6.trans g8) h) hp1).snoc ⟨tp', ty, a', rfl, by rw [hf7.k]; exact htp', hv7.up g8⟩, by rw [e]; exact hp2.snoc hf7, hs7.up g8, by lia, ck5.trans ck7⟩
  · intro ys Gj Cj lb' G8 hgj inv hg8 hlb'
    obtain ⟨is', n', hp1, hp2, hs5, hn5, ck5⟩ := inv
    have e5 : p.items.take vs.length = p.items := by rw [hvl]; rfl
    rw [e5] at hp2
    obtain ⟨p', rfl, hfo⟩ := items_back hp2
    have hpa : PgA G8 lb' p' := PgA.of_items hlb' (Paired.imp (fun _ _ h => ItA.up hg8 h) hp1)
    have hi8 := (hi4.up hgj).up hg8
    repeat tb_start
    refine B.getAttr (attr := none) (c := 383) (fs := [(sS "binds", .ref lb), (sS "cons", .ref dc), (sS "main", mn)]) (v := mn) (.inl hi8) rfl ?a1 ?a2 ?a3 ?a4 hm ?_
    case a1 => kernel_rfl
    case a2 => kernel_rfl
    case a3 => kernel_rfl
    case a4 => kernel_rfl
    repeat tb_start
    refine B.callX (mk_CoreProgram (R1.le (by exact Nat.le_of_ble_eq_true rfl)) _ _ _) (fun x G9 g9 hx => ?_)
    repeat tb_start
    exact ⟨x, lb', p', a, b, c, rfl, hx, hpa.up g9, hfo, hcons, ck4.trans ck5⟩
end
/-! what law_value tells -/
theorem at_stored (kvs : List (Str × Value)) (k x : Str) (v : Value) : valueAt (stored kvs k v) x = if x = k then some v else valueAt kvs x := by
  by_cases hk : (kvs.any fun kv => decide (kv.1 = k)) = true
  · unfold stored
    rw [if_pos hk]
    have key : ∀ l : List (Str × Value), (l.any fun kv => decide (kv.1 = k)) = true ∨ x ≠ k → valueAt (l.map fun kv => if kv.1 = k then (kv.1, v) else kv) x = if x = k then some v else valueAt l x := by
      intro l
      induction l with
      | nil => intro h; rcases h with h | h; cases h; rw [if_neg h]; rfl
      | cons a l ih =>
        intro h
        obtain ⟨y, w⟩ := a
        unfold valueAt at ih ⊢
        rw [List.map_cons, List.find?_cons, List.find?_cons]
        by_cases hy : y = k
        · subst hy
          rw [if_pos rfl]
          by_cases hx : x = y
          · subst hx; simp
          · have h1 : decide (y = x) = false := by simpa using Ne.symm hx
            simp only [h1]
            exact ih (.inr hx)
        · rw [if_neg hy]
          by_cases hx : y = x
          · subst hx
            rw [if_neg hy]; simp
          · have h1 : decide (y = x) = false := by simpa using hx
            simp only [h1]
            refine ih (h.imp (fun h => ?_) id)
            rw [List.any_cons] at h
            simpa [hy] using h
    by_cases hx : x = k
    · subst hx
      exact key kvs (.inl hk)
    · exact key kvs (.inr hx)
  · have hn : valueAt kvs k = none := by
      cases q : valueAt kvs k with
      | none => rfl
      | some w =>
        exfalso
        refine hk ?_
        rw [← valueAt_isSome_eq_any, q]; rfl
    rw [stored_absent hn]
    unfold valueAt at hn ⊢
    rw [List.find?_append]
    by_cases hx : x = k
    · subst hx
      rw [if_pos rfl]
      cases q : kvs.find? (fun kv => decide (kv.1 = x)) with
      | none => simp
      | some w => rw [q] at hn; cases hn
    · rw [if_neg hx]
      have h1 : decide (k = x) = false := by simpa using Ne.symm hx
      cases q : kvs.find? (fun kv => decide (kv.1 = x)) with
      | none => simp [h1]
      | some w => simp
/-- some (some i): an int; some none: an error; none: it took too long -/
noncomputable def Outc (P : Tops) (t : Tm) (ρ : Rho) (f : Nat) : Option (Option Int) → Int → Prop
  | some (some i), f' => ∃ c, And3 (Ev P t ρ (some i) c) (c ≤ f) (f' = (f : Int) - c)
  | some none, _ => ∃ c, Ev P t ρ none c ∧ c ≤ f
  | none, _ => ∀ r c, Ev P t ρ r c → f < c
noncomputable def ValA : Value → Option (Option Int) → Prop
  | v, some (some i) => ∃ u, v = .int i u
  | v, some none => ∃ u, v = .str (sS "error") u
  | v, none => ∃ u, v = .str (sS "long") u
section
variable {P : Tops} {ρ ρ' : Rho} {f : Nat} {f' : Int}
/-- one step more on the way to the same -/
theorem Outc.one {t t' : Tm} {x : Option (Option Int)} (h : Outc P t' ρ' f x f') (k : ∀ r c, Ev P t' ρ' r c → Ev P t ρ r (c + 1)) (b : ∀ r c, Ev P t ρ r c → ∃ d, Ev P t' ρ' r d ∧ c = d + 1) : Outc P t ρ (f + 1) x f' := by
  match x, h with
  | some (some i), ⟨c, e, l, z⟩ => exact ⟨c + 1, k _ _ e, by exact Nat.lt_succ_of_le (by assumption), by lia⟩
  | some none, ⟨c, e, l⟩ => exact ⟨c + 1, k _ _ e, by exact Nat.lt_succ_of_le (by assumption)⟩
  | none, h => intro r c e; obtain ⟨d', e', rfl⟩ := b r c e; have := h r d' e'; lia
/-- behind an int the same goes on -/
theorem Outc.two {t v t' : Tm} {x : Option (Option Int)} {i : Int} {d : Nat} (hd : Ev P v ρ (some i) d) (hl : d ≤ f) (h : Outc P t' ρ' (f - d) x f') (k : ∀ r c, Ev P t' ρ' r c → Ev P t ρ r (d + c + 1)) (b : ∀ r c, Ev P t ρ r c → ∃ e, Ev P t' ρ' r e ∧ c = d + e + 1) : Outc P t ρ (f + 1) x f' := by
  match x, h with
  | some (some i), ⟨c, e, l, z⟩ => exact ⟨d + c + 1, k _ _ e, by lia, by lia⟩
  | some none, ⟨c, e, l⟩ => exact ⟨d + c + 1, k _ _ e, by lia⟩
  | none, h => intro r c e; obtain ⟨d', e', rfl⟩ := b r c e; have := h r d' e'; lia
/-- no int at the first place -/
theorem Outc.stop {t v : Tm} {x : Option (Option Int)} (hx : ∀ i, x ≠ some (some i)) (h : Outc P v ρ f x f') (k : ∀ c, Ev P v ρ none c → Ev P t ρ none (c + 1)) (b : ∀ r c, Ev P t ρ r c → Ex2 fun r' d => Ev P v ρ r' d ∧ d + 1 ≤ c) : Outc P t ρ (f + 1) x f' := by
  match x, h with
  | some (some i), _ => exact absurd rfl (hx i)
  | some none, ⟨c, e, l⟩ => exact ⟨c + 1, k _ e, by exact Nat.lt_succ_of_le (by assumption)⟩
  | none, h => intro r c e; obtain ⟨r', d', e', l⟩ := b r c e; have := h r' d' e'; lia
/-- no int at the second place -/
theorem Outc.stop2 {t v w : Tm} {x : Option (Option Int)} {i : Int} {d : Nat} (hd : Ev P v ρ (some i) d) (hl : d ≤ f) (hx : ∀ i, x ≠ some (some i)) (h : Outc P w ρ (f - d) x f') (k : ∀ c, Ev P w ρ none c → Ev P t ρ none (d + c + 1)) (b : ∀ r c, Ev P t ρ r c → Ex2 fun r' e => Ev P w ρ r' e ∧ d + e + 1 ≤ c) : Outc P t ρ (f + 1) x f' := by
  match x, h with
  | some (some i), _ => exact absurd rfl (hx i)
  | some none, ⟨c, e, l⟩ => exact ⟨d + c + 1, k _ e, by lia⟩
  | none, h => intro r c e; obtain ⟨r', d', e', l⟩ := b r c e; have := h r' d' e'; lia
theorem Outc.zero {t : Tm} : Outc P t ρ 0 none f' := fun _ _ e => e.pos
theorem Outc.varT {x : N} {t : Tm} {y : Option (Option Int)} (e : ρ x = .th t ρ') (h : Outc P t ρ' f y f') : Outc P (.var x) ρ (f + 1) y f' :=
  h.one (fun _ _ k => .varT e k) fun r c k => by
    replace k := k.invVar; induction k with
    | varI e' => rw [e] at e'; cases e'
    | varT e' k => rw [e] at e'; cases e'; exact ⟨_, k, rfl⟩
theorem Outc.lt {x : N} {v b : Tm} {y : Option (Option Int)} (h : Outc P b (setR ρ x (.th v ρ)) f y f') : Outc P (.lt x v b) ρ (f + 1) y f' :=
  h.one (fun _ _ k => .lt k) fun r c k => by replace k := k.invLt; induction k with | lt k => exact ⟨_, k, rfl⟩
theorem Outc.ap1 {g p : N} {a b : Tm} {y : Option (Option Int)} (hp : P g = some ⟨[p], b⟩) (h : Outc P b (setR rho0 p (.th a ρ)) f y f') : Outc P (.ap1 g a) ρ (f + 1) y f' :=
  h.one (fun _ _ k => .ap1 hp k) fun r c k => by replace k := k.invAp1; induction k with | ap1 e k => rw [hp] at e; cases e; exact ⟨_, k, rfl⟩
theorem Outc.ap2 {g p q : N} {a a' b : Tm} {y : Option (Option Int)} (hp : P g = some ⟨[p, q], b⟩) (h : Outc P b (setR (setR rho0 p (.th a ρ)) q (.th a' ρ)) f y f') : Outc P (.ap2 g a a') ρ (f + 1) y f' :=
  h.one (fun _ _ k => .ap2 hp k) fun r c k => by replace k := k.invAp2; induction k with | ap2 e k => rw [hp] at e; cases e; exact ⟨_, k, rfl⟩
theorem Outc.caseE {v a o : Tm} {x : N} {k : Int} {y : Option (Option Int)} (hy : ∀ i, y ≠ some (some i)) (h : Outc P v ρ f y f') : Outc P (.case v x k a o) ρ (f + 1) y f' :=
  h.stop hy (fun _ e => .caseE e) fun r c e => by
    replace e := e.invCase; induction e with
    | caseE e => exact ⟨_, _, e, Nat.le_refl _⟩
    | caseA e _ => exact ⟨_, _, e, by exact lt1⟩
    | caseO e _ _ => exact ⟨_, _, e, by exact lt1⟩
theorem Outc.seqE {v o : Tm} {x : N} {y : Option (Option Int)} (hy : ∀ i, y ≠ some (some i)) (h : Outc P v ρ f y f') : Outc P (.seq v x o) ρ (f + 1) y f' :=
  h.stop hy (fun _ e => .seqE e) fun r c e => by
    replace e := e.invSeq; induction e with
    | seqE e => exact ⟨_, _, e, Nat.le_refl _⟩
    | seq e _ => exact ⟨_, _, e, by exact lt1⟩
theorem Outc.addE {a b : Tm} {y : Option (Option Int)} (hy : ∀ i, y ≠ some (some i)) (h : Outc P a ρ f y f') : Outc P (.add a b) ρ (f + 1) y f' :=
  h.stop hy (fun _ e => .addE e) fun r c e => by
    replace e := e.invAdd; induction e with
    | addE e => exact ⟨_, _, e, Nat.le_refl _⟩
    | addF e _ => exact ⟨_, _, e, by exact lt1⟩
    | add e _ => exact ⟨_, _, e, by exact lt1⟩
theorem Outc.addF {a b : Tm} {i : Int} {d : Nat} {y : Option (Option Int)} (ha : Ev P a ρ (some i) d) (hl : d ≤ f) (hy : ∀ i, y ≠ some (some i)) (h : Outc P b ρ (f - d) y f') : Outc P (.add a b) ρ (f + 1) y f' :=
  Outc.stop2 ha hl hy h (fun _ e => .addF ha e) fun r c e => by
    replace e := e.invAdd; induction e with
    | addE e => obtain ⟨z, _⟩ := ha.det e; cases z
    | addF e e2 => obtain ⟨_, rfl⟩ := ha.det e; exact ⟨_, _, e2, Nat.le_refl _⟩
    | add e e2 => obtain ⟨_, rfl⟩ := ha.det e; exact ⟨_, _, e2, Nat.le_refl _⟩
theorem Outc.caseA {v a o : Tm} {x : N} {k : Int} {d : Nat} {y : Option (Option Int)} (hv : Ev P v ρ (some k) d) (hl : d ≤ f) (h : Outc P a (setR ρ x (.int k)) (f - d) y f') : Outc P (.case v x k a o) ρ (f + 1) y f' :=
  Outc.two hv hl h (fun _ _ e => .caseA hv e) fun r c e => by
    replace e := e.invCase; induction e with
    | caseE e => obtain ⟨z, _⟩ := hv.det e; cases z
    | caseA e e2 => obtain ⟨_, rfl⟩ := hv.det e; exact ⟨_, e2, rfl⟩
    | caseO e n e2 => obtain ⟨z, _⟩ := hv.det e; cases z; exact absurd rfl n
theorem Outc.caseO {v a o : Tm} {x : N} {k i : Int} {d : Nat} {y : Option (Option Int)} (hv : Ev P v ρ (some i) d) (hn : i ≠ k) (hl : d ≤ f) (h : Outc P o (setR ρ x (.int i)) (f - d) y f') : Outc P (.case v x k a o) ρ (f + 1) y f' :=
  Outc.two hv hl h (fun _ _ e => .caseO hv hn e) fun r c e => by
    replace e := e.invCase; induction e with
    | caseE e => obtain ⟨z, _⟩ := hv.det e; cases z
    | caseA e e2 => obtain ⟨z, _⟩ := hv.det e; cases z; exact absurd rfl hn
    | caseO e n e2 => obtain ⟨z, rfl⟩ := hv.det e; cases z; exact ⟨_, e2, rfl⟩
theorem Outc.seq {v o : Tm} {x : N} {i : Int} {d : Nat} {y : Option (Option Int)} (hv : Ev P v ρ (some i) d) (hl : d ≤ f) (h : Outc P o (setR ρ x (.int i)) (f - d) y f') : Outc P (.seq v x o) ρ (f + 1) y f' :=
  Outc.two hv hl h (fun _ _ e => .seq hv e) fun r c e => by
    replace e := e.invSeq; induction e with
    | seqE e => obtain ⟨z, _⟩ := hv.det e; cases z
    | seq e e2 => obtain ⟨z, rfl⟩ := hv.det e; cases z; exact ⟨_, e2, rfl⟩
end
/-! envs in the heap -/
class inductive ThA (D : Wd) (P : Tops) (n : Nat) (G : PM) : Value → Thing → Prop
  | int {i : Int} {u : Tok} : ThA D P n G (.int i u) (.int i)
  | th {tp e : Addr} {v : Value} {t : Tm} {ρ : Rho} {kvs : List (Str × Value)} : TpA G tp [v, .ref e] → TmA G v t → DcA D G e kvs → kvs.length + n ≤ 1000 → WS P t (fun x => (valueAt kvs x).isSome = true) → (∀ x w, valueAt kvs x = some w → ThA D P n G w (ρ x)) → ThA D P n G (.ref tp) (.th t ρ)
theorem ThA.up {D : Wd} {P : Tops} {n n' : Nat} {G G' : PM} (g : GLe G G') (hn : n' ≤ n) {v : Value} {θ : Thing} (h : ThA D P n G v θ) : ThA D P n' G' v θ := by
  induction h with
  | int => exact .int
  | th h1 h2 h3 h4 h5 _ ih => exact .th (h1.up g) (h2.up g) (h3.up g) (by lia) h5 ih
structure RhA (D : Wd) (P : Tops) (n : Nat) (G : PM) (e : Addr) (kvs : List (Str × Value)) (ρ : Rho) : Prop where
  d : DcA D G e kvs
  l : kvs.length + n ≤ 1000
  v : ∀ x w, valueAt kvs x = some w → ThA D P n G w (ρ x)
theorem RhA.up {D : Wd} {P : Tops} {n n' : Nat} {G G' : PM} (g : GLe G G') (hn : n' ≤ n) {e : Addr} {kvs : List (Str × Value)} {ρ : Rho} (h : RhA D P n G e kvs ρ) : RhA D P n' G' e kvs ρ :=
  ⟨h.d.up g, by have := h.l; lia, fun x w k => (h.v x w k).up g hn⟩
theorem RhA.set {D : Wd} {P : Tops} {n : Nat} {G : PM} {e e' : Addr} {kvs : List (Str × Value)} {ρ : Rho} {x : N} {w : Value} {θ : Thing} (h : RhA D P (n + 1) G e kvs ρ) (hw : ThA D P n G w θ) (hd : DcA D G e' (stored kvs x w)) : RhA D P n G e' (stored kvs x w) (setR ρ x θ) :=
  ⟨hd, by have := h.l; have := stored_length_le kvs x w; lia, fun y z k => by
    rw [at_stored] at k
    by_cases e : y = x
    · subst e; rw [if_pos rfl] at k; cases k; rw [setR_same]; exact hw
    · rw [if_neg e] at k; rw [setR_ne e]; exact (h.v y z k).up .rfl (Nat.le_succ _)⟩
theorem RhA.ws {P : Tops} {kvs : List (Str × Value)} {x : N} {w : Value} {t : Tm} (h : WS P t fun y => y = x ∨ (valueAt kvs y).isSome = true) : WS P t fun y => (valueAt (stored kvs x w) y).isSome = true :=
  h.mono fun y k => by
    rw [at_stored]
    by_cases e : y = x
    · rw [if_pos e]; rfl
    · rw [if_neg e]; exact k.elim (fun z => absurd z e) id
structure TpsA (D : Wd) (G : PM) (a : Addr) (P : Tops) : Prop where
  of : ∃ kvs, DcA D G a kvs ∧ ∀ f fd, P f = some fd → ∃ l, valueAt kvs f = some (.ref l) ∧ LamA G l fd.ps fd.body
theorem TpsA.up {D : Wd} {G G' : PM} (g : GLe G G') {a : Addr} {P : Tops} (h : TpsA D G a P) : TpsA D G' a P := let ⟨kvs, d, k⟩ := h.of; ⟨kvs, d.up g, fun f fd e => let ⟨l, h1, h2⟩ := k f fd e; ⟨l, h1, h2.up g⟩⟩
noncomputable def TW (P : Tops) : Prop := ∀ f fd, P f = some fd → WS P fd.body (· ∈ fd.ps) ∧ fd.ps.Nodup
section
variable {D : Wd} {A : Around} {F : Fn} {G C G' C' : PM} {m : LM} {h : Heap} {env : Env} {pos : Pos} {P : Tops}
theorem with_ok {ea : Addr} {kvs : List (Str × Value)} {x : N} {u : Tok} {v : Value} (R : Room A 1) (he : DcA D G ea kvs) (hz : kvs.length ≤ 1000) :
    CodeOk D A (.ref 665) [.ref ea, .str x u, v] G C (fun r G' C' => C' = C ∧ ∃ a, r = .ref a ∧ DcA D G' a (stored kvs x v)) := by
  refine codeOk_def (binds := [(sS "env", .ref ea), (sS "name", .str x u), (sS "thing", v)]) (look665 _) (by kernel_rfl) R.lt (fun s X => BindsTo.of_eq rfl) (locs rfl) ?_ (by decide)
  intro F hG hC env₀ A₀ m₀ Q₀ q₀
  refine B.cons ?_
  repeat tb_start
  refine B.dictOf (.inl he) (by rw [sizeLine_eq]; lia) (fun d ob hg hc hf hz' hd => ?_)
  repeat tb_start
  refine B.setD up_self hd (by rw [sizeLine_eq]; lia) (fun o' hd' => ?_)
  rw [up_up]
  refine Then.next ?_
  refine B.freeze up_self hf (fun g => ?_) hg
  rw [rm_up1 hc]
  repeat tb_start
  exact ⟨rfl, d, rfl, hz', o', up_self, hd'⟩
inductive VPost (P : Tops) (fl : Addr) (t : Tm) (ρ : Rho) (f : Nat) (C : PM) (r : Value) (C' : PM) : Prop
  | mk : (CK C C' [fl]) → ∀ x f', (ValA r x) → (Outc P t ρ f x f') → ∀ o' u', (C' fl = some o') → (LsO o' [.int f' u']) → VPost P fl t ρ f C r C'
noncomputable def ValueOk (D : Wd) (P : Tops) (f : Nat) : Prop := ∀ {A : Around} {G C : PM} {v : Value} {ea ta fl : Addr} {kvs : List (Str × Value)} {t : Tm} {ρ : Rho} {o : Obj} {u : Tok}, Room A (f + 10) → TmA G v t → RhA D P f G ea kvs ρ → WS P t (fun x => (valueAt kvs x).isSome = true) → TpsA D G ta P → C fl = some o → LsO o [.int f u] →
  CodeOk D A (.ref 658) [v, .ref ea, .ref ta, .ref fl] G C (fun r _ C' => VPost P fl t ρ f C r C')
theorem VPost.step {fl : Addr} {t t' : Tm} {ρ ρ' : Rho} {f f₁ : Nat} {C₀ C' : PM} {r : Value} (ck : CK C₀ C [fl]) (p : VPost P fl t' ρ' f₁ C r C') (k : ∀ x f', Outc P t' ρ' f₁ x f' → Outc P t ρ f x f') : VPost P fl t ρ f C₀ r C' :=
  let ⟨c, x, f', v, o, o', u', z, w⟩ := p; ⟨ck.trans c, x, f', v, k x f' o, o', u', z, w⟩
/-- the pairs of a call's own names -/
inductive PrA (G : PM) (v : Value) (pr : Str × Value) : Prop
  | mk : ∀ p t, (v = .ref p) → (TpA G p [.str pr.1 t, pr.2]) → PrA G v pr
inductive PrQ (G : PM) (ea : Addr) (pr : Str × Value) (a : N × Value) : Prop
  | mk : (pr.1 = a.1) → ∀ q, (pr.2 = .ref q) → (TpA G q [a.2, .ref ea]) → PrQ G ea pr a
noncomputable def bindR (ρ : Rho) : List N → List Tm → Rho → Rho
  | p :: ps, t :: ts, acc => bindR ρ ps ts (setR acc p (.th t ρ))
  | _, _, acc => acc
theorem prq_names {ea : Addr} : ∀ {prs : List (Str × Value)} {as : List (N × Value)}, PySem.Paired (PrQ G ea) prs as → prs.map (·.1) = as.map (·.1)
  | _, _, .nil => rfl
  | _, _, .cons a h => by rw [List.map_cons, List.map_cons, a.1, prq_names h]
theorem zip_names : ∀ {ps : List N} {ws : List Value}, ps.length = ws.length → (ps.zip ws).map (·.1) = ps
  | [], [], _ => rfl
  | p :: ps, w :: ws, h => by rw [List.zip_cons_cons, List.map_cons, zip_names (Nat.succ.inj h)]
theorem rha_bind {ea wa : Addr} {ps : List N} {ts : List Tm} {ws : List Value} {prs kvs : List (Str × Value)} {ρ : Rho} {f : Nat} {b : Tm} (hlen : ts.length = 1 ∨ ts.length = 2) (hps : ps.length = ts.length) (hnd : ps.Nodup) (hw : PySem.Paired (TmA G) ws ts) (hp : PySem.Paired (PrQ G ea) prs (ps.zip ws)) (hd : DcA D G wa prs)
    (hr : RhA D P (f + 1) G ea kvs ρ) (hf : f ≤ 500) (hws : ∀ t ∈ ts, WS P t (fun x => (valueAt kvs x).isSome = true)) (hb : WS P b (· ∈ ps)) : RhA D P f G wa prs (bindR ρ ps ts rho0) ∧ WS P b (fun x => (valueAt prs x).isSome = true) := by
  have th : ∀ {q : Addr} {w : Value} {t : Tm}, TpA G q [w, .ref ea] → TmA G w t → t ∈ ts → ThA D P f G (.ref q) (.th t ρ) := fun h1 h2 h3 => .th h1 h2 hr.d (by have := hr.l; lia) (hws _ h3) fun x w k => (hr.v x w k).up .rfl (Nat.le_succ f)
  rcases hlen with hl | hl
  · obtain ⟨w, t, rfl, rfl, tw⟩ := paired_one hw hl
    match ps, hps with
    | [p], _ =>
      cases hp with
      | @cons pr _ _ _ h1 h2 =>
        cases h2
        obtain ⟨p', v'⟩ := pr
        obtain ⟨e1, q, e2, hq⟩ := h1
        dsimp only at e1 e2 hq
        subst e1 e2
        have at1 : ∀ x, valueAt [(p', Value.ref q)] x = if x = p' then some (.ref q) else none := fun x => by
          unfold valueAt
          by_cases e : p' = x
          · subst e; simp
          · simp [e, Ne.symm e]
        refine ⟨⟨hd, by simp; lia, fun x w' k => ?_⟩, hb.mono fun x k => ?_⟩
        · rw [at1] at k
          split at k
          · rename_i e
            cases k
            show ThA D P f G _ (setR rho0 p' (.th t ρ) x)
            rw [e, setR_same]; exact th hq tw (.head _)
          · cases k
        · rw [at1]; simp at k; rw [if_pos k]; rfl
  · obtain ⟨w, w2, t, t2, rfl, rfl, tw, tw2⟩ := paired_two hw hl
    match ps, hps with
    | [p, p2], _ =>
      cases hp with
      | @cons pr _ _ _ h1 h2 =>
        cases h2 with
        | @cons pr2 _ _ _ h2 h3 =>
          cases h3
          obtain ⟨p', v'⟩ := pr
          obtain ⟨p2', v2'⟩ := pr2
          obtain ⟨e1, q, e2, hq⟩ := h1
          obtain ⟨e3, q2, e4, hq2⟩ := h2
          dsimp only at e1 e2 hq e3 e4 hq2
          subst e1 e2 e3 e4
          have ne : p' ≠ p2' := by simpa using hnd
          have at1 : ∀ x, valueAt [(p', Value.ref q), (p2', Value.ref q2)] x = if x = p' then some (.ref q) else if x = p2' then some (.ref q2) else none := fun x => by
            unfold valueAt
            by_cases e : p' = x
            · subst e; simp
            · by_cases e' : p2' = x
              · subst e'; simp [e, Ne.symm e]
              · simp [e, Ne.symm e, e', Ne.symm e']
          refine ⟨⟨hd, by simp; lia, fun x w' k => ?_⟩, hb.mono fun x k => ?_⟩
          · show ThA D P f G _ (setR (setR rho0 p' (.th t ρ)) p2' (.th t2 ρ) x)
            rw [at1] at k
            split at k
            · rename_i e
              cases k
              rw [e, setR_ne ne, setR_same]; exact th hq tw (.head _)
            · split at k
              · rename_i e
                cases k
                rw [e, setR_same]; exact th hq2 tw2 (.tail _ (.head _))
              · cases k
          · rw [at1]; simp at k
            rcases k with k | k
            · rw [if_pos k]; rfl
            · split
              · rfl
              · rfl
inductive AInv2 (ea : Addr) (as : List (N × Value)) (C : PM) (i : Nat) (ys : List Value) (G' C' : PM) : Prop
  | mk : (C' = C) → ∀ prs, (PySem.Paired (PrA G') ys prs) → (PySem.Paired (PrQ G' ea) prs (as.take i)) → AInv2 ea as C i ys G' C'
theorem value_app (hw : TW P) {f : Nat} (ih : ValueOk D P f) {av vf l ea ta fl : Addr} {g : N} {tg : Tok} {ws : List Value} {ts : List Tm} {ps : List N} {b : Tm} {kvs : List (Str × Value)} {ρ : Rho} {o : Obj} {u : Tok} (R : Room A (f + 11)) (hf : f ≤ 500) (hi : InA G av 141 [(sS "fun", .ref vf), (sS "args", .ref l)]) (hv : InA G vf 59 [(sS "name", .str g tg)]) (hl : LsA G l ws) (hwt : PySem.Paired (TmA G) ws ts) (hlen : ts.length = 1 ∨ ts.length = 2)
    (hP : P g = some ⟨ps, b⟩) (hps : ps.length = ts.length) (hr : RhA D P (f + 1) G ea kvs ρ) (hws : ∀ t ∈ ts, WS P t (fun x => (valueAt kvs x).isSome = true)) (htp : TpsA D G ta P) (hfl : C fl = some o) (hlo : LsO o [.int ((f + 1 : Nat) : Int) u]) :
    CodeOk D A (.ref 658) [.ref av, .ref ea, .ref ta, .ref fl] G C (fun r _ C' => VPost P fl b (bindR ρ ps ts rho0) f C r C') := by
  refine codeOk_cellsB (binds := [(sS "expr", .ref av), (sS "env", .ref ea), (sS "tops", .ref ta), (sS "fuel", .ref fl)]) (look658 _) (by kernel_rfl) (R.le (by exact Nat.le_of_ble_eq_true rfl : 1 ≤ _)).lt rfl (by kernel_rfl) ?_
  intro F hG hC G₁ C₁ cs₀ env₀ A₀ m₀ cl Q₀ q₀
  have k1 := cl.pA (sS "expr") rfl rfl
  have k2 := cl.pA (sS "env") rfl rfl
  obtain ⟨oc, hoc, hoc2, hoc3, hoc4⟩ := cl.q (sS "function") _ rfl rfl
  have g0 := cl.g
  have hfl1 := cl.c _ _ hfl
  have ck0 := cl.ck (as := [fl])
  have hi1 := hi.up g0
  have hv1 := hv.up g0
  have hl1 := hl.up g0
  have hwt1 := Paired.imp (fun _ _ h => TmA.up g0 h) hwt
  have hr1 : RhA D P (f + 1) G₁ ea kvs ρ := hr.up g0 (Nat.le_refl _)
  have htp1 : TpsA D G₁ ta P := htp.up g0
  obtain ⟨tkv, htd, htf⟩ := htp1.of
  obtain ⟨lf, hlf, hlam⟩ := htf _ _ hP
  obtain ⟨lp, vb, hil, ⟨pvs, hpv, hst⟩, hvb⟩ := hlam
  have hpl : pvs.length = ps.length := strsAre_len hst
  have hwl : ws.length = ts.length := hwt.length
  obtain ⟨ab, rfl⟩ := hvb.ref
  have R1 : Room A₀ (f + 10) := (R.le (by exact Nat.lt_succ_self _ : (f + 10) + 1 ≤ _)).deeper
  clear hi hv hl hwt hr htp
  refine B.cons ?_
  repeat tb_start
  refine B.itemL (.inr ⟨o, hfl1, hlo⟩) (by decide) (by decide) rfl ?_
  repeat tb_start
  refine B.setL hfl1 hlo (by decide) (by decide) (by simp) (fun o1 ho1 => ?_)
  have ho1 : LsO o1 [.int (((f + 1 : Nat) : Int) - 1) _] := ho1
  rw [show ((f + 1 : Nat) : Int) - 1 = (f : Int) by lia] at ho1
  have ck1 : CK C (up C₁ fl o1) [fl] := ck0.up (.head _)
  have hfl2 : up C₁ fl o1 fl = some o1 := up_self
  have nfl : F.L + 1 + 1 + 1 ≠ fl := fun z => by rw [z, hfl] at hoc3; cases hoc3
  have hocf : up C₁ fl o1 (F.L + 1 + 1 + 1) = some oc := by rw [up_ne nfl]; exact hoc
  generalize Mine.up C₁ fl o1 = C2 at ck1 hfl2 hocf
  repeat tb_start
  refine B.itemL (.inr ⟨o1, hfl2, ho1⟩) (by decide) (by decide) rfl ?_
  repeat tb_start
  refine B.sFh (decide_eq_false (by lia)) ?_
  repeat tb_start
  walk_at "mine.no"
  repeat tb_start
  walk_at "mine.no"
  repeat tb_start
  walk_at "mine.yes"
  repeat tb_start
  refine B.itemD (.inl htd) hlf ?_
  repeat tb_start
  refine B.storeCell rfl hocf hoc2 (fun o2 ho2 => ?_)
  have ck2 : CK C (Mine.up C2 (F.L + 1 + 1 + 1) o2) [fl] := ck1.upD hoc3
  have hfl3 : Mine.up C2 (F.L + 1 + 1 + 1) o2 fl = some o1 := by rw [up_ne (Ne.symm nfl)]; exact hfl2
  have k3 : ClA (Mine.up C2 (F.L + 1 + 1 + 1) o2) (F.L + 1 + 1 + 1) (.ref lf) := ⟨o2, up_self, ho2⟩
  generalize Mine.up C2 (F.L + 1 + 1 + 1) o2 = C3 at ck2 hfl3 k3
  repeat tb_start
  refine B.listCompZ (cl := ?cl1) ?x1 ?h11 ?h12 rfl ?h14 ?h15
  case h11 => exact rfl
  case h12 => decide
  case h14 => decide
  case h15 => exact fun _ => rfl
  repeat tb_start
  refine B.lenL (.inl hl1) (by lia) (fun _ => ?_)
  repeat tb_start
  refine B.range (fun ra Gr gr hra => ?_)
  refine ⟨ws.length, _, AInv2 ea (ps.zip ws) C3, iter_range R1.h (by lia) hra, by rw [sizeLine_eq]; lia, ⟨rfl, [], .nil, by simpa using PySem.Paired.nil⟩, ?_, ?_⟩
  · intro j x ys Gj Cj mj Fj hj hFG hFC hgj inv hPj
    refine B.opq fun Q₁ q₁ => ?_
    obtain ⟨rfl, prs, hp1, hp2⟩ := inv
    obtain ⟨tj, rfl⟩ := hPj
    have gj := gr.trans hgj
    have hpv2 := hpv.up gj
    have hl2 := hl1.up gj
    have hil2 := hil.up gj
    have hi2 := hi1.up gj
    have hjp : j < pvs.length := by lia
    obtain ⟨pn, tp, hpn, hpe⟩ := strs_get hst (List.getElem?_eq_getElem hjp)
    have hwj : ws[j]? = some ws[j] := List.getElem?_eq_getElem hj
    repeat tb_start
    refine B.tuple ?_
    repeat tb_start
    refine B.itemL (.inl hpv2) (by exact Int.natCast_nonneg _) (by lia) (by rw [Int.toNat_natCast]; exact List.getElem?_eq_getElem hjp) ?_
    repeat tb_start
    refine B.tuple ?_
    repeat tb_start
    refine B.itemL (.inl hl2) (by exact Int.natCast_nonneg _) (by lia) (by rw [Int.toNat_natCast]; exact hwj) ?_
    repeat tb_start
    refine ⟨Nat.le_of_ble_eq_true rfl, fun tq Gq gq htq => ?_⟩
    repeat tb_start
    refine ⟨Nat.le_of_ble_eq_true rfl, fun tp' Gp gp htp' => ?_⟩
    have e : (ps.zip ws).take (j + 1) = (ps.zip ws).take j ++ [(pn, ws[j])] := by
      rw [List.take_add_one, (List.getElem?_zip_eq_some (z := (pn, ws[j]))).mpr ⟨hpn, hwj⟩]; rfl
    rw [hpe] at htp'
    refine ⟨rfl, prs ++ [(pn, .ref tq)], (Paired.imp (fun _ _ ⟨p, t, e, h⟩ => ⟨p, t, e, (h.up gq).up gp⟩) hp1).snoc ⟨tp', tp, rfl, htp'⟩, ?_⟩
    rw [e]
    exact (Paired.imp (fun _ _ ⟨e1, q, e2, h⟩ => ⟨e1, q, e2, (h.up gq).up gp⟩) hp2).snoc ⟨rfl, tq, rfl, htq.up gp⟩
  · intro ys Gj Cj ld G8 hgj inv hg8 hld
    obtain ⟨rfl, prs, hp1, hp2⟩ := inv
    have hzl : (ps.zip ws).length = ws.length := by rw [List.length_zip]; lia
    rw [← hzl, List.take_length] at hp2
    have hnames : prs.map (·.1) = ps := by rw [prq_names hp2, zip_names (by lia)]
    have hnd := (hw _ _ hP).2
    repeat tb_start
    refine B.dictPairs (pairs := prs) R1.h (.inl hld) hp1.length.symm (by rw [hp1.length, hp2.length, hzl, sizeLine_eq]; lia) (fun j v hj => ?_) (by rw [hnames]; exact hnd) (fun wa ob hgw hcw hfw hzw hob => ?_)
    · obtain ⟨⟨kk, x⟩, h1, p, t, rfl, h2⟩ := paired_get hp1 hj
      exact ⟨p, t, kk, x, rfl, h2.up hg8, h1⟩
    repeat tb_start
    refine B.freeze2 up_self hfw (fun G9 g9 h9 => ?_)
    rw [rm_up1 hcw]
    have g19 : GLe G₁ G9 := ((gr.trans hgj).trans hg8).trans g9
    have hwa : DcA D G9 wa prs := ⟨hzw, ob, h9, hob⟩
    obtain ⟨hr9, hw9⟩ := rha_bind hlen hps hnd (Paired.imp (fun _ _ h => TmA.up g19 h) hwt1) (Paired.imp (fun _ _ ⟨e1, q, e2, h⟩ => ⟨e1, q, e2, (h.up hg8).up g9⟩) hp2) hwa (hr1.up g19 (Nat.le_refl _)) hf hws (hw _ _ hP).1
    have hil9 := hil.up g19
    repeat tb_start
    refine B.callOk (ih (R1.le (by exact le1 rfl)) (hvb.up g19) hr9 hw9 (htp1.up g19) hfl3 ho1).call (fun r3 G4 C4 g4 p4 => ?_)
    repeat tb_start
    exact p4.step ck2 fun _ _ h => h
end
section
variable {D : Wd} {A : Around} {F : Fn} {G C G' C' : PM} {m : LM} {h : Heap} {env : Env} {pos : Pos} {P : Tops}
theorem valA_cases {v : Value} {x : Option (Option Int)} (h : ValA v x) : (Ex2 fun i u => x = some (some i) ∧ v = .int i u) ∨ ((∀ i, x ≠ some (some i)) ∧ Ex2 fun s u => v = .str s u) := by
  match x, h with
  | some (some i), ⟨u, e⟩ => exact .inl ⟨i, u, rfl, e⟩
  | some none, ⟨u, e⟩ => exact .inr ⟨by simp, _, u, e⟩
  | none, ⟨u, e⟩ => exact .inr ⟨by simp, _, u, e⟩
theorem shaped_key (k : Int) : PySem.SeqAt.shaped (.tuple [.str (sS "lit"), .str (sS "int"), .int k]) = true := by
  have h1 : PyData.strOk (sS "lit") = true := by decide +kernel
  have h2 : PyData.strOk (sS "int") = true := by decide +kernel
  unfold PySem.SeqAt.shaped
  simp [PyData.canLay0, PyData.canLayAll0, PyData.depth, PyData.depthAll, h1, h2]
/-- a sum's way -/
noncomputable def AddI (P : Tops) (a b : Tm) (ρ : Rho) (f : Nat) : Nat → Int → Nat → Prop
  | 0, tot, g => tot = 0 ∧ g = f
  | 1, tot, g => ∃ d, And3 (Ev P a ρ (some tot) d) (d ≤ f) (g = f - d)
  | _, tot, g => Ex4 fun i j d e => And5 (Ev P a ρ (some i) d) (Ev P b ρ (some j) e) (d + e ≤ f) (tot = i + j) (g = f - d - e)
theorem AddI.le {a b : Tm} {ρ : Rho} {f : Nat} : ∀ {j : Nat} {tot : Int} {g : Nat}, AddI P a b ρ f j tot g → g ≤ f
  | 0, _, _, h => by have := h.2; lia
  | 1, _, _, h => by obtain ⟨d, _, _, e⟩ := h; lia
  | _ + 2, _, _, h => by obtain ⟨_, _, d, e, _, _, _, _, z⟩ := h; lia
theorem AddI.next {a b t : Tm} {ρ : Rho} {f : Nat} {i : Int} {c : Nat} : ∀ {j : Nat} {tot : Int} {g : Nat}, AddI P a b ρ f j tot g → [a, b][j]? = some t → Ev P t ρ (some i) c → c ≤ g → AddI P a b ρ f (j + 1) (tot + i) (g - c)
  | 0, _, _, h, ht, he, hc => by
    obtain ⟨rfl, rfl⟩ := h; cases ht; rw [Int.zero_add]; exact ⟨c, he, hc, rfl⟩
  | 1, _, _, h, ht, he, hc => by
    obtain ⟨d, h1, h2, rfl⟩ := h; cases ht; exact ⟨_, i, d, c, h1, he, by lia, rfl, rfl⟩
  | j + 2, _, _, _, ht, _, _ => by simp at ht
theorem AddI.stop {a b t : Tm} {ρ : Rho} {f : Nat} {x : Option (Option Int)} {f' : Int} (hx : ∀ i, x ≠ some (some i)) : ∀ {j : Nat} {tot : Int} {g : Nat}, AddI P a b ρ f j tot g → [a, b][j]? = some t → Outc P t ρ g x f' → Outc P (.add a b) ρ (f + 1) x f'
  | 0, _, _, h, ht, ho => by
    obtain ⟨rfl, rfl⟩ := h; cases ht; exact Outc.addE hx ho
  | 1, _, _, h, ht, ho => by
    obtain ⟨d, h1, h2, rfl⟩ := h; cases ht; exact Outc.addF h1 h2 hx ho
  | j + 2, _, _, _, ht, _ => by simp at ht
theorem AddI.end {a b : Tm} {ρ : Rho} {f : Nat} {tot : Int} {g : Nat} (h : AddI P a b ρ f 2 tot g) : Outc P (.add a b) ρ (f + 1) (some (some tot)) g := by
  obtain ⟨i, j, d, e, h1, h2, h3, rfl, rfl⟩ := h
  exact ⟨d + e + 1, .add h1 h2, by exact Nat.lt_succ_of_le (by assumption), by lia⟩
theorem value_step (hw : TW P) (f : Nat) (hf5 : f ≤ 500) (ih : ∀ f' < f, ValueOk D P f') : ValueOk D P f := by
  intro A G C v ea ta fl kvs t ρ o u R ht hr hws htp hfl hlo
  obtain ⟨av, rfl⟩ := ht.ref
  have app : ∀ {f₀ : Nat} {vf l : Addr} {g : N} {tg : Tok} {ws : List Value} {ts : List Tm} {ps : List N} {b : Tm}, f = f₀ + 1 → InA G av 141 [(sS "fun", .ref vf), (sS "args", .ref l)] → InA G vf 59 [(sS "name", .str g tg)] → LsA G l ws → PySem.Paired (TmA G) ws ts → ts.length = 1 ∨ ts.length = 2 →
      P g = some ⟨ps, b⟩ → ps.length = ts.length → (∀ t ∈ ts, WS P t (fun x => (valueAt kvs x).isSome = true)) → CodeOk D A (.ref 658) [.ref av, .ref ea, .ref ta, .ref fl] G C (fun r _ C' => VPost P fl b (bindR ρ ps ts rho0) f₀ C r C') := by
    intro f₀ vf l g tg ws ts ps b hff h1 h2 h3 h4 h5 h6 h7 h8
    subst hff
    exact value_app hw (ih f₀ (by exact Nat.lt_succ_self _)) (R.le (by exact Nat.lt_succ_self _)) (by exact Nat.le_of_succ_le (by assumption)) h1 h2 h3 h4 h5 h6 h7 hr h8 htp hfl hlo
  have viaApp : ∀ {f₀ : Nat} {t' : Tm} {ρ' : Rho}, f = f₀ + 1 → (∀ x f', Outc P t' ρ' f₀ x f' → Outc P t ρ (f₀ + 1) x f') → CodeOk D A (.ref 658) [.ref av, .ref ea, .ref ta, .ref fl] G C (fun r _ C' => VPost P fl t' ρ' f₀ C r C') → CodeOk D A (.ref 658) [.ref av, .ref ea, .ref ta, .ref fl] G C (fun r _ C' => VPost P fl t ρ f C r C') := by
    intro f₀ t' ρ' hff hk k
    subst hff
    exact k.mono fun r G' C' _ p => p.step CK.refl hk
  by_cases happ : f ≠ 0 ∧ ((Ex2 fun g a => t = .ap1 g a) ∨ Ex3 fun g a b => t = .ap2 g a b)
  · obtain ⟨hf0, hap⟩ := happ
    obtain ⟨f₀, hff⟩ : ∃ f₀, f = f₀ + 1 := ⟨f - 1, by exact pz (by assumption)⟩
    rcases hap with ⟨g, a, rfl⟩ | ⟨g, a, b, rfl⟩
    · obtain ⟨a', vf, tg, l, w, e, hi, hv, hl, hp⟩ := ht
      obtain rfl := Value.ref.inj e
      obtain ⟨⟨p, b, hP⟩, hwa⟩ := hws
      exact viaApp hff (fun x f' h => Outc.ap1 hP h) (app (ts := [a]) (ps := [p]) hff hi hv hl (.cons hp .nil) (.inl rfl) hP rfl (by intro t ht; simp at ht; subst ht; exact hwa))
    · obtain ⟨a', vf, tg, l, w, w', e, hi, hv, hl, hp, hq⟩ := ht
      obtain rfl := Value.ref.inj e
      obtain ⟨⟨p, q, b', hP⟩, hwa, hwb⟩ := hws
      exact viaApp hff (fun x f' h => Outc.ap2 hP h) (app (ts := [a, b]) (ps := [p, q]) hff hi hv hl (.cons hp (.cons hq .nil)) (.inr rfl) hP rfl (by intro t ht; simp at ht; rcases ht with rfl | rfl; exact hwa; exact hwb))
  clear app viaApp
  refine codeOk_cellsB (binds := [(sS "expr", .ref av), (sS "env", .ref ea), (sS "tops", .ref ta), (sS "fuel", .ref fl)]) (look658 _) (by kernel_rfl) (R.le (by exact Nat.le_of_ble_eq_true rfl : 1 ≤ _)).lt rfl (by kernel_rfl) ?_
  intro F hG hC G₁ C₁ cs₀ env₀ A₀ m₀ cl Q₀ q₀
  have k1 := cl.pA (sS "expr") rfl rfl
  have k2 := cl.pA (sS "env") rfl rfl
  have g0 := cl.g
  have hfl1 := cl.c _ _ hfl
  have ck0 := cl.ck (as := [fl])
  have ht1 := ht.up g0
  have hr1 : RhA D P f G₁ ea kvs ρ := hr.up g0 (Nat.le_refl _)
  have htp1 : TpsA D G₁ ta P := htp.up g0
  have R1 : Room A₀ (f + 9) := (R.le (by exact Nat.lt_succ_self _ : (f + 9) + 1 ≤ _)).deeper
  clear ht hr htp
  refine B.cons ?_
  repeat tb_start
  refine B.itemL (.inr ⟨o, hfl1, hlo⟩) (by decide) (by decide) rfl ?_
  repeat tb_start
  refine B.setL hfl1 hlo (by decide) (by decide) (by simp) (fun o1 ho1 => ?_)
  have ho1 : LsO o1 [.int ((f : Int) - 1) _] := ho1
  have ck1 : CK C (up C₁ fl o1) [fl] := ck0.up (.head _)
  have hfl2 : up C₁ fl o1 fl = some o1 := up_self
  generalize Mine.up C₁ fl o1 = C2 at ck1 hfl2
  repeat tb_start
  refine B.itemL (.inr ⟨o1, hfl2, ho1⟩) (by decide) (by decide) rfl ?_
  repeat tb_start
  refine B.ifS (fun hc => ?_) (fun hc => ?_)
  · have hf0 : f = 0 := by have := of_decide_eq_true hc; lia
    subst hf0
    repeat tb_start
    exact ⟨ck1, none, _, ⟨_, rfl⟩, Outc.zero, o1, _, hfl2, ho1⟩
  have hf0 : f ≠ 0 := by have := of_decide_eq_false hc; lia
  obtain ⟨f, rfl⟩ : ∃ f₀, f = f₀ + 1 := ⟨f - 1, by exact pz (by assumption)⟩
  rw [show ((f + 1 : Nat) : Int) - 1 = (f : Int) by lia] at ho1
  have hrf : RhA D P f G₁ ea kvs ρ := hr1.up .rfl (Nat.le_succ f)
  have ihf : ValueOk D P f := ih f (Nat.lt_succ_self f)
  have hkl : kvs.length ≤ 1000 := by have := hr1.l; lia
  repeat tb_start
  cases t with
  | ap1 g a => exact absurd ⟨hf0, .inl ⟨g, a, rfl⟩⟩ happ
  | ap2 g a b => exact absurd ⟨hf0, .inr ⟨g, a, b, rfl⟩⟩ happ
  | lit i =>
    obtain ⟨a, tx, ty, e, hi⟩ := ht1
    obtain rfl := Value.ref.inj e
    walk_at "mine.yes"
    repeat tb_start
    exact ⟨ck1, some (some i), _, ⟨_, rfl⟩, ⟨1, .lit, by exact Nat.le_of_ble_eq_true rfl, by lia⟩, o1, _, hfl2, ho1⟩
  | var x =>
    obtain ⟨a, tx, e, hi⟩ := ht1
    obtain rfl := Value.ref.inj e
    obtain ⟨w, hx⟩ := Option.isSome_iff_exists.mp hws
    have hth := hr1.v x w hx
    walk_at "mine.no"
    repeat tb_start
    walk_at "mine.yes"
    repeat tb_start
    refine B.itemD (.inl hr1.d) hx ?_
    repeat tb_start
    generalize hρ : ρ x = θ at hth
    cases hth with
    | int =>
      refine B.isiInt (T := "tuple") (b := false) (by kernel_rfl) ?_
      repeat tb_start
      exact ⟨ck1, some (some _), _, ⟨_, rfl⟩, ⟨1, .varI hρ, by exact Nat.le_of_ble_eq_true rfl, by lia⟩, o1, _, hfl2, ho1⟩
    | th h1 h2 h3 h4 h5 h6 =>
      obtain ⟨aw, rfl⟩ := h2.ref
      refine B.isiTup (T := "tuple") (b := true) h1 (by kernel_rfl) ?_
      repeat tb_start
      refine B.itemT h1 (j := 0) (by decide) (by decide) rfl rfl ?_
      repeat tb_start
      refine B.itemT h1 (j := 1) (by decide) (by decide) rfl rfl ?_
      repeat tb_start
      refine B.callOk (ihf (R1.le (by exact Nat.lt_succ_self _)) h2 ⟨h3, by exact Nat.le_of_succ_le (by assumption), fun x w k => (h6 x w k).up .rfl (Nat.le_succ f)⟩ h5 htp1 hfl2 ho1).call (fun r3 G3 C3 g3 p3 => ?_)
      repeat tb_start
      exact p3.step ck1 fun _ _ h => Outc.varT hρ h
  | lt y e b =>
    obtain ⟨a, lb, tp, t, ve, vb, ev, hi, hlb, htp', hve, hvb⟩ := ht1
    cases ev
    obtain ⟨ae, rfl⟩ := hve.ref
    obtain ⟨ab, rfl⟩ := hvb.ref
    walk_at "mine.no"
    repeat tb_start
    walk_at "mine.no"
    repeat tb_start
    walk_at "mine.no"
    repeat tb_start
    walk_at "mine.yes"
    repeat tb_start
    refine B.asgTupleS ?_ rfl rfl
    repeat tb_start
    refine B.itemL (.inl hlb.ls) (by decide) (by decide) rfl ?_
    refine B.asgTuple R1.h htp' rfl rfl ?_
    refine B.inOrder ?_
    repeat tb_start
    refine B.inOrder ?_
    repeat tb_start
    refine B.inOrder0 ?_
    repeat tb_start
    refine B.tuple ?_
    repeat tb_start
    refine ⟨Nat.le_of_ble_eq_true rfl, fun tq Gq gq htq => ?_⟩
    repeat tb_start
    refine B.callX (with_ok (R1.le (by exact Nat.le_of_ble_eq_true rfl)) (hr1.d.up gq) hkl) (fun a2 G2 g2 hd2 => ?_)
    have g12 := gq.trans g2
    have hth : ThA D P f G2 (.ref tq) (.th e ρ) := .th (htq.up g2) (hve.up g12) (hr1.d.up g12) hrf.l hws.1 fun x w k => (hrf.v x w k).up g12 (Nat.le_refl _)
    have hr2 := (hr1.up g12 (Nat.le_refl _)).set hth hd2
    repeat tb_start
    refine B.callOk (ihf (R1.le (by exact Nat.lt_succ_self _)) (hvb.up g12) hr2 (RhA.ws hws.2) (htp1.up g12) hfl2 ho1).call (fun r3 G3 C3 g3 p3 => ?_)
    repeat tb_start
    exact p3.step ck1 fun _ _ h => Outc.lt h
  | err =>
    obtain ⟨a, t1, l, w, b, t2, t3, e, hi, hl, rfl, hb⟩ := ht1
    obtain rfl := Value.ref.inj e
    walk_at "mine.no"
    repeat tb_start
    walk_at "mine.no"
    repeat tb_start
    walk_at "mine.no"
    repeat tb_start
    walk_at "mine.no"
    repeat tb_start
    walk_at "mine.no"
    repeat tb_start
    refine B.sTh (by decide) ?_
    repeat tb_start
    exact ⟨ck1, some none, _, ⟨_, rfl⟩, ⟨1, .err, by exact Nat.le_of_ble_eq_true rfl⟩, o1, _, hfl2, ho1⟩
  | add p q =>
    obtain ⟨a, t1, l, w, w', e, hi, hl, hp, hq⟩ := ht1
    obtain rfl := Value.ref.inj e
    walk_at "mine.no"
    repeat tb_start
    walk_at "mine.no"
    repeat tb_start
    walk_at "mine.no"
    repeat tb_start
    walk_at "mine.no"
    repeat tb_start
    walk_at "mine.no"
    repeat tb_start
    refine B.sFh (by decide) ?_
    repeat tb_start
    refine B.for ?xadd
    repeat tb_start
    refine ⟨2, _, fun j G' C' m' => CK C C' [fl] ∧ Ex5 fun tot g ut o' u' => And6 (m' (sS "total") = some (.int tot ut)) (m' (sS "tops") = some (.ref ta)) (m' (sS "fuel") = some (.ref fl)) (AddI P p q ρ f j tot g) (C' fl = some o') (LsO o' [.int (g : Int) u']), iter_list R1.h hl, ⟨ck1, 0, f, _, o1, _, rfl, rfl, rfl, ⟨rfl, rfl⟩, hfl2, ho1⟩, ?_, ?_⟩
    · intro j x Gj Cj mj Fjh hj hgj inv hP Fj
      refine B.opq fun Q₁ q₁ => ?_
      obtain ⟨ck2, tot, g, ut, o3, u3, m1, m2, m3, ai, hfl3, ho3⟩ := inv
      have hgf := ai.le
      obtain ⟨tj, aj, htj, rfl, htm, hwj⟩ : Ex2 fun tj aj => And4 ([p, q][j]? = some tj) (x = .ref aj) (TmA Gj x tj) (WS P tj (fun x => (valueAt kvs x).isSome = true)) := by
        match j, hj, hP with
        | 0, _, hP => cases hP; obtain ⟨aj, e⟩ := hp.ref; exact ⟨p, aj, rfl, e, hp.up hgj, hws.1⟩
        | 1, _, hP => cases hP; obtain ⟨aj, e⟩ := hq.ref; exact ⟨q, aj, rfl, e, hq.up hgj, hws.2⟩
      repeat tb_start
      refine B.callOk (ih g (by exact Nat.lt_succ_of_le (by assumption)) (R1.le (by lia)) htm (hr1.up hgj (by exact Nat.le_succ_of_le (by assumption))) hwj (htp1.up hgj) hfl3 ho3).call (fun r3 G3 C3 g3 p3 => ?_)
      obtain ⟨ck3, x, f', hx, hout, o4, u4, hfl4, ho4⟩ := p3
      rcases valA_cases hx with ⟨i, ui, rfl, rfl⟩ | ⟨hne, s, us, rfl⟩
      · obtain ⟨c, hev, hcg, rfl⟩ := hout
        repeat tb_start
        refine B.isiInt (T := "str") (b := false) (by kernel_rfl) ?_
        repeat tb_start
        rw [show (g : Int) - c = ((g - c : Nat) : Int) by exact (Int.ofNat_sub (by assumption)).symm] at ho4
        exact ⟨ck2.trans ck3, tot + i, g - c, _, o4, u4, by walk_at "mine.nm", by walk_at "mine.nm", by walk_at "mine.nm", ai.next htj hev hcg, hfl4, ho4⟩
      · repeat tb_start
        refine B.isiStr (T := "str") (b := true) (by kernel_rfl) ?_
        repeat tb_start
        refine q₀.at ?_
        exact ⟨ck2.trans ck3, x, f', hx, AddI.stop hne ai htj hout, o4, u4, hfl4, ho4⟩
    · intro Gj Cj mj hgj inv
      obtain ⟨ck2, tot, g, ut, o3, u3, m1, m2, m3, ai, hfl3, ho3⟩ := inv
      repeat tb_start
      exact ⟨ck2, some (some tot), _, ⟨_, rfl⟩, ai.end, o3, u3, hfl3, ho3⟩
  | case e y k p q =>
    obtain ⟨a, ve, t, la, al, kt, ln, va, vo, t1, t2, t3, ev, hi, hla, hal, hkt, hln, hve, hva, hvo⟩ := ht1
    cases ev
    obtain ⟨ae, rfl⟩ := hve.ref
    obtain ⟨aa, rfl⟩ := hva.ref
    obtain ⟨ao, rfl⟩ := hvo.ref
    walk_at "mine.no"
    repeat tb_start
    walk_at "mine.no"
    repeat tb_start
    walk_at "mine.no"
    repeat tb_start
    walk_at "mine.no"
    repeat tb_start
    walk_at "mine.yes"
    repeat tb_start
    refine B.callOk (ihf (R1.le (by exact Nat.lt_succ_self _)) hve hrf hws.1 htp1 hfl2 ho1).call (fun r3 G3 C3 g3 p3 => ?_)
    obtain ⟨ck3, x, f', hx, hout, o4, u4, hfl4, ho4⟩ := p3
    rcases valA_cases hx with ⟨i, ui, rfl, rfl⟩ | ⟨hne, s, us, rfl⟩
    · obtain ⟨c, hev, hcg, rfl⟩ := hout
      rw [show (f : Int) - c = ((f - c : Nat) : Int) by exact (Int.ofNat_sub (by assumption)).symm] at ho4
      have ihc : ValueOk D P (f - c) := ih (f - c) (by exact Nat.lt_succ_of_le (Nat.sub_le _ _))
      have hr3 : RhA D P (f - c + 1) G3 ea kvs ρ := hr1.up g3 (by exact Nat.lt_succ_of_le (Nat.sub_le _ _))
      have hi3 := hi.up g3
      have ck13 := ck1.trans ck3
      repeat tb_start
      refine B.isiInt (T := "str") (b := false) (by kernel_rfl) ?_
      repeat tb_start
      refine B.for ?xcase
      repeat tb_start
      refine ⟨1, _, fun j G' C' m' => And5 (C' = C3) (0 < j → i ≠ k) (m' (sS "value") = some (.int i ui)) (m' (sS "tops") = some (.ref ta)) (m' (sS "fuel") = some (.ref fl)), iter_list R1.h (hla.up g3), ⟨rfl, fun z => absurd z (Nat.lt_irrefl _), rfl, rfl, rfl⟩, ?_, ?_⟩
      · intro j v Gj Cj mj Fjh hj hgj inv hP Fj
        refine B.opq fun Q₁ q₁ => ?_
        obtain ⟨rfl, hn, m1, m2, m3⟩ := inv
        have hj0 : j = 0 := by exact Nat.lt_one_iff.mp (by assumption)
        subst hj0
        cases hP
        have gj := g3.trans hgj
        have hal2 := hal.up gj
        have hi4 := hi.up gj
        repeat tb_start
        refine B.tuple ?_
        repeat tb_start
        refine ⟨Nat.le_of_ble_eq_true rfl, fun tq Gq gq htq => ?_⟩
        have gjq := gj.trans gq
        refine B.eqData (d := .tuple [.str (sS "lit"), .str (sS "int"), .int k]) (e := .tuple [.str (sS "lit"), .str (sS "int"), .int i]) (RdG.tuple (hkt.up gjq) (.cons .str (.cons .str (.cons .int .nil)))) (RdG.tuple htq (.cons .str (.cons .str (.cons .int .nil)))) (shaped_key k) (shaped_key i) (by have := R1.u; show _ < _; exact Nat.lt_of_le_of_lt (Nat.le_trans (by exact le1 rfl) this) (by decide : 9800 < cLine)) ?_
        rw [show PyData.eqv (.tuple [.str (sS "lit"), .str (sS "int"), .int k]) (.tuple [.str (sS "lit"), .str (sS "int"), .int i]) = decide (k = i) from by simp [PyData.eqv, PyData.eqvAll]; rw [Bool.eq_iff_iff]; simp]
        cases hki : decide (k = i)
        · repeat tb_start
          exact ⟨rfl, fun _ z => of_decide_eq_false hki z.symm, by walk_at "mine.nm", by walk_at "mine.nm", by walk_at "mine.nm"⟩
        · have hki := of_decide_eq_true hki
          subst hki
          have hal3 := hal.up gjq
          have hi5 := hi.up gjq
          repeat tb_start
          refine B.callX (with_ok (R1.le (by exact Nat.le_of_ble_eq_true rfl)) (hr1.d.up gjq) hkl) (fun a2 G2 g2 hd2 => ?_)
          have gz := gjq.trans g2
          have hr2 := (hr3.up (hgj.trans (gq.trans g2)) (Nat.le_refl _)).set (θ := .int k) .int hd2
          repeat tb_start
          refine B.callOk (ihc (R1.le (by exact Nat.add_le_add_right (Nat.sub_le _ _) _)) (hva.up gz) hr2 (RhA.ws hws.2.1) (htp1.up gz) hfl4 ho4).call (fun r5 G5 C5 g5 p5 => ?_)
          repeat tb_start
          refine q₀.at ?_
          exact p5.step ck13 fun _ _ h => Outc.caseA hev hcg h
      · intro Gj Cj mj hgj inv
        obtain ⟨rfl, hn, m1, m2, m3⟩ := inv
        have gj := g3.trans hgj
        have hi4 := hi.up gj
        repeat tb_start
        refine B.callX (with_ok (R1.le (by exact Nat.le_of_ble_eq_true rfl)) (hr1.d.up gj) hkl) (fun a2 G2 g2 hd2 => ?_)
        have gz := gj.trans g2
        have hr2 := (hr3.up (hgj.trans g2) (Nat.le_refl _)).set (θ := .int i) .int hd2
        repeat tb_start
        refine B.callOk (ihc (R1.le (by exact Nat.add_le_add_right (Nat.sub_le _ _) _)) (hvo.up gz) hr2 (RhA.ws hws.2.2) (htp1.up gz) hfl4 ho4).call (fun r5 G5 C5 g5 p5 => ?_)
        repeat tb_start
        exact p5.step ck13 fun _ _ h => Outc.caseO hev (hn (by decide)) hcg h
    · repeat tb_start
      refine B.isiStr (T := "str") (b := true) (by kernel_rfl) ?_
      repeat tb_start
      exact ⟨ck1.trans ck3, x, f', hx, Outc.caseE hne hout, o4, u4, hfl4, ho4⟩
  | seq e y q =>
    obtain ⟨a, ve, t, la, vo, ev, hi, hla, hve, hvo⟩ := ht1
    cases ev
    obtain ⟨ae, rfl⟩ := hve.ref
    obtain ⟨ao, rfl⟩ := hvo.ref
    walk_at "mine.no"
    repeat tb_start
    walk_at "mine.no"
    repeat tb_start
    walk_at "mine.no"
    repeat tb_start
    walk_at "mine.no"
    repeat tb_start
    walk_at "mine.yes"
    repeat tb_start
    refine B.callOk (ihf (R1.le (by exact Nat.lt_succ_self _)) hve hrf hws.1 htp1 hfl2 ho1).call (fun r3 G3 C3 g3 p3 => ?_)
    obtain ⟨ck3, x, f', hx, hout, o4, u4, hfl4, ho4⟩ := p3
    rcases valA_cases hx with ⟨i, ui, rfl, rfl⟩ | ⟨hne, s, us, rfl⟩
    · obtain ⟨c, hev, hcg, rfl⟩ := hout
      rw [show (f : Int) - c = ((f - c : Nat) : Int) by exact (Int.ofNat_sub (by assumption)).symm] at ho4
      have ihc : ValueOk D P (f - c) := ih (f - c) (by exact Nat.lt_succ_of_le (Nat.sub_le _ _))
      have hr3 : RhA D P (f - c + 1) G3 ea kvs ρ := hr1.up g3 (by exact Nat.lt_succ_of_le (Nat.sub_le _ _))
      have hi3 := hi.up g3
      have ck13 := ck1.trans ck3
      repeat tb_start
      refine B.isiInt (T := "str") (b := false) (by kernel_rfl) ?_
      repeat tb_start
      refine B.for ?xseq
      repeat tb_start
      refine ⟨0, _, fun j G' C' m' => And4 (C' = C3) (m' (sS "value") = some (.int i ui)) (m' (sS "tops") = some (.ref ta)) (m' (sS "fuel") = some (.ref fl)), iter_list R1.h (hla.up g3), ⟨rfl, rfl, rfl, rfl⟩, ?_, ?_⟩
      · intro j v Gj Cj mj Fj hj
        exact absurd hj (Nat.not_lt_zero _)
      · intro Gj Cj mj hgj inv
        obtain ⟨rfl, m1, m2, m3⟩ := inv
        have gj := g3.trans hgj
        have hi4 := hi.up gj
        repeat tb_start
        refine B.callX (with_ok (R1.le (by exact Nat.le_of_ble_eq_true rfl)) (hr1.d.up gj) hkl) (fun a2 G2 g2 hd2 => ?_)
        have gz := gj.trans g2
        have hr2 := (hr3.up (hgj.trans g2) (Nat.le_refl _)).set (θ := .int i) .int hd2
        repeat tb_start
        refine B.callOk (ihc (R1.le (by exact Nat.add_le_add_right (Nat.sub_le _ _) _)) (hvo.up gz) hr2 (RhA.ws hws.2) (htp1.up gz) hfl4 ho4).call (fun r5 G5 C5 g5 p5 => ?_)
        repeat tb_start
        exact p5.step ck13 fun _ _ h => Outc.seq hev hcg h
    · repeat tb_start
      refine B.isiStr (T := "str") (b := true) (by kernel_rfl) ?_
      repeat tb_start
      exact ⟨ck1.trans ck3, x, f', hx, Outc.seqE hne hout, o4, u4, hfl4, ho4⟩
theorem value_okk (hw : TW P) (f : Nat) (hf : f ≤ 500) : ValueOk D P f := by
  induction f using Nat.strongRecOn with
  | ind f ih => exact value_step hw f hf fun f' h => ih f' h (by lia)
end
section
variable {D : Wd} {A : Around} {F : Fn} {G C G' C' : PM} {m : LM} {h : Heap} {env : Env} {pos : Pos} {P : Tops}
theorem B.neStr {x y : Str} {t u : Tok} {Q : Value → PM → PM → LM → Prop} (q : Q (.bool (x != y)) G C m) : B D F A (compareOp .NotEq (.str x t) (.str y u)) Q G C m :=
  B.val (· = .bool (x != y)) (fun h c Q E tk j => PyProof.Rows.ne_str (j _ _ rfl)) fun _ e => e ▸ q
theorem plainly_len : ∀ t, (plainly t).length ≤ 2 ^ Mine.ht t
  | .var _ => Nat.le_refl _
  | .lit _ => Nat.zero_le _
  | .err => Nat.zero_le _
  | .seq .. => Nat.zero_le _
  | .ap1 .. => Nat.zero_le _
  | .ap2 .. => Nat.zero_le _
  | .add a b => by
    show (plainly a ++ plainly b).length ≤ _
    rw [List.length_append]
    exact s2 (pw (by decide) (plainly_len a) (Nat.le_max_left _ _)) (pw (by decide) (plainly_len b) (Nat.le_max_right _ _))
  | .case v _ _ a o => s1 (pw (by decide) (plainly_len v) m1)
  | .lt _ v b => s1 (pw (by decide) (plainly_len b) (Nat.le_max_right _ _))
theorem plainly_small {t : Tm} (h : Mine.ht t ≤ 6) : (plainly t).length ≤ 64 := Nat.le_trans (plainly_len t) (Nat.pow_le_pow_right (n := 2) (by decide) h)
theorem strs_app : ∀ {vs ws : List Value} {xs ys : List Str}, StrsAre vs xs → StrsAre ws ys → StrsAre (vs ++ ws) (xs ++ ys)
  | _, _, _, _, .nil, h => h
  | _, _, _, _, .cons k t a, h => .cons k t (strs_app a h)
inductive NmsA (G : PM) (v : Value) (xs : List N) : Prop
  | mk : ∀ l, (v = .ref l) → (NamesA G l xs) → NmsA G v xs
theorem plainly_ok : ∀ (d : Nat) {A : Around} {G C : PM} {v : Value} {t : Tm}, Room A (d + 2) → TmA G v t → Src t → Mine.ht t ≤ d → d ≤ 6 → CodeOk D A (.ref 672) [v] G C (fun r G' C' => C' = C ∧ NmsA G' r (plainly t)) := by
  intro d
  induction d using Nat.strongRecOn with
  | ind d ih =>
    intro A G C v t R ht hsrc hh hd
    obtain ⟨av, rfl⟩ := ht.ref
    refine codeOk_def (binds := [(sS "expr", .ref av)]) (look672 _) (by kernel_rfl) (R.le (by exact Nat.le_of_ble_eq_true rfl : 1 ≤ _)).lt (fun s X => BindsTo.of_eq rfl) (locs rfl) ?_ (by decide)
    intro F hG hC env₀ A₀ m₀ Q₀ q₀
    have R1 : Room A₀ (d + 1) := R.deeper
    refine B.cons ?_
    repeat tb_start
    cases t with
    | seq v x o => exact hsrc.elim
    | var x =>
      obtain ⟨a, tx, e, hi⟩ := ht
      obtain rfl := Value.ref.inj e
      walk_at "mine.yes"
      repeat tb_start
      refine B.list ?_
      repeat tb_start
      refine ⟨Nat.le_of_ble_eq_true rfl, fun la Gl gl hla => ?_⟩
      repeat tb_start
      exact ⟨rfl, la, rfl, _, hla, .cons _ _ .nil⟩
    | lit i =>
      obtain ⟨a, tx, ty, e, hi⟩ := ht
      obtain rfl := Value.ref.inj e
      walk_at "mine.no"
      repeat tb_start
      walk_at "mine.no"
      repeat tb_start
      walk_at "mine.no"
      repeat tb_start
      walk_at "mine.no"
      repeat tb_start
      refine B.list ?_
      repeat tb_start
      refine ⟨Nat.le_of_ble_eq_true rfl, fun la Gl gl hla => ?_⟩
      repeat tb_start
      exact ⟨rfl, la, rfl, _, hla, .nil⟩
    | err =>
      obtain ⟨a, t1, l, w, b, t2, t3, e, hi, hl, rfl, hb⟩ := ht
      obtain rfl := Value.ref.inj e
      walk_at "mine.no"
      repeat tb_start
      walk_at "mine.yes"
      repeat tb_start
      refine B.neStr ?_
      rw [show ((sS "error" : Str) != (Str.ofString "error")) = false by decide]
      repeat tb_start
      walk_at "mine.no"
      repeat tb_start
      walk_at "mine.no"
      repeat tb_start
      refine B.list ?_
      repeat tb_start
      refine ⟨Nat.le_of_ble_eq_true rfl, fun la Gl gl hla => ?_⟩
      repeat tb_start
      exact ⟨rfl, la, rfl, _, hla, .nil⟩
    | add p q =>
      have hh' : max (Mine.ht p) (Mine.ht q) + 1 ≤ d := hh
      obtain ⟨a, t1, l, w, w', e, hi, hl, hp, hq⟩ := ht
      obtain rfl := Value.ref.inj e
      walk_at "mine.no"
      repeat tb_start
      walk_at "mine.yes"
      repeat tb_start
      refine B.neStr ?_
      rw [show ((sS "intAdd" : Str) != (Str.ofString "error")) = true by decide]
      repeat tb_start
      refine B.itemL (.inl hl) (by decide) (by decide) rfl ?_
      repeat tb_start
      refine B.callC (ih (d - 1) (by exact ds2 (by assumption)) (R1.le (by exact sub2 (by assumption))) hp hsrc.1 (by exact ms1 (by assumption)) (by exact Nat.le_trans (Nat.sub_le _ _) (by assumption))) (fun r2 G2 g2 p2 => ?_)
      obtain ⟨l2, rfl, vs2, hl2, hs2⟩ := p2
      have hl' := hl.up g2
      have hi' := hi.up g2
      repeat tb_start
      refine B.itemL (.inl hl') (by decide) (by decide) rfl ?_
      repeat tb_start
      refine B.callC (ih (d - 1) (by exact ds2 (by assumption)) (R1.le (by exact sub2 (by assumption))) (hq.up g2) hsrc.2 (by exact ms2 (by assumption)) (by exact Nat.le_trans (Nat.sub_le _ _) (by assumption))) (fun r3 G3 g3 p3 => ?_)
      obtain ⟨l3, rfl, vs3, hl3, hs3⟩ := p3
      have h2 := plainly_small (t := p) (by lia)
      have h3 := plainly_small (t := q) (by lia)
      have e2 := strsAre_len hs2
      have e3 := strsAre_len hs3
      refine B.addLists (.inl (hl2.up g3)) (.inl hl3) (by rw [sizeLine_eq]; lia) (fun la Gl gl hla => ?_)
      repeat tb_start
      exact ⟨rfl, la, rfl, _, hla, strs_app hs2 hs3⟩
    | case e y k p o =>
      have hh' : max (Mine.ht e) (max (Mine.ht p) (Mine.ht o)) + 1 ≤ d := hh
      obtain ⟨a, ve, t, la, al, kt, ln, va, vo, t1, t2, t3, ev, hi, hla, hal, hkt, hln, hve, hva, hvo⟩ := ht
      cases ev
      obtain ⟨ae, rfl⟩ := hve.ref
      walk_at "mine.no"
      repeat tb_start
      walk_at "mine.no"
      repeat tb_start
      walk_at "mine.yes"
      repeat tb_start
      refine B.callC (ih (d - 1) (by exact ds2 (by assumption)) (R1.le (by exact sub2 (by assumption))) hve hsrc.1 (by exact ms1 (by assumption)) (by exact Nat.le_trans (Nat.sub_le _ _) (by assumption))) (fun r2 G2 g2 p2 => ?_)
      repeat tb_start
      exact ⟨rfl, p2⟩
    | lt y e b =>
      have hh' : max (Mine.ht e) (Mine.ht b) + 1 ≤ d := hh
      obtain ⟨a, lb, tp, t, ve, vb, ev, hi, hlb, htp, hve, hvb⟩ := ht
      cases ev
      obtain ⟨ab, rfl⟩ := hvb.ref
      walk_at "mine.no"
      repeat tb_start
      walk_at "mine.no"
      repeat tb_start
      walk_at "mine.no"
      repeat tb_start
      walk_at "mine.yes"
      repeat tb_start
      refine B.callC (ih (d - 1) (by exact ds2 (by assumption)) (R1.le (by exact sub2 (by assumption))) hvb hsrc.2.2.2 (by exact ms2 (by assumption)) (by exact Nat.le_trans (Nat.sub_le _ _) (by assumption))) (fun r2 G2 g2 p2 => ?_)
      repeat tb_start
      exact ⟨rfl, p2⟩
    | ap1 f p =>
      obtain ⟨a, vf, t, l, w, ev, hi, hfv, hl, hp⟩ := ht
      cases ev
      walk_at "mine.no"
      repeat tb_start
      walk_at "mine.no"
      repeat tb_start
      walk_at "mine.no"
      repeat tb_start
      walk_at "mine.no"
      repeat tb_start
      refine B.list ?_
      repeat tb_start
      refine ⟨Nat.le_of_ble_eq_true rfl, fun la Gl gl hla => ?_⟩
      repeat tb_start
      exact ⟨rfl, la, rfl, _, hla, .nil⟩
    | ap2 f p q =>
      obtain ⟨a, vf, t, l, w, w', ev, hi, hfv, hl, hp, hq⟩ := ht
      cases ev
      walk_at "mine.no"
      repeat tb_start
      walk_at "mine.no"
      repeat tb_start
      walk_at "mine.no"
      repeat tb_start
      walk_at "mine.no"
      repeat tb_start
      refine B.list ?_
      repeat tb_start
      refine ⟨Nat.le_of_ble_eq_true rfl, fun la Gl gl hla => ?_⟩
      repeat tb_start
      exact ⟨rfl, la, rfl, _, hla, .nil⟩
end
section
variable {D : Wd} {A : Around} {F : Fn} {G C G' C' : PM} {m : LM} {h : Heap} {env : Env} {pos : Pos} {P : Tops}
theorem CK.fresh {C C' : PM} {a : Addr} {o : Obj} {as : List Addr} (h : CK (Mine.up C a o) C' [a]) (hn : C a = none) : CK C C' as := fun b q e _ => by
  have n : b ≠ a := fun z => by rw [z, hn] at e; cases e
  exact h b q (by rw [up_ne n]; exact e) fun z => n (List.mem_singleton.mp z)
theorem PgL.Good.tw {p : PgL} (gd : p.Good) : TW p.tops := fun f fd e => ⟨(gd.ps f fd e).2.2.2.1, (gd.ps f fd e).1⟩
theorem PgL.Good.pg {p : PgL} (gd : p.Good) : PGood p.tops := fun f fd e => ⟨(gd.ps f fd e).1, (gd.ps f fd e).2.1, (gd.ps f fd e).2.2.1⟩
theorem PgL.names (p : PgL) : PNames p.tops := fun x hx => by
  have h1 := hx.1
  unfold PgL.tops
  rw [if_neg (fun z => by rw [z] at h1; revert h1; decide), if_neg (fun z => by rw [z] at h1; revert h1; decide), if_neg (fun z => by rw [z] at h1; revert h1; decide)]
/-- the tops' dict -/
noncomputable def topK (lf lg lh : Addr) (vm vk : Value) : List (Str × Value) := [(sS "f", .ref lf), (sS "g", .ref lg), (sS "h", .ref lh), (sS "m", vm), (sS "k", vk)]
theorem tops_dict {ta lf lg lh : Addr} {vm vk : Value} {p : PgL} (hd : DcA D G ta (topK lf lg lh vm vk)) (h1 : LamA G lf p.fps p.fb) (h2 : LamA G lg p.gps p.gb) (h3 : LamA G lh p.hps p.hb) : TpsA D G ta p.tops :=
  ⟨_, hd, fun f fd e => by
    unfold PgL.tops at e
    split at e
    · rename_i q; cases e; exact ⟨lf, by rw [q]; rfl, h1⟩
    split at e
    · rename_i q; cases e; exact ⟨lg, by rw [q]; rfl, h2⟩
    split at e
    · rename_i q; cases e; exact ⟨lh, by rw [q]; rfl, h3⟩
    · cases e⟩
/-- dict(binds) -/
theorem pg_pairs {lb : Addr} {p : PgL} (h : PgA G lb p) : Ex6 fun vs lf lg lh vm vk => And8 (LzA G lb vs) (vs.length = 5) (∀ (j : Nat) (v : Value), vs[j]? = some v → Ex4 fun q t kk x => And3 (v = .ref q) (TpA G q [.str kk t, x]) ((topK lf lg lh vm vk)[j]? = some (kk, x))) (LamA G lf p.fps p.fb) (LamA G lg p.gps p.gb) (LamA G lh p.hps p.hb) (TmA G vm p.m) (TmA G vk p.k) := by
  obtain ⟨t1, t2, t3, t4, t5, lf, lg, lh, vm, vk, k1, k2, k3, k4, k5, hl, h1, h2, h3, h4, h5, f1, f2, f3, m1, m2⟩ := h.of
  refine ⟨_, lf, lg, lh, vm, vk, hl, rfl, fun j v hj => ?_, f1, f2, f3, m1, m2⟩
  match j, hj with
  | 0, hj => cases hj; exact ⟨t1, k1, _, _, rfl, h1, rfl⟩
  | 1, hj => cases hj; exact ⟨t2, k2, _, _, rfl, h2, rfl⟩
  | 2, hj => cases hj; exact ⟨t3, k3, _, _, rfl, h3, rfl⟩
  | 3, hj => cases hj; exact ⟨t4, k4, _, _, rfl, h4, rfl⟩
  | 4, hj => cases hj; exact ⟨t5, k5, _, _, rfl, h5, rfl⟩
  | j + 5, hj => simp at hj
theorem topK_nodup {lf lg lh : Addr} {vm vk : Value} : ((topK lf lg lh vm vk).map (·.1)).Nodup := by
  show [sS "f", sS "g", sS "h", sS "m", sS "k"].Nodup
  decide +kernel
/-- a call with an error put in -/
theorem told_ap {f : N} {ps : List N} {b : Tm} {ts : List Tm} {ρ : Rho} {v : Int} {c : Nat} {i : Nat} {p : N} (hP : P f = some ⟨ps, b⟩) (hl : ts.length = ps.length) (h12 : ps.length = 1 ∨ ps.length = 2) (hnd : ps.Nodup) (hat : ts[i]? = some .err) (hp : ps[i]? = some p) (k : Ev P (apT f ts) ρ (some v) c) : Ex2 fun ρ' c' => Ev P b ρ' (some v) c' ∧ ρ' p = .th .err ρ := by
  rcases h12 with h | h
  · match ps, h, ts, hl with
    | [q], _, [t], _ =>
      match i, hat, hp with
      | 0, hat, hp =>
        cases hat; cases hp
        have k : Ev P (.ap1 f .err) ρ (some v) c := k
        replace k := k.valAp1; induction k with
        | ap1 e k => rw [hP] at e; cases e; exact ⟨_, _, k, setR_same⟩
  · match ps, h, ts, hl with
    | [q, q2], _, [t, t2], _ =>
      have k : Ev P (.ap2 f t t2) ρ (some v) c := k
      have ne : q ≠ q2 := by simpa using hnd
      match i, hat, hp with
      | 0, hat, hp =>
        cases hat; cases hp
        replace k := k.valAp2; induction k with
        | ap2 e k => rw [hP] at e; cases e; exact ⟨_, _, k, by rw [setR_ne ne, setR_same]⟩
      | 1, hat, hp =>
        cases hat; cases hp
        replace k := k.valAp2; induction k with
        | ap2 e k => rw [hP] at e; cases e; exact ⟨_, _, k, setR_same⟩
theorem ws_ap {f : N} {ps : List N} {b : Tm} {ts : List Tm} {d : N → Prop} (hP : P f = some ⟨ps, b⟩) (hl : ts.length = ps.length) (h12 : ps.length = 1 ∨ ps.length = 2) (hts : ∀ t ∈ ts, WS P t d) : WS P (apT f ts) d := by
  rcases h12 with h | h
  · match ps, h, ts, hl with
    | [q], _, [t], _ => exact ⟨⟨q, b, hP⟩, hts t (by simp)⟩
  · match ps, h, ts, hl with
    | [q, q2], _, [t, t2], _ => exact ⟨⟨q, q2, b, hP⟩, hts t (by simp), hts t2 (by simp)⟩
/-- one of the three -/
theorem three_facts {ta oa lf lg lh : Addr} {vm vk : Value} {p : PgL} {a b c : Sg} {tkv : List (Str × Value)} {i : Nat} {name : N} (gd : p.Good) (h1 : LamA G lf p.fps p.fb) (h2 : LamA G lg p.gps p.gb) (h3 : LamA G lh p.hps p.hb) (hf : FlagsA G 3 tkv a b c) (s1 : SgP p.tops ⟨p.fps, p.fb⟩ a) (s2 : SgP p.tops ⟨p.gps, p.gb⟩ b) (s3 : SgP p.tops ⟨p.hps, p.hb⟩ c) (hi : [sS "f", sS "g", sS "h"][i]? = some name) :
    Ex5 fun ps bd s l v => And8 (p.tops name = some ⟨ps, bd⟩) (S3 a b c name = some s) (valueAt (topK lf lg lh vm vk) name = some (.ref l)) (LamA G l ps bd) (valueAt tkv name = some v) (FlA G v s) (s.flags.length = ps.length) (ps.length = 1 ∨ ps.length = 2) := by
  obtain ⟨va, vb, vc, e, f1, f2, f3⟩ := hf
  have e : tkv = tri va vb vc := e
  subst e
  match i, hi with
  | 0, hi => cases hi; exact ⟨_, _, a, lf, va, rfl, rfl, rfl, h1, rfl, f1 (by decide), s1.l, gd.f1⟩
  | 1, hi => cases hi; exact ⟨_, _, b, lg, vb, rfl, rfl, rfl, h2, rfl, f2 (by decide), s2.l, .inr gd.g2⟩
  | 2, hi => cases hi; exact ⟨_, _, c, lh, vc, rfl, rfl, rfl, h3, rfl, f3 (by decide), s3.l, .inr gd.h2⟩
  | i + 3, hi => simp at hi
theorem B.same {α : Type} {t : Sem α} {v : α} {Q : α → PM → PM → LM → Prop} (x : B D F A t (fun w G' C' m' => w = v ∧ G' = G ∧ C' = C ∧ m' = m) G C m) (k : Q v G C m) : B D F A t Q G C m := B.mono x fun w G' C' m' ⟨e1, e2, e3, e4⟩ => by
  rw [e1, e2, e3, e4]; exact k
inductive KInv (src : Addr) (C : PM) (C' : PM) : Prop
  | mk : (CK C C' [src]) → ∀ o, (C' src = some o) → (SrcO o) → KInv src C C'
theorem told_ok {src lb oa : Addr} {p : PgL} {a b c : Sg} {tkv : List (Str × Value)} (R : Room A 140) (hs : ∃ o, C src = some o ∧ SrcO o) (hp : PgA G lb p) (gd : p.Good) (ho : DcA D G oa tkv) (hfl : FlagsA G 3 tkv a b c) (s1 : SgP p.tops ⟨p.fps, p.fb⟩ a) (s2 : SgP p.tops ⟨p.gps, p.gb⟩ b) (s3 : SgP p.tops ⟨p.hps, p.hb⟩ c) (hcons : Cons p.tops (S3 a b c)) :
    CodeOk D A (.ref 677) [.ref src, .ref lb, .ref oa] G C (fun r G' C' => r = .bool true ∧ KInv src C C') := by
  refine codeOk_cellsB (binds := [(sS "source", .ref src), (sS "binds", .ref lb), (sS "told", .ref oa)]) (look677 _) (by kernel_rfl) (R.le (by exact Nat.le_of_ble_eq_true rfl : 1 ≤ _)).lt rfl (by kernel_rfl) ?_
  intro F hG hC G₁ C₁ cs₀ env₀ A₀ m₀ cl Q₀ q₀
  have k1 := cl.pA (sS "source") rfl rfl
  have g0 := cl.g
  have ck0 := cl.ck (as := [src])
  obtain ⟨so, hso, hso2⟩ := hs
  have hso1 := cl.c _ _ hso
  obtain ⟨vs, lf, lg, lh, vm, vk, hlb, hvl, hpairs, l1, l2, l3, _, _⟩ := pg_pairs (hp.up g0)
  have R1 : Room A₀ 139 := R.deeper
  have ho1 := ho.up g0
  have hfl1 : FlagsA G₁ 3 tkv a b c := hfl.up g0
  clear hp ho hfl
  refine B.cons ?_
  repeat tb_start
  refine B.dictPairs (pairs := topK lf lg lh vm vk) R1.h (.inl hlb) (by rw [hvl]; rfl) (by rw [hvl]; exact Nat.le_of_ble_eq_true rfl) hpairs topK_nodup (fun ta ob hgt hct hft hzt hob => ?_)
  repeat tb_start
  refine B.freeze2 up_self hft (fun G2 g2 h2 => ?_)
  rw [rm_up1 hct]
  have htd : DcA D G2 ta (topK lf lg lh vm vk) := ⟨hzt, ob, h2, hob⟩
  have htops : TpsA D G2 ta p.tops := tops_dict htd (l1.up g2) (l2.up g2) (l3.up g2)
  repeat tb_start
  refine B.for ?x1
  refine B.list ?_
  repeat tb_start
  refine ⟨Nat.le_of_ble_eq_true rfl, fun ln G3 g3 hln => ?_⟩
  refine ⟨3, _, fun j G' C' m' => And3 (KInv src C C') (m' (sS "tops") = some (.ref ta)) (m' (sS "told") = some (.ref oa)), iter_list R1.h hln, ⟨⟨ck0, so, hso1, hso2⟩, rfl, rfl⟩, ?_, ?_⟩
  · intro j v Gj Cj mj Fjh hj hgj inv hP Fj
    refine B.opq fun Q₁ q₁ => ?_
    obtain ⟨ki, m1, m2⟩ := inv
    obtain ⟨name, tn, hname, rfl⟩ : Ex2 fun name tn => [sS "f", sS "g", sS "h"][j]? = some name ∧ v = .str name tn := by
      match j, hj, hP with
      | 0, _, hP => cases hP; exact ⟨_, _, rfl, rfl⟩
      | 1, _, hP => cases hP; exact ⟨_, _, rfl, rfl⟩
      | 2, _, hP => cases hP; exact ⟨_, _, rfl, rfl⟩
    obtain ⟨ps, bd, s, l, v, e1, e2, e3, hlam, e4, ⟨lv, rfl, hlv⟩, e5, e6⟩ := three_facts (ta := ta) (oa := oa) (vm := vm) (vk := vk) gd l1 l2 l3 hfl1 s1 s2 s3 hname
    obtain ⟨lp, vb, hil, ⟨pvs, hpv, hst⟩, hvb⟩ := hlam
    obtain ⟨ab, rfl⟩ := hvb.ref
    have hgood := gd.ps _ _ e1
    have hpl : pvs.length = ps.length := strsAre_len hst
    have gj : GLe G₁ Gj := (g2.trans g3).trans hgj
    have htd2 := (htd.up g3).up hgj
    have hil2 := hil.up gj
    have ho2 := ho1.up gj
    have hlv2 := hlv.up gj
    have hpv2 := hpv.up gj
    have hfl : (s.flags.map Value.bool).length = pvs.length := by rw [List.length_map, e5, hpl]
    repeat tb_start
    refine B.itemD (.inl htd2) e3 ?_
    repeat tb_start
    refine B.itemD (.inl ho2) e4 ?_
    repeat tb_start
    refine B.lenL (.inl hlv2) (by lia) (fun _ => ?_)
    repeat tb_start
    refine B.lenL (.inl hpv2) (by lia) (fun _ => ?_)
    repeat tb_start
    refine B.sFh (by rw [hfl]; simp) ?_
    repeat tb_start
    refine B.itemD (.inl htd2) e3 ?_
    repeat tb_start
    refine B.callC (plainly_ok 6 (R1.le (by exact Nat.le_of_ble_eq_true rfl)) (hvb.up gj) hgood.2.2.1 hgood.2.2.2.2 (by exact Nat.le_of_ble_eq_true rfl)) (fun r4 G4 g4 p4 => ?_)
    obtain ⟨lpl, rfl, plv, hplv, hplS⟩ := p4
    have hpv4 := hpv2.up g4
    repeat tb_start
    refine B.for ?x2
    repeat tb_start
    refine B.lenL (.inl hpv4) (by lia) (fun _ => ?_)
    repeat tb_start
    refine B.range (fun ra Gr gr hra => ?_)
    refine ⟨pvs.length, _, fun i G' C' m' => And6 (KInv src C C') (m' (sS "tops") = some (.ref ta)) (m' (sS "told") = some (.ref oa)) (m' (sS "name") = some (.str name tn)) (m' (sS "params") = some (.ref lp)) (m' (sS "plain") = some (.ref lpl)), iter_range R1.h (by lia) hra, ⟨ki, by walk_at "mine.nm", by walk_at "mine.nm", by walk_at "mine.nm", by walk_at "mine.nm", by walk_at "mine.nm"⟩, ?_, ?_⟩
    · intro i v Gi Ci mi Fih hi hgi inv hP Fi
      refine B.opq fun Q₁ q₁ => ?_
      obtain ⟨ki, n1, n2, n3, n4, n5⟩ := inv
      obtain ⟨ti, rfl⟩ := hP
      have gi : GLe Gj Gi := (g4.trans gr).trans hgi
      have hpv5 := hpv2.up gi
      have hplv5 := hplv.up (gr.trans hgi)
      have ho5 := ho2.up gi
      have hlv5 := hlv2.up gi
      have htd5 := htd2.up gi
      have hip : i < pvs.length := hi
      obtain ⟨pn, tp, hpn, hpe⟩ := strs_get hst (List.getElem?_eq_getElem hip)
      have hif : i < s.flags.length := by lia
      have hfi : (s.flags.map Value.bool)[((i : Nat) : Int).toNat]? = some (.bool s.flags[i]) := by rw [Int.toNat_natCast, List.getElem?_map, List.getElem?_eq_getElem hif]; rfl
      tb_start
      tb_start
      tb_start
      refine B.cons (B.iff (B.same (v := false) ?tst ?rest))
      case tst =>
        repeat tb_start
        refine B.itemL (.inl hpv5) (by exact Int.natCast_nonneg _) (by lia) (by rw [Int.toNat_natCast]; exact List.getElem?_eq_getElem hip) ?_
        rw [hpe]
        repeat tb_start
        refine B.inStrs (.inl hplv5) hplS ?_
        tb_start
        cases hin : decide (pn ∈ plainly bd)
        · repeat tb_start
          exact ⟨rfl, rfl, rfl, rfl⟩
        · have hft := plainly_flag hcons gd.pg e1 e2 hpn (of_decide_eq_true hin)
          rw [List.getElem?_eq_getElem hif] at hft
          have hft := Option.some.inj hft
          repeat tb_start
          refine B.itemD (.inl ho5) e4 ?_
          repeat tb_start
          refine B.itemL (.inl hlv5) (by exact Int.natCast_nonneg _) (by lia) hfi ?_
          rw [hft]
          repeat tb_start
          exact ⟨rfl, rfl, rfl, rfl⟩
      repeat tb_start
      refine B.asgListCompC (cl := ?cl1) ?y1 ?h11 ?h12 rfl ?h14 rfl rfl rfl rfl ?h15
      case h11 => exact rfl
      case h12 => decide
      case h14 => decide
      case h15 => exact fun _ => rfl
      repeat tb_start
      refine ⟨pvs.length, _, fun k ys G' C' => KInv src C C' ∧ ∃ ts, And3 (PySem.Paired (TmA G') ys ts) (ts.length = k) (∀ t ∈ ts, ∃ q, t = .lit q), iter_list R1.h hpv5, by rw [sizeLine_eq]; lia, ⟨ki, [], .nil, rfl, by simp⟩, ?_, ?_⟩
      · intro k x ys Gk Ck mk Fk hk hFG hFC hgk inv hPk
        refine B.opq fun Q₁ q₁ => ?_
        obtain ⟨⟨ckk, ok, hok, hok2⟩, ts, hpt, htl, hts⟩ := inv
        have k1k := (k1.up gj).up (gi.trans hgk)
        repeat tb_start
        refine B.callS (take_ok (R1.le (by exact Nat.le_of_ble_eq_true rfl)) hok hok2 (by decide) (by decide)) (fun r6 C6 p6 => ?_)
        obtain ⟨q, tq, o6, rfl, _, _, ho6, hc6, ck6⟩ := p6
        repeat tb_start
        refine B.callX (mk_Lit (R1.le (by exact Nat.le_of_ble_eq_true rfl)) _ _) (fun x7 G7 g7 hx7 => ?_)
        refine ⟨⟨ckk.trans ck6, o6, hc6, ho6⟩, ts ++ [.lit q], (Paired.imp (fun _ _ h => TmA.up g7 h) hpt).snoc (show TmA G7 (.ref x7) (.lit q) from ⟨x7, _, _, rfl, hx7⟩), by rw [List.length_append, htl]; rfl, fun t ht => ?_⟩
        rcases List.mem_append.mp ht with ht | ht
        · exact hts t ht
        · exact ⟨q, by simpa using ht⟩
      · intro ys Gk Ck la oa' hgk inv hga hca hfa hpa
        obtain ⟨⟨ckk, ok, hok, hok2⟩, ts, hpt, htl, hts⟩ := inv
        have hyl : ys.length = pvs.length := by rw [hpt.length, htl]
        repeat tb_start
        refine B.list ?_
        repeat tb_start
        refine B.callX (mk_Lit (R1.le (by exact Nat.le_of_ble_eq_true rfl)) _ _) (fun x7 G7 g7 hx7 => ?_)
        repeat tb_start
        refine ⟨Nat.le_of_ble_eq_true rfl, fun le Ge ge hle => ?_⟩
        repeat tb_start
        refine B.callX (mk_Prim (R1.le (by exact Nat.le_of_ble_eq_true rfl)) _ _) (fun x8 G8 g8 hx8 => ?_)
        repeat tb_start
        refine B.setL up_self hpa.ls (by exact Int.natCast_nonneg _) (by lia) (by lia) (fun o10 ho10 => ?_)
        rw [Int.toNat_natCast] at ho10
        refine Then.next ?_
        refine B.freeze2 up_self hfa (fun G9 g9 h9 => ?_)
        rw [up_up, rm_up1 hca]
        have ge9 : GLe Gk G9 := ((g7.trans ge).trans g8).trans g9
        have herr : TmA G9 (.ref x8) .err := ⟨x8, _, le, .ref x7, x7, _, _, rfl, hx8.up g9, (hle.up g8).up g9, rfl, ((hx7.up ge).up g8).up g9⟩
        have hla : LsA G9 la (ys.set i (.ref x8)) := ⟨o10, h9, ho10⟩
        have hpt9 := paired_set (i := i) (Paired.imp (fun _ _ h => TmA.up ge9 h) hpt) herr
        have g59 : GLe Gi G9 := hgk.trans ge9
        have ho9 := ho5.up g59
        have hlv9 := hlv5.up g59
        have hat : (ts.set i .err)[i]? = some .err := by rw [List.getElem?_set_self (by lia)]
        have htl9 : (ts.set i .err).length = ps.length := by rw [List.length_set, htl, hpl]
        have htops9 : TpsA D G9 ta p.tops := (((htops.up g3).up hgj).up gi).up g59
        have ki9 : KInv src C Ck := ⟨ckk, ok, hok, hok2⟩
        repeat tb_start
        refine B.itemD (.inl ho9) e4 ?_
        repeat tb_start
        refine B.itemL (.inl hlv9) (by exact Int.natCast_nonneg _) (by lia) hfi ?_
        repeat tb_start
        cases hflag : s.flags[i]
        · repeat tb_start
          exact ⟨ki9, by walk_at "mine.nm", by walk_at "mine.nm", by walk_at "mine.nm", by walk_at "mine.nm", by walk_at "mine.nm"⟩
        · repeat tb_start
          refine B.callX (mk_Var (R1.le (by exact Nat.le_of_ble_eq_true rfl)) _) (fun xv G10 g10 hxv => ?_)
          repeat tb_start
          refine B.callX (mk_App (R1.le (by exact Nat.le_of_ble_eq_true rfl)) _ _) (fun xa G11 g11 hxa => ?_)
          repeat tb_start
          refine B.dictG (fun de G12 g12 hde => ?_)
          repeat tb_start
          refine B.listC ?_
          repeat tb_start
          refine ⟨Nat.le_of_ble_eq_true rfl, fun fl of hgf hcf hff hpf => ?_⟩
          repeat tb_start
          have g912 : GLe G9 G12 := (g10.trans g11).trans g12
          have htm : TmA G12 (.ref xa) (apT name (ts.set i .err)) := apT_is (hxa.up g12) ((hxv.up g11).up g12) (hla.up g912) (Paired.imp (fun _ _ h => TmA.up g912 h) hpt9) (by rw [htl9]; exact e6)
          have hws : WS p.tops (apT name (ts.set i .err)) (fun x => (valueAt ([] : List (Str × Value)) x).isSome = true) := ws_ap e1 htl9 e6 fun t ht => by
            rcases List.mem_or_eq_of_mem_set ht with ht | rfl
            · obtain ⟨q, rfl⟩ := hts t ht; trivial
            · trivial
          refine B.callOk (value_okk gd.tw 90 (by exact Nat.le_of_ble_eq_true rfl) (R1.le (by exact Nat.le_of_ble_eq_true rfl)) htm (ρ := rho0) ⟨hde, by decide, fun x w k => by cases k⟩ hws (htops9.up g912) up_self hpf.ls).call (fun r13 G13 C13 g13 p13 => ?_)
          obtain ⟨ck13, x, f', hx, hout, _⟩ := p13
          have ckf : CK Ck C13 [src] := CK.fresh ck13 hcf
          have nsf : src ≠ fl := fun z => by rw [← z, hok] at hcf; cases hcf
          have hs13 : C13 src = some ok := ck13 _ _ (by rw [up_ne nsf]; exact hok) fun z => nsf (List.mem_singleton.mp z)
          rcases valA_cases hx with ⟨q, ui, rfl, rfl⟩ | ⟨hne, st, us, rfl⟩
          · exfalso
            obtain ⟨c', hev, _⟩ := hout
            obtain ⟨ρ', c'', k, hk⟩ := told_ap e1 htl9 e6 hgood.1 hat hpn hev
            exact told_no hcons gd.pg p.names e1 e2 hpn (by rw [List.getElem?_eq_getElem hif, hflag]) hk k
          · repeat tb_start
            refine B.isiStr (T := "str") (b := true) (by kernel_rfl) ?_
            repeat tb_start
            exact ⟨⟨ckk.trans ckf, ok, hs13, hok2⟩, by walk_at "mine.nm", by walk_at "mine.nm", by walk_at "mine.nm", by walk_at "mine.nm", by walk_at "mine.nm"⟩
    · intro Gi Ci mi hgi inv
      obtain ⟨ki, n1, n2, n3, n4, n5⟩ := inv
      repeat tb_start
      exact ⟨ki, n1, n2⟩
  · intro Gj Cj mj hgj inv
    obtain ⟨ki, m1, m2⟩ := inv
    repeat tb_start
    exact ⟨rfl, ki⟩
end
/-! the law's last part, in plain words -/
theorem PR_of {S : Sgs} {p p' : PgL} (h : FoP S p p') : PR S p.tops p'.tops where
  to f fd e := by
    unfold PgL.tops at e ⊢
    by_cases h1 : f = sS "f"
    · rw [if_pos h1] at e ⊢; cases e; exact ⟨_, by rw [h.fp], h.f⟩
    rw [if_neg h1] at e ⊢
    by_cases h2 : f = sS "g"
    · rw [if_pos h2] at e ⊢; cases e; exact ⟨_, by rw [h.gp], h.g⟩
    rw [if_neg h2] at e ⊢
    by_cases h3 : f = sS "h"
    · rw [if_pos h3] at e ⊢; cases e; exact ⟨_, by rw [h.hp], h.h⟩
    rw [if_neg h3] at e; cases e
  back f fd e := by
    unfold PgL.tops at e ⊢
    by_cases h1 : f = sS "f"
    · rw [if_pos h1] at e ⊢; cases e; exact ⟨_, by rw [h.fp], h.f⟩
    rw [if_neg h1] at e ⊢
    by_cases h2 : f = sS "g"
    · rw [if_pos h2] at e ⊢; cases e; exact ⟨_, by rw [h.gp], h.g⟩
    rw [if_neg h2] at e ⊢
    by_cases h3 : f = sS "h"
    · rw [if_pos h3] at e ⊢; cases e; exact ⟨_, by rw [h.hp], h.h⟩
    rw [if_neg h3] at e; cases e
theorem tw_forced {S : Sgs} {p p' : PgL} (gd : p.Good) (hR : PR S p.tops p'.tops) : TW p'.tops := fun f fd e => by
  obtain ⟨b, hb, fo⟩ := hR.back f fd e
  have := gd.ps f _ hb
  exact ⟨Fo.ws hR fo this.2.2.2.1, this.1⟩
theorem agree {P P' : Tops} {S : Sgs} (hC : Cons P S) (hG : PGood P) (hN : PNames P) (hR : PR S P P') {t t' : Tm} (hs : Src t) (hf : Fo S t t') {x y : Option (Option Int)} {f1 f2 : Int} (h1 : Outc P t rho0 120 x f1) (h2 : Outc P' t' rho0 400 y f2) : (∀ i, x = some (some i) → y = some (some i)) ∧ (x = some none → ∀ i, y ≠ some (some i)) := by
  refine ⟨fun i e => ?_, fun e i e' => ?_⟩
  · subst e
    obtain ⟨c, ev, hc, _⟩ := h1
    obtain ⟨T', ev', hT⟩ := forth hC hG hN hR c t rho0 i t' rho0 hs ev hf ER.nil
    match y, h2 with
    | some (some j), ⟨c', k, _, _⟩ => obtain ⟨z, _⟩ := ev'.det k; cases z; rfl
    | some none, ⟨c', k, _⟩ => obtain ⟨z, _⟩ := ev'.det k; cases z
    | none, h2 => have := h2 _ _ ev'; lia
  · subst e e'
    obtain ⟨c, ev, _⟩ := h1
    obtain ⟨c', ev', _⟩ := h2
    obtain ⟨T, k⟩ := back hG hR ev' rfl hs hf BR.nil
    obtain ⟨z, _⟩ := ev.det k
    cases z
theorem five_sorted {ss : List Str} (hp : ss.Perm [sS "f", sS "g", sS "h", sS "m", sS "k"]) (hs : sortedS ss = true) : ss = [sS "f", sS "g", sS "h", sS "k", sS "m"] := by
  have h2 : sortedS [sS "f", sS "g", sS "h", sS "k", sS "m"] = true := by decide +kernel
  refine sorted_uniq (hp.trans ?_) (sorted_pw hs) (sorted_pw h2)
  exact ((List.Perm.swap (sS "k") (sS "m") []).cons (sS "h")).cons (sS "g") |>.cons (sS "f")
section
variable {D : Wd} {A : Around} {F : Fn} {G C G' C' : PM} {m : LM} {h : Heap} {env : Env} {pos : Pos} {P : Tops}
theorem B.dict1C {k v : PySem.Expr} {Q : Value → PM → PM → LM → Prop}
    (x : ∀ a o, G a = none → C a = none → F.C a = none → (a == sysModules) = false → B D F A (eval k env) (fun kv => B D F A (eval v env) fun vv G' C' m' => Ex2 fun ks t => And3 (kv = .str ks t) (C' a = some o) (∀ o', o'.IsDictOf (PySem.strKind Pw D.w) [(ks, vv)] → Q (.ref a) G' (up C' a o') m')) G (up C a o) m) :
    B D F A (eval (.Dict [some k] [v] pos) env) Q G C m := fun hh c tk => by
  have ha := get_size hh
  have hk : ∀ x o, hh.get? x = some o → (hh.push { cls := .type "dict", data := .dict #[] }).get? x = some o := fun x o e => Heap.get?_push_of_some _ e
  have c1 := c.after (c.ok.newC ha (Heap.get?_push_size _ rfl) hk) (.newC ha hk)
  have he : Obj.IsDictOf (PySem.strKind Pw D.w) { cls := .type "dict", data := .dict #[] } [] := ⟨#[], 0, ⟨rfl, rfl, rfl⟩, rfl, fun _ he => by simp at he, .nil, .nil⟩
  refine wpAny_Dict_walk (knd := PySem.strKind Pw D.w) rfl rfl (by simp) (Nat.le_of_ble_eq_true rfl) ?_
  refine evalPairs_cons ?_
  refine wpAny_mono (x _ _ (c.ok.fresh_g ha) (c.ok.fresh_c ha) (c.own ha) (notMod c) _ c1 tk) (fun kv s1 q1 => ?_) fun _ _ z => z
  obtain ⟨h1, tk1, rfl, G1, C1, m1, c1', q1⟩ := q1
  refine wpAny_bind (wpAny_mono (q1 h1 c1' tk1) (fun vv s2 q2 => ?_) fun _ _ z => z)
  obtain ⟨h2, tk2, rfl, G2, C2, m2, c2, ks, t, rfl, hC, q⟩ := q2
  refine wpAny_bind (wpAny_standAt (wpAny_pure (wpAny_pure ?_)))
  refine ⟨[(ks, vv)], ⟨strKind_is Pw D.w ks t, rfl, trivial⟩, Heap.dictOf_iff.mpr ⟨_, c2.ok.c _ _ hC, he⟩, fun h' hd hs => ?_⟩
  obtain ⟨o', ho', hd⟩ := Heap.dictOf_iff.mp hd
  have c3 := c2.after (c2.ok.upd hC (fun x q n e => (hs.2 x n).trans e) ho') (.upd hC fun x q n e => (hs.2 x n).trans e)
  exact ⟨h', _, rfl, _, _, m2, c3, q _ hd⟩
theorem B.eqIntStr {a : Int} {b : Str} {t u : Tok} {Q : Value → PM → PM → LM → Prop} (q : Q (.bool false) G C m) : B D F A (compareOp .Eq (.int a t) (.str b u)) Q G C m :=
  B.val (· = .bool false) (fun h c Q E tk j => PySem.EqMixed.eq_int_str (j _ _ rfl)) fun _ e => e ▸ q
end
section
variable {D : Wd} {A : Around} {F : Fn} {G C G' C' : PM} {m : LM} {h : Heap} {env : Env} {pos : Pos} {P : Tops}
theorem law_ok {l : Addr} {vs : List Value} {ns : List Int} (R : Room A 450) (hl : LsA G l vs) (hi : IntsAre vs ns) (hz : vs.length < 2 ^ 62) : CodeOk D A (.ref 684) [.ref l] G C (fun r _ _ => r = .bool true) := by
  refine codeOk_def (binds := [(sS "script", .ref l)]) (look684 _) (by kernel_rfl) (R.le (by exact Nat.le_of_ble_eq_true rfl : 1 ≤ _)).lt (fun s X => BindsTo.of_eq rfl) (locs rfl) ?_ (by decide)
  intro F hG hC env₀ A₀ m₀ Q₀ q₀
  have R1 : Room A₀ 449 := R.deeper
  refine B.cons ?_
  refine B.asgTupleW (names := [sS "source", sS "box"]) R1.h ?_ rfl rfl
  refine B.tuple ?_
  repeat tb_start
  refine B.callOk (pool_ok (R1.le (by exact Nat.le_of_ble_eq_true rfl)) hl hi hz).call (fun r1 G1 C1 g1 p1 => ?_)
  obtain ⟨src, so, rfl, rfl, hgs, hcs, rfl, hso⟩ := p1
  repeat tb_start
  refine B.dict1C (fun bx bo hgb hcb hfb hzb => ?_)
  repeat tb_start
  refine ⟨_, _, rfl, up_self, fun bo' hbo => ?_⟩
  rw [up_up]
  obtain ⟨nbs, hcb'⟩ := up_none hcb
  repeat tb_start
  refine ⟨Nat.le_of_ble_eq_true rfl, fun ta Gt gt htt => ?_⟩
  refine ⟨ta, _, rfl, htt, rfl, ?_⟩
  have hgs0 : GS D (Mine.up (Mine.up C src so) bx bo') src bx 0 := ⟨⟨so, by rw [up_ne (Ne.symm nbs), up_self], hso⟩, ⟨bo', up_self, _, hbo⟩, hzb, Ne.symm nbs⟩
  generalize Mine.up (Mine.up C src so) bx bo' = C2 at hgs0
  refine B.inOrder ?_
  repeat tb_start
  refine B.inOrder ?_
  repeat tb_start
  refine B.inOrder0 ?_
  repeat tb_start
  refine B.callOk (program_ok (R1.le (by exact Nat.le_of_ble_eq_true rfl)) hgs0).call (fun r3 G3 C3 g3 p3 => ?_)
  obtain ⟨lb, p, n', rfl, hpa, gd, hgs3, ck3⟩ := p3
  repeat tb_start
  refine B.dictG (fun dc G4 g4 hdc => ?_)
  repeat tb_start
  refine B.callX (mk_CoreProgram (R1.le (by exact Nat.le_of_ble_eq_true rfl)) _ _ _) (fun pa G5 g5 hi5 => ?_)
  have hpa5 : PgA G5 lb p := PgA.up (g4.trans g5) hpa
  repeat tb_start
  refine B.callC (strict_ok (R1.le (by exact Nat.le_of_ble_eq_true rfl)) hi5 hpa5 gd) (fun r6 G6 g6 p6 => ?_)
  obtain ⟨oa, a, b, c, tkv, rfl, hoa, hfl, s1, s2, s3, hcons⟩ := p6
  repeat tb_start
  refine B.callOk (told_ok (R1.le (by exact Nat.le_of_ble_eq_true rfl)) hgs3.s (PgA.up g6 hpa5) gd hoa hfl s1 s2 s3 hcons).call (fun r7 G7 C7 g7 p7 => ?_)
  obtain ⟨rfl, ki⟩ := p7
  repeat tb_start
  refine B.sFh rfl ?_
  repeat tb_start
  refine B.list ?_
  repeat tb_start
  refine ⟨Nat.le_of_ble_eq_true rfl, fun lf Gf gf hlf => ?_⟩
  repeat tb_start
  refine B.callOk (mk_Fresh (ns := [sS "f", sS "g", sS "h", sS "m", sS "k"]) (R1.le (by exact Nat.le_of_ble_eq_true rfl)) hlf (.cons _ _ (.cons _ _ (.cons _ _ (.cons _ _ (.cons _ _ .nil))))) (by intro x hx; simp at hx; rcases hx with rfl | rfl | rfl | rfl | rfl <;> (unfold NmA; decide)) (by decide)).call (fun r8 G8 C8 g8 p8 => ?_)
  obtain ⟨fr, dn, rfl, hfr, hdn, hck8⟩ := p8
  have g58 : GLe G5 G8 := ((g6.trans g7).trans gf).trans g8
  have hi8 := hi5.up g58
  have hpa8 : PgA G8 lb p := PgA.up g58 hpa5
  repeat tb_start
  refine B.callOk (forced_ok (R1.le (by exact Nat.le_of_ble_eq_true rfl)) hi8 hpa8 gd hfr rfl).call (fun r9 G9 C9 g9 p9 => ?_)
  obtain ⟨x9, lb', p', a', b', c', rfl, hi9, hpa9, hfo, hcons', ck9⟩ := p9
  have hpaO : PgA G9 lb p := PgA.up g9 hpa8
  have hR := PR_of hfo
  have htw := tw_forced gd hR
  clear hfl hoa hcons s1 s2 s3 hi5 hpa5 hpa hi8 hpa8 hfr ck9 ck3 hgs3 hgs0
  obtain ⟨vs', lf', lg', lh', vm', vk', hlz, hvl, hpairs, q1, q2, q3, q4, q5⟩ := pg_pairs hpa9
  repeat tb_start
  refine B.dictPairs (pairs := topK lf' lg' lh' vm' vk') R1.h (.inl hlz) (by rw [hvl]; rfl) (by rw [hvl]; exact Nat.le_of_ble_eq_true rfl) hpairs topK_nodup (fun la ob hgt hct hft hzt hob => ?_)
  repeat tb_start
  refine B.freeze2 up_self hft (fun G10 g10 h10 => ?_)
  rw [rm_up1 hct]
  have hld : DcA D G10 la (topK lf' lg' lh' vm' vk') := ⟨hzt, ob, h10, hob⟩
  have hlt : TpsA D G10 la p'.tops := tops_dict hld (q1.up g10) (q2.up g10) (q3.up g10)
  have q4 := q4.up g10
  have q5 := q5.up g10
  have hpaO := PgA.up g10 hpaO
  repeat tb_start
  refine B.sortedD R1.h hld (by simp [topK]) (fun sa G11 svs ss g11 hsa hss hperm hsort => ?_)
  have hss5 := five_sorted hperm hsort
  subst hss5
  repeat tb_start
  refine B.list ?_
  repeat tb_start
  refine ⟨Nat.le_of_ble_eq_true rfl, fun l5 G12 g12 hl5 => ?_⟩
  have hst5 : ∀ x ∈ [sS "f", sS "g", sS "h", sS "k", sS "m"], PyData.strOk x = true := by decide +kernel
  refine B.neData (RdG.list (hsa.up g12) (rd_strs hss)) (RdG.list hl5 (rd_strs (ss := [sS "f", sS "g", sS "h", sS "k", sS "m"]) (.cons _ _ (.cons _ _ (.cons _ _ (.cons _ _ (.cons _ _ .nil))))))) (shaped_strs hst5) (shaped_strs hst5) (Nat.lt_of_le_of_lt (Nat.le_trans (by exact le1 rfl) R1.u) (by decide : 9800 < cLine)) ?_
  repeat tb_start
  refine B.sFh (by rw [show PyData.eqv (.list ([sS "f", sS "g", sS "h", sS "k", sS "m"].map .str)) (.list ([sS "f", sS "g", sS "h", sS "k", sS "m"].map .str)) = true from (by show PyData.eqvAll _ _ = true; rw [eqv_strs]; simp)]; rfl) ?_
  repeat tb_start
  refine B.for ?x1
  refine B.list ?_
  repeat tb_start
  refine ⟨Nat.le_of_ble_eq_true rfl, fun l2 G13 g13 hl2 => ?_⟩
  have g1013 : GLe G10 G13 := (g11.trans g12).trans g13
  refine ⟨2, _, fun i G' C' m' => m' (sS "binds") = some (.ref lb) ∧ m' (sS "later") = some (.ref la), iter_list R1.h hl2, ⟨by walk_at "mine.nm", by walk_at "mine.nm"⟩, ?_, ?_⟩
  · intro i v Gi Ci mi Fih hi' hgi inv hP Fi
    refine B.opq fun Q₁ q₁ => ?_
    obtain ⟨n1, n2⟩ := inv
    have gi : GLe G10 Gi := g1013.trans hgi
    obtain ⟨ovs, lf, lg, lh, vm, vk, hoz, hovl, hop, o1, o2, o3, o4, o5⟩ := pg_pairs (PgA.up gi hpaO)
    obtain ⟨name, tn, w, w', t, t', rfl, e1, e2, htm, htm', hsrc, hws, hft⟩ : Ex6 fun name tn w w' t t' => And8 (v = .str name tn) (valueAt (topK lf lg lh vm vk) name = some w) (valueAt (topK lf' lg' lh' vm' vk') name = some w') (TmA Gi w t) (TmA Gi w' t') (Src t) (WS p.tops t (fun _ => False)) (Fo (S3 a' b' c') t t') := by
      match i, hi', hP with
      | 0, _, hP => cases hP; exact ⟨sS "m", _, vm, vm', p.m, p'.m, rfl, rfl, rfl, o4, q4.up gi, gd.m.1, gd.m.2.1, hfo.m⟩
      | 1, _, hP => cases hP; exact ⟨sS "k", _, vk, vk', p.k, p'.k, rfl, rfl, rfl, o5, q5.up gi, gd.k.1, gd.k.2.1, hfo.k⟩
    have hld2 := hld.up gi
    have hlt2 := hlt.up gi
    repeat tb_start
    refine B.dictPairs (pairs := topK lf lg lh vm vk) R1.h (.inl hoz) (by rw [hovl]; rfl) (by rw [hovl]; exact Nat.le_of_ble_eq_true rfl) hop topK_nodup (fun d1 ob1 hg1 hc1 hf1 hz1 hob1 => ?_)
    repeat tb_start
    refine B.itemD (.inr ⟨hz1, ob1, up_self, hob1⟩) e1 ?_
    repeat tb_start
    refine B.dictG (fun de Gd gdd hde => ?_)
    repeat tb_start
    refine B.dictPairs (pairs := topK lf lg lh vm vk) R1.h (.inl (hoz.up gdd)) (by rw [hovl]; rfl) (by rw [hovl]; exact Nat.le_of_ble_eq_true rfl) (fun j v hj => let ⟨q, t, kk, x, e, h1, h2⟩ := hop j v hj; ⟨q, t, kk, x, e, h1.up gdd, h2⟩) topK_nodup (fun d2 ob2 hg2 hc2 hf2 hz2 hob2 => ?_)
    refine B.freeze2 up_self hf2 (fun Ge gee he => ?_)
    have hde2 : DcA D Ge d2 (topK lf lg lh vm vk) := ⟨hz2, ob2, he, hob2⟩
    have gie : GLe Gi Ge := gdd.trans gee
    have hto : TpsA D Ge d2 p.tops := tops_dict hde2 (o1.up gie) (o2.up gie) (o3.up gie)
    repeat tb_start
    refine B.listC ?_
    repeat tb_start
    refine ⟨Nat.le_of_ble_eq_true rfl, fun fl of hgf hcf hff hpf => ?_⟩
    repeat tb_start
    refine B.callOk (value_okk gd.tw 120 (by exact Nat.le_of_ble_eq_true rfl) (R1.le (by exact Nat.le_of_ble_eq_true rfl)) (htm.up gie) (ρ := rho0) ⟨hde.up gee, by decide, fun x w k => by cases k⟩ (hws.mono fun _ h => h.elim) hto up_self hpf.ls).call (fun r14 G14 C14 g14 p14 => ?_)
    obtain ⟨ck14, x, f', hx, hout, _⟩ := p14
    have gi14 := gie.trans g14
    have hld3 := hld2.up gi14
    repeat tb_start
    refine B.itemD (.inl hld3) e2 ?_
    repeat tb_start
    refine B.dictG (fun dh Gh gh hdh => ?_)
    repeat tb_start
    refine B.listC ?_
    repeat tb_start
    refine ⟨Nat.le_of_ble_eq_true rfl, fun fl2 of2 hgf2 hcf2 hff2 hpf2 => ?_⟩
    repeat tb_start
    have gih := gi14.trans gh
    refine B.callOk (value_okk htw 400 (by exact Nat.le_of_ble_eq_true rfl) (R1.le (by exact Nat.le_of_ble_eq_true rfl)) (htm'.up gih) (ρ := rho0) ⟨hdh, by decide, fun x w k => by cases k⟩ ((Fo.ws hR hft hws).mono fun _ h => h.elim) (hlt2.up gih) up_self hpf2.ls).call (fun r15 G15 C15 g15 p15 => ?_)
    obtain ⟨ck15, y, f'', hy, hout2, _⟩ := p15
    obtain ⟨ag1, ag2⟩ := agree hcons' gd.pg p.names hR hsrc hft hout hout2
    repeat tb_start
    match x, hx, ag1, ag2 with
    | some (some k), hx, ag1, ag2 =>
      obtain ⟨u, rfl⟩ := hx
      have ey := ag1 k rfl
      subst ey
      obtain ⟨u2, rfl⟩ := hy
      refine B.isiInt (T := "int") (b := true) (by kernel_rfl) ?_
      repeat tb_start
      rw [show (k != k) = false by simp]
      repeat tb_start
      refine B.eqIntStr ?_
      repeat tb_start
      exact ⟨by walk_at "mine.nm", by walk_at "mine.nm"⟩
    | some none, hx, ag1, ag2 =>
      obtain ⟨u, rfl⟩ := hx
      refine B.isiStr (T := "int") (b := false) (by kernel_rfl) ?_
      repeat tb_start
      rw [show decide (sS "error" = Str.ofString "error") = true from decide_eq_true rfl]
      repeat tb_start
      rcases valA_cases hy with ⟨k, u2, rfl, rfl⟩ | ⟨hne, st, u2, rfl⟩
      · exact absurd rfl (ag2 rfl k)
      · refine B.isiStr (T := "str") (b := true) (by kernel_rfl) ?_
        repeat tb_start
        exact ⟨by walk_at "mine.nm", by walk_at "mine.nm"⟩
    | none, hx, ag1, ag2 =>
      obtain ⟨u, rfl⟩ := hx
      refine B.isiStr (T := "int") (b := false) (by kernel_rfl) ?_
      repeat tb_start
      rw [show decide (sS "long" = Str.ofString "error") = false by decide]
      repeat tb_start
      exact ⟨by walk_at "mine.nm", by walk_at "mine.nm"⟩
  · intro Gi Ci mi hgi inv
    obtain ⟨n1, n2⟩ := inv
    repeat tb_start
    rfl
end
theorem trim_aux (h : Heap) : ∀ n : Nat, (∀ a : Nat, n ≤ a → h.get? a = none) → ∃ b : Heap, (∀ a : Nat, b.get? a = h.get? a) ∧ ∀ h' : Heap, (∀ a o, b.get? a = some o → h'.get? a = some o) → b.objs.size ≤ h'.objs.size
  | 0, hn => ⟨⟨#[], h.life⟩, fun a => by rw [hn a (Nat.zero_le _)]; rfl, fun h' _ => Nat.zero_le _⟩
  | n + 1, hn => by
    cases q : h.get? n with
    | none =>
      have hn' : ∀ a : Nat, n ≤ a → h.get? a = none := fun a ha => by
        rcases Nat.lt_or_ge n a with k | k
        · exact hn a k
        · rw [show a = n by lia]; exact q
      exact trim_aux h n hn'
    | some o =>
      have hlt : n < h.objs.size := Heap.lt_size q
      have key : ∀ a : Nat, (⟨h.objs.extract 0 (n + 1), h.life⟩ : Heap).get? a = h.get? a := fun a => by
        by_cases k : a < n + 1
        · show (match (h.objs.extract 0 (n + 1))[a]? with | some ⟨_, _, .freed, _⟩ => none | o => o) = (match h.objs[a]? with | some ⟨_, _, .freed, _⟩ => none | o => o)
          rw [show (h.objs.extract 0 (n + 1))[a]? = h.objs[a]? by rw [Array.getElem?_extract]; simp; lia]
        · rw [hn a (by lia)]
          show (match (h.objs.extract 0 (n + 1))[a]? with | some ⟨_, _, .freed, _⟩ => none | o => o) = none
          rw [show (h.objs.extract 0 (n + 1))[a]? = none by rw [Array.getElem?_eq_none]; simp; lia]
      refine ⟨_, key, fun h' hk => ?_⟩
      have h3 : n < h'.objs.size := Heap.lt_size (hk n o ((key n).trans q))
      show (h.objs.extract 0 (n + 1)).size ≤ _
      rw [Array.size_extract]
      exact Nat.le_trans (Nat.le_trans (Nat.sub_le _ _) (Nat.min_le_left _ _)) h3
theorem trim (h : Heap) : ∃ b : Heap, (∀ a : Nat, b.get? a = h.get? a) ∧ ∀ h' : Heap, (∀ a o, b.get? a = some o → h'.get? a = some o) → b.objs.size ≤ h'.objs.size :=
  trim_aux h h.objs.size fun a ha => by
    cases q : h.get? a with
    | none => rfl
    | some o => exact absurd (Heap.lt_size q) (Nat.not_lt.mpr ha)
theorem callerRoom : Room callerA 450 := ⟨rfl, by decide, by decide⟩
theorem core_ok (w : World) (s₁ : Shared) (mg mb : Str → Option Value) (loose : List Str) (mean : ExcName → Option Value) (l : Addr) (vs : List Value) (ns : List Int) (X : (K w.params).In s₁.heap) (T : Top qv loose mean mg mb s₁.heap) (hl : s₁.heap.IsList l vs.toArray) (hi : IntsAre vs ns) (hz : vs.length < 2 ^ 62) :
    wpAny (model Pw w) callerA (PySem.call (.ref 684) [.ref l]) (fun v s' => v = .bool true ∧ (∀ b o, s₁.heap.get? b = some o → s'.heap.get? b = some o) ∧ s'.os = s₁.os ∧ s'.gens = s₁.gens) (fun _ _ => False) s₁ := by
  obtain ⟨b, hb, hbz⟩ := trim s₁.heap
  have hk : ∀ a o, s₁.heap.get? a = some o → b.get? a = some o := fun a o e => (hb a).trans e
  have ok : Ok ⟨w, s₁, b⟩ s₁.heap.get? (fun _ => none) s₁.heap :=
    { x := X.keeps hk, t := ⟨_, _, _, _, T.keeps hk⟩, z := hbz, gb := fun a o e => (hb a).symm.trans e, g := fun a o e => e, c := fun a o e => (by cases e), gc := fun a o e => (by cases e) }
  obtain ⟨o, ho, hc, ep, hd⟩ := hl
  have run := (law_ok (D := ⟨w, s₁, b⟩) (A := callerA) (G := s₁.heap.get?) (C := fun _ => none) callerRoom ⟨o, ho, hc, ep, hd⟩ hi hz).call s₁.heap ok s₁.toks
  have e : St ⟨w, s₁, b⟩ s₁.heap s₁.toks = s₁ := by cases s₁; rfl
  rw [e] at run
  refine wpAny_mono run (fun v s' q => ?_) fun _ _ z => z
  obtain ⟨h', tk', rfl, G', C', ok', ext, rfl⟩ := q
  exact ⟨rfl, fun a o e => ok'.g a o (ext.gle ok a o e), rfl, rfl⟩
end Mine
end
set_option maxRecDepth 100000 in
set_option maxHeartbeats 8000000 in
theorem PySem.Challenge.cw_np0239_01_holds : PySem.Challenge.rw_np0239_01.Holds := by
  exact Mine.law_holds Mine.core_ok
